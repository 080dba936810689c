import PyProof.Rows.All
import Wide.All
import OpenK.AllK
import Wide.FinOn
import HandS.ForMost
import HandS.Wide
import HandS.IsInst
import HandS.Walk
import HandS.Flow
import HandS.Property
import HandS.Star
import HandS.DictComp
import HandS.Conv
import HandS.Zip
import HandS.SortKw
import HandS.MapSum
import HandS.Text
import HandS.TryOnly
import HandS.FStr
import HandS.TupAny
import HandS.Codes
import HandS.Replace
import HandS.ReplaceList
import PyProof.StrBlock
import PyProof.RulesMatchSeq
import PyProof.Rows.MatchSeqLen
import KE.GoesEnumKw
import KE.KTurns
import KE.GoesMore
import PyProof.GenRules
import HandS.GenList
import HandS.OwnEq
import HandS.TupLe
import HandS.TryMany
import HandS.ExcInit
import HandS.ExcInitHot
import HandS.ExcIs
import HandS.ExcField
import HandS.WordsExc
import HandS.DeepEq
import HandS.Deep
import KE.KExcInit
import KE.KStateDown
import HandS.Defaults
import HandS.Head0
import HandS.Head1
import HandS.Head2
import HandS.HeadEnd
import HandS.HeadHook1
import HandS.HeadHook2
import PySem.Challenge.RW_allornothing_k08_values_that_are_no_tree
set_option Elab.async false
set_option linter.all false
set_option maxRecDepth 100000
set_option maxHeartbeats 4000000
namespace Aon
open PySem L2
def topS (i : Nat) : Stmt := PySem.Challenge.pw_allornothing_k08_values_that_are_no_tree.main.body.getD i (.Pass ⟨0, 0, 0, 0⟩)

/-! ### words of this text, over HandS -/
theorem bb_int : bootBuiltins "int" = some (.type "int") := by decide +kernel
theorem bb_str : bootBuiltins "str" = some (.type "str") := by decide +kernel
theorem bb_bool : bootBuiltins "bool" = some (.type "bool") := by decide +kernel
theorem bb_list : bootBuiltins "list" = some (.type "list") := by decide +kernel
theorem bb_tuple : bootBuiltins "tuple" = some (.type "tuple") := by decide +kernel
theorem bb_len : bootBuiltins "len" = some (.builtin "len") := by decide +kernel
theorem bb_all : bootBuiltins "all" = some (.builtin "all") := by decide +kernel
theorem bb_isinstance : bootBuiltins "isinstance" = some (.builtin "isinstance") := by decide +kernel
/-- a def that stands under its name: its promise, and how it is called -/
structure Has (P : Program) (w : World) (K : PySem.W.Frag) (mg : Str → Option Value) (base : Heap) (CX : CXT) (k : Nat) (x : Str) (ps : List Str) (sp : Sp) : Prop where
  ex : ∃ (f : Addr) (fd : FuncData), FnOk P w K mg base CX k f fd ps sp ∧ mg x = some (.ref f) ∧ PySem.W.keepIn K (.ref f) = true ∧ Binds K fd ps []
section
variable {X : Cx}
theorem pe_callH {CX : CXT} {k : Nat} {x : Str} {ps : List Str} {sp : Sp} {E : XK} {e : Expr} {es : List Expr} {t : TA} {p pos : Pos} (F : Has X.prog X.w X.K X.mg X.base CX k x ps sp) (hr : Room k X.A) (hg : Gl X x) (hx : Passes CX X E) (ha : PA X (e :: es) t)
    (hd : (x == ("__debug__" : Str)) = false := by decide) (he : starEach (e :: es) X.env = (false, eval e X.env) :: starEach es X.env := by rfl) (hpl : (backTo pos (starEach es X.env)).any (·.1) = false := by rfl) :
    PE X (.Call (.Name x p) (e :: es) [] pos) (tCall sp [] E t) := by
  obtain ⟨f, fd, F, m, kp, b⟩ := F.ex
  exact pe_call F hr hg m kp b .nil hx ha hd he hpl
theorem pe_callH0 {CX : CXT} {k : Nat} {x : Str} {ps : List Str} {sp : Sp} {E : XK} {p pos : Pos} (F : Has X.prog X.w X.K X.mg X.base CX k x ps sp) (hr : Room k X.A) (hg : Gl X x) (hx : Passes CX X E) (hd : (x == ("__debug__" : Str)) = false := by decide) :
    PE X (.Call (.Name x p) [] [] pos) (tCall sp [] E tNil) := by
  obtain ⟨f, fd, F, m, kp, b⟩ := F.ex
  exact pe_call0 F hr hg m kp b .nil hx hd
theorem pe_globE {x : Str} {v : V} {pos : Pos} (hg : Gl X x) (hm : ∃ u, X.mg x = some u ∧ RelV v u) (hd : (x == ("__debug__" : Str)) = false := by decide) : PE X (.Name x pos) (tC v) := by
  obtain ⟨u, m, r⟩ := hm
  exact pe_glob hg m r hd
end
/-- a method of the class at C; a class under its name -/
structure HasM (P : Program) (w : World) (K : PySem.W.Frag) (mg : Str → Option Value) (base : Heap) (CX : CXT) (k : Nat) (C : Addr) (m : Str) (ps : List Str) (sp : Sp) : Prop where
  ex : ∃ (f : Addr) (fd : FuncData), Meth K C m f ∧ FnOk P w K mg base CX k f fd ps sp ∧ Binds K fd ps []
structure HasC (P : Program) (w : World) (K : PySem.W.Frag) (mg : Str → Option Value) (base : Heap) (CX : CXT) (k : Nat) (x : Str) (C : Addr) (ps : List Str) (sp : Sp) : Prop where
  ex : ∃ (f : Addr) (fd : FuncData), Mk K C f ∧ FnOk P w K mg base CX k f fd ps sp ∧ mg x = some (.ref C) ∧ Binds K fd ps []
section
variable {X : Cx}
theorem pe_methH {CX : CXT} {k : Nat} {C : Addr} {m : Str} {ps : List Str} {sp : Sp} {E : XK} {o e : Expr} {es : List Expr} {ta : TE} {t : TA} {apos pos : Pos} {pl : Sem Bool} (he : PE X o ta) (c : Cls X.K C) (M : HasM X.prog X.w X.K X.mg X.base CX k C m ps sp) (hr : Room k X.A) (hx : Passes CX X E)
    (ha : PA X (e :: es) t) (hst : starEach (e :: es) X.env = (false, eval e X.env) :: starEach es X.env := by rfl) (hpl : (backTo pos (starEach es X.env)).any (·.1) = false := by rfl)
    (ht : eval (.Call (.Attribute o m apos) (e :: es) [] pos) X.env = (do
      let v ← eval o X.env
      standAt apos.atName
      let (g, r) ← holding [v] (getMethod v m pl)
      callWith pos g r (backTo pos (starEach (e :: es) X.env)) (backToKw pos (keywordEach [] X.env))) := by rfl) : PE X (.Call (.Attribute o m apos) (e :: es) [] pos) (tMeth C m sp [] E ta t) := by
  obtain ⟨f, fd, hm, F, b⟩ := M.ex
  exact pe_meth (pl := pl) he c hm F hr b .nil hx ha hst hpl ht
theorem pe_methH0 {CX : CXT} {k : Nat} {C : Addr} {m : Str} {ps : List Str} {sp : Sp} {E : XK} {o : Expr} {ta : TE} {apos pos : Pos} {pl : Sem Bool} (he : PE X o ta) (c : Cls X.K C) (M : HasM X.prog X.w X.K X.mg X.base CX k C m ps sp) (hr : Room k X.A) (hx : Passes CX X E)
    (ht : eval (.Call (.Attribute o m apos) [] [] pos) X.env = (do
      let v ← eval o X.env
      standAt apos.atName
      let (g, r) ← holding [v] (getMethod v m pl)
      callWith pos g r (backTo pos (starEach [] X.env)) (backToKw pos (keywordEach [] X.env))) := by rfl) : PE X (.Call (.Attribute o m apos) [] [] pos) (tMeth C m sp [] E ta tNil) := by
  obtain ⟨f, fd, hm, F, b⟩ := M.ex
  exact pe_meth0 (pl := pl) he c hm F hr b .nil hx ht
theorem pe_makeH {CX : CXT} {k : Nat} {x : Str} {C : Addr} {ps : List Str} {sp : Sp} {E : XK} {e : Expr} {es : List Expr} {t : TA} {p pos : Pos} (M : HasC X.prog X.w X.K X.mg X.base CX k x C ps sp) (hr : Room (k + 1) X.A) (hg : Gl X x) (hx : Passes CX X E) (ha : PA X (e :: es) t)
    (hd : (x == ("__debug__" : Str)) = false := by decide) (he : starEach (e :: es) X.env = (false, eval e X.env) :: starEach es X.env := by rfl) (hpl : (backTo pos (starEach es X.env)).any (·.1) = false := by rfl) :
    PE X (.Call (.Name x p) (e :: es) [] pos) (tMake C sp [] E t) := by
  obtain ⟨f, fd, mk, F, m, b⟩ := M.ex
  exact pe_make mk F hr hg m b .nil hx ha hd he hpl
theorem pe_propH {CX : CXT} {k : Nat} {C p : Addr} {f : Str} {ps : List Str} {sp : Sp} {E : XK} {e : Expr} {ta : TE} {pos : Pos} (he : PE X e ta) (c : Cls X.K C) (M : ∃ (g : Addr) (fd : FuncData), PropOf X.K C f p g ∧ FnOk X.prog X.w X.K X.mg X.base CX k g fd ps sp ∧ Binds X.K fd ps []) (hr : Room (k + 1) X.A) (hx : Passes CX X.nox E)
    (hab : attributeBase e f X.env (eval e X.env) = eval e X.env := by rfl) : PE X (.Attribute e f pos) (tProp C sp [] E ta) := by
  obtain ⟨g, fd, hp, F, b⟩ := M
  exact pe_prop he c hp F hr b .nil hx hab
end
/-- all but p and c stands -/
def But (p c : Addr) (H H' : Hp) : Prop := ∀ b o, H b = some o → b ≠ p → b ≠ c → H' b = some o
theorem But.refl {p c : Addr} {H : Hp} : But p c H H := fun _ _ e _ _ => e
theorem But.trans {p c : Addr} {H H1 H2 : Hp} (a : But p c H H1) (b : But p c H1 H2) : But p c H H2 := fun x o e h1 h2 => b x o (a x o e h1 h2) h1 h2
theorem iteE {c : Bool} {A B : Prop} (hc : c = false) (k : B) : if c = true then A else B := by
  rw [hc]
  exact iteF k
theorem iteS {c : Bool} {A B : Prop} (hc : c = true) (k : A) : if c = true then A else B := by
  rw [hc]
  exact iteT k

def dOf : V → PyData
  | .non => .none | .bl b => .bool b | .int i => .int i | .str z => .str z | _ => .none
theorem dp_flat {K : PySem.W.Frag} {H : Hp} {v : V} (h : flatV v = true) : Dp K H v (dOf v) := by
  cases v with
  | non => exact .non
  | bl b => exact .bl b
  | int i => exact .int i
  | str z => exact .str z
  | _ => cases h
theorem dpAll_flat {K : PySem.W.Frag} {H : Hp} : ∀ {xs : List V}, xs.all flatV = true → DpAll K H xs (xs.map dOf)
  | [], _ => .nil
  | x :: xs, h => by
    rw [List.all_cons, Bool.and_eq_true] at h
    exact .cons (dp_flat h.1) (dpAll_flat h.2)
/-! shapes -/
def okV : V → Bool
  | .str z => PyData.strOk z
  | _ => true
theorem lay_dOf {v : V} (h : okV v = true) : (dOf v).canLay0 = true := by
  cases v with
  | str z => simpa [dOf, PyData.canLay0, okV] using h
  | _ => simp [dOf, PyData.canLay0]
theorem layAll_dOf : ∀ {xs : List V}, xs.all okV = true → PyData.canLayAll0 (xs.map dOf) = true
  | [], _ => by simp [PyData.canLayAll0]
  | x :: xs, h => by
    rw [List.all_cons, Bool.and_eq_true] at h
    simp only [List.map_cons, PyData.canLayAll0, Bool.and_eq_true]
    exact ⟨lay_dOf h.1, layAll_dOf h.2⟩
theorem depth_dOf (v : V) : (dOf v).depth = 0 := by cases v <;> simp [dOf, PyData.depth]
theorem depthAll_dOf : ∀ xs : List V, PyData.depthAll (xs.map dOf) = 0
  | [] => by simp [PyData.depthAll]
  | x :: xs => by simp only [List.map_cons, PyData.depthAll, depth_dOf, depthAll_dOf xs]; rfl
theorem shaped_tup {xs : List V} (h : xs.all okV = true) : SeqAt.shaped (.tuple (xs.map dOf)) = true := by
  unfold SeqAt.shaped
  simp only [PyData.canLay0, PyData.depth, layAll_dOf h, depthAll_dOf, Bool.true_and]
  decide

/-! ### {**d, k: v}: the rule -/
section
variable {prog : Program} {w : World} {A : Around} {E : Value → Shared → Prop} {s : Shared}
theorem dput_ok {d : Addr} {kvs : List (Key × Value)} {k : Key} {key v : Value} {Q : Unit → Shared → Prop} (hkey : (mixKind prog w).is k key = true) (hm : s.heap.DictOf (mixKind prog w) d kvs) (hz : kvs.length ≤ sizeLine)
    (hQ : ∀ h', h'.DictOf (mixKind prog w) d (stored kvs k v) → Heap.SameBut d s.heap h' → Q () { s with heap := h' }) :
    wpAny (model prog w) A (dictPut d ((mixKind prog w).hash k) key v) Q E s := by
  obtain ⟨ob, es, ep, e1, e2, e3, e4, e5, e6⟩ := hm
  have z1 : es.size ≤ sizeLine := by
    have q1 := e5.length
    rw [Array.length_toList] at q1
    omega
  have fe : (es.findIdx? fun e => (mixKind prog w).is k e.key) = kvs.findIdx? fun kv => decide (kv.1 = k) := by
    rw [← e5.findIdx k]
    cases es with
    | mk l => simp
  unfold dictPut
  refine wpAny_bind (wpAny_dictFind_of hkey e1 e3 e4 ?_)
  cases fi : es.findIdx? fun e => (mixKind prog w).is k e.key with
  | some i =>
    have an : (kvs.any fun kv => decide (kv.1 = k)) = true := any_of_findIdx_some (fe ▸ fi)
    refine wpAny_updateDict e1 e3 (hQ _ ⟨_, _, ep, Heap.get?_update_self _ e1 (Obj.isFreed_of_dict (Obj.data_mapDict e3 _)), e2.mapDict _, Obj.data_mapDict e3 _, e4.modify _ _, ?_, ?_⟩ (Heap.SameBut.update ..))
    · unfold stored
      rw [if_pos an]
      have fl : (es.toList.findIdx? fun e => (mixKind prog w).is k e.key) = some i := by
        rw [← fi]
        cases es with
        | mk l => simp
      have r := e5.modify e6 fl v
      cases es with
      | mk l => simpa using r
    · unfold stored
      rw [if_pos an, keys_map_store]
      exact e6
  | none =>
    have nm : k ∉ kvs.map (·.1) := not_mem_of_findIdx_none (fe ▸ fi)
    have an : ¬ (kvs.any fun kv => decide (kv.1 = k)) = true := fun z => by
      obtain ⟨kv, m, q⟩ := List.any_eq_true.mp z
      exact nm (List.mem_map.mpr ⟨kv, m, of_decide_eq_true q⟩)
    refine wpAny_updateDictKeys (hz := z1) e1 e3 (hQ _ ⟨_, _, ep + 1, Heap.get?_update_self _ e1 (Obj.isFreed_of_dict (Obj.data_mapDictKeys e3 _)), e2.mapDictKeys _, Obj.data_mapDictKeys e3 _, e4.push hkey _, ?_, ?_⟩ (Heap.SameBut.update ..))
    · unfold stored
      rw [if_neg an]
      have r := e5.append hkey ((mixKind prog w).hash k) v
      cases es with
      | mk l => simpa using r
    · unfold stored
      rw [if_neg an, List.map_append, List.nodup_append]
      exact ⟨e6, by simp, fun a ha b hb z => nm (by
        have : b = k := by simpa using hb
        rw [← this, ← z]
        exact ha)⟩
theorem noref_loop {es : Array DictEntry} (hk : KeysOf (mixKind prog w) es) {f : DictEntry → PUnit → Sem (ForInStep PUnit)} (hf : ∀ e u, (∀ a, e.key ≠ .ref a) → f e u = pure (.yield PUnit.unit)) {Q : PUnit → Shared → Prop} (h : Q PUnit.unit s) :
    wpAny (model prog w) A (forIn es PUnit.unit f) Q E s := by
  rw [← Array.forIn_toList]
  have all : ∀ e ∈ es.toList, ∀ a, e.key ≠ Value.ref a := fun e he a z => by
    obtain ⟨k, q, _⟩ := hk e (by simpa using he)
    rcases keyIs_shape (k := k) (v := e.key) q with ⟨_, _, _, q⟩ | ⟨_, _, _, q⟩ <;> (rw [z] at q; cases q)
  refine wpAny_forIn_list f (fun rest _ s' => (∀ e ∈ rest, ∀ a, e.key ≠ Value.ref a) ∧ s' = s) Q ?_ ?_ es.toList PUnit.unit ⟨all, rfl⟩
  · rintro e rest b s' ⟨ha, rfl⟩
    rw [hf e b (ha e (List.mem_cons_self ..))]
    exact wpAny_pure ⟨fun x hx => ha x (List.mem_cons_of_mem _ hx), rfl⟩
  · rintro b s' ⟨_, rfl⟩
    exact h
theorem mergeMap_ok {d o : Addr} {kvs more : List (Key × Value)} {Q : Unit → Shared → Prop} (hdo : d ≠ o) (hoS : (o == sysModules) = false) (hd : s.heap.DictOf (mixKind prog w) d kvs) (ho : s.heap.DictOf (mixKind prog w) o more)
    (hz : kvs.length + more.length ≤ sizeLine) (hQ : ∀ h', h'.DictOf (mixKind prog w) d (merged kvs more) → Heap.SameBut d s.heap h' → Q () { s with heap := h' }) :
    wpAny (model prog w) A (mergeMapping d (.ref o) false) Q E s := by
  have ty := ho.typeIs
  obtain ⟨od, esd, epd, d1, d2, d3, d4, d5, d6⟩ := id hd
  obtain ⟨oo, es, ep, o1, o2, o3, o4, o5, o6⟩ := id ho
  have hlen : more.length = es.size := by rw [← o5.length]; simp
  unfold mergeMapping
  refine wpAny_bind (wpAny_isInstance ty isSubtype_dict_dict ?_)
  simp only [if_true]
  refine wpAny_bind (wpAny_specialOf ty F.slot_dict_iter.lookup ?_)
  simp only [beq_self_eq_true, Bool.false_eq_true, if_false]
  refine wpAny_bind (wpAny_pure ?_)
  dsimp only
  rw [if_neg (by rw [hoS]; exact Bool.false_ne_true)]
  refine wpAny_bind (wpAny_dictEntries d1 d3 ?_)
  have loop : wpAny (model prog w) A (do
      let l ← dictEntries o
      let epoch ← dictEpoch o
      forIn (List.range l.size) PUnit.unit fun i _ => (do
          let l' ← dictEntries o
          match l'[i]? with
            | some e => do
              holding [e.key, e.val] (dictPut d e.hash e.key e.val)
              let ep' ← dictEpoch o
              if (ep' != epoch) = true then do
                  (unsupported "dict.changed-during-merge" : Sem PUnit)
                  pure (ForInStep.yield PUnit.unit)
                else pure (ForInStep.yield PUnit.unit)
            | _ => do
              (unsupported "dict.changed-during-merge" : Sem PUnit)
              pure (ForInStep.yield PUnit.unit) : Sem (ForInStep PUnit))
      pure ()) Q E s := by
    refine wpAny_bind (wpAny_dictEntries o1 o3 (wpAny_bind (wpAny_dictEpoch o1 o3 (wpAny_bind ?_))))
    refine wpAny_forIn_list _ (fun rest _ s' => ∃ (h' : Heap) (i : Nat), s' = { s with heap := h' } ∧ rest = (List.range es.size).drop i ∧ i ≤ es.size ∧ h'.DictOf (mixKind prog w) d (merged kvs (more.take i)) ∧ h'.get? o = some oo ∧ Heap.SameBut d s.heap h') _ ?_ ?_ _ _
      ⟨s.heap, 0, rfl, rfl, Nat.zero_le _, by simpa [merged] using hd, o1, Heap.SameBut.refl _ _⟩
    · rintro x rest b s' ⟨h', i, rfl, hr, hi, hd', ho', hs'⟩
      have hlt : i < es.size := by
        rcases Nat.lt_or_ge i es.size with q | q
        · exact q
        · rw [List.drop_of_length_le (by simpa using q)] at hr
          cases hr
      rw [List.drop_eq_getElem_cons (by simpa using hlt), List.getElem_range] at hr
      injection hr with hx hr
      subst hx
      refine wpAny_bind (wpAny_dictEntries ho' o3 ?_)
      rw [Array.getElem?_eq_getElem hlt]
      obtain ⟨⟨k, v⟩, hkv⟩ : ∃ kv, more[x]? = some kv := ⟨more[x]'(by omega), by simp [hlen, hlt]⟩
      obtain ⟨hkey, hval⟩ := o5.get? (e := es[x]) (by simp [hlt]) hkv
      obtain ⟨k', hkey', hhash⟩ := o4 es[x] (Array.getElem_mem hlt)
      obtain rfl : k' = k := (mixKind prog w).inj _ _ _ hkey' hkey
      show wpAny _ _ (holding [es[x].key, es[x].val] (dictPut d es[x].hash es[x].key es[x].val) >>= _) _ _ _
      rw [hhash, hval]
      have q1 := merged_length_le kvs (more.take x)
      have q2 : (more.take x).length ≤ more.length := by rw [List.length_take]; omega
      refine wpAny_bind (wpAny_holding (dput_ok hkey hd' (by omega) fun h2 hd2 hs2 => ?_))
      have ho2 : h2.get? o = some oo := (hs2.2 o (Ne.symm hdo)).trans ho'
      refine wpAny_bind (wpAny_dictEpoch ho2 o3 ?_)
      rw [if_neg (by simp)]
      exact wpAny_pure ⟨h2, x + 1, rfl, hr, hlt, by rw [merged_take_succ kvs more x (k', v) hkv]; exact hd2, ho2, hs'.trans hs2⟩
    · rintro b s' ⟨h', i, rfl, hr, hi, hd', ho', hs'⟩
      have e : i = es.size := by
        rcases Nat.lt_or_ge i es.size with q | q
        · rw [List.drop_eq_getElem_cons (by simpa using q)] at hr
          cases hr
        · omega
      rw [e, ← hlen, List.take_length] at hd'
      exact wpAny_pure (hQ h' hd' hs')
  split
  · refine wpAny_bind (wpAny_dictEntries o1 o3 (wpAny_bind (noref_loop o4 (fun e u hne => ?_) loop)))
    split
    · rename_i a q
      exact absurd q (hne a)
    · rfl
  · exact loop
end
/-- what is asked of the mapping and the pair; the new dict stands at p -/
def tDstar (td tk tv : TE) : TE := fun σ H Q => ∀ p, H p = none → td σ (upd H p (.dK [])) fun x H1 => ∃ (a : Addr) (kvs : List (Key × V)), x = .ref a ∧ a ≠ p ∧ Rd H1 a (.dK kvs) ∧ H1 p = some (.dK []) ∧ kvs.length ≤ 1000 ∧
  ∀ q, H1 q = none → tk σ (upd (upd H1 p (.dK kvs)) q (.dK [])) fun y H2 => tv σ H2 fun z H3 => ∃ k : Key, y = kV k ∧ H3 p = some (.dK kvs) ∧ H3 q = some (.dK []) ∧ Q (.ref p) (upd (upd H3 q (.dK [(k, z)])) p (.dK (putK kvs k z)))
section
variable {X : Cx}
theorem dictDisplay_star (m k v : Sem Value) : dictDisplay [(none, m), (some k, v)] = (do
    let d ← alloc { cls := .type "dict", data := .dict #[] }
    let x ← holding [.ref d] m
    (((holding [.ref d, x] (mergeMapping d x false)).onRaise fun y => do let _ ← holding [.ref d, x, y] (runValue (.builtin "proto.let_go" {}))).tryCatch fun e => do
        if ← isInstance e (.type "AttributeError") then
          rule "dict.display.not-a-mapping"; raiseError "TypeError" s!"'{← typeNameOf x}' object is not a mapping"
        throw e).onRaise fun y => do let _ ← holding [.ref d, y] (runValue (.builtin "proto.let_go" {}))
    let sub ← holding [.ref d] (subDict [(k, v)])
    (holding [.ref d, .ref sub] (mergeMapping d (.ref sub) false)).onRaise fun y => do let _ ← holding [.ref d, y] (runValue (.builtin "proto.let_go" {}))
    pure (.ref d)) := by
  unfold dictDisplay
  simp [List.forIn_cons, List.forIn_nil]
theorem stored_nodup {kvs : List (Key × Value)} : (kvs.map (·.1)).Nodup → merged ([] : List (Key × Value)) kvs = kvs := merged_nil_of_nodup kvs
theorem kv_put {kvs : List (Key × V)} {vs : List (Key × Value)} (r : KV kvs vs) (k : Key) {z : V} {u : Value} (rz : RelV z u) : KV (putK kvs k z) (stored vs k u) := r.put k rz
theorem pe_dstar {d k v : Expr} {td tk tv : TE} {pos : Pos} (hd : PE X d td) (hk : PE X k tk) (hv : PE X v tv) : PE X (.Dict [none, some k] [d, v] pos) (tDstar td tk tv) := by
  refine ⟨fun pins s σ H Q I h => ?_⟩
  rw [arm_eval_Dict]
  refine wpAny_bind (wpAny_standAt ?_)
  show wpAny _ _ (dictDisplay [(none, do let x ← eval d X.env; standAt pos; pure x), (some (eval k X.env), do let x ← eval v X.env; standAt pos; pure x)]) _ _ _
  rw [dictDisplay_star]
  refine wpAny_bind (wpAny_alloc ?_)
  have hn := I.hok.fresh (Nat.le_refl s.heap.objs.size)
  have I1 := I.laid (a := s.heap.objs.size) (o := .dK []) (h' := s.heap.push { cls := .type "dict", data := .dict #[] }) (t' := s.toks) (fun _ _ q => Heap.get?_push_of_some _ q) (Nat.le_refl _) (dk_empty s.heap I.big)
  refine wpAny_bind (wpAny_holding (wpAny_bind (thn (hd.run pins _ σ _ _ I1 (h _ hn)) fun xv s1 hh => ?_)))
  obtain ⟨x, H1, J1, rx, a, kvs, ex, nap, ea, ep, hl, hq⟩ := hh
  subst ex
  obtain rfl : xv = Value.ref a := rx
  refine wpAny_bind (wpAny_standAt (wpAny_pure ?_))
  obtain ⟨_, ma, va, ra, da⟩ := dk_rd J1.hok ea
  obtain ⟨_, mp, vp, rp, dp⟩ := dk_of J1.hok ep
  cases rp
  have lva : va.length ≤ 1000 := by rw [← ra.length]; exact hl
  have ndv : (va.map (·.1)).Nodup := by
    obtain ⟨_, _, _, _, _, _, _, _, nd⟩ := da
    exact nd
  refine wpAny_bind (wpAny_onRaise (wpAny_tryCatch (wpAny_onRaise (wpAny_holding (mergeMap_ok (Ne.symm nap) ma dp da (by rw [sizeLine_eq, List.length_nil]; omega) fun h2 d2 s2 => ?_)))))
  rw [stored_nodup ndv] at d2
  have kz : kvs.length ≤ sizeLine := by rw [sizeLine_eq]; omega
  have J2 : Inv X pins σ (upd H1 s.heap.objs.size (.dK kvs)) { s1 with heap := h2, toks := s1.toks } :=
    d_write J1 (by rw [ep]; exact True.intro) s2 (let ⟨q, _, _, hq, _⟩ := d2; ⟨q, hq⟩) (dk_new kz mp ra d2)
  have hq2 : H1 h2.objs.size = none := by
    have f2 := J2.hok.fresh (Nat.le_refl h2.objs.size)
    have ne : h2.objs.size ≠ s.heap.objs.size := fun z => by
      rw [z, upd_same] at f2
      cases f2
    rw [upd_ne ne] at f2
    exact f2
  have J3 := J2.laid (a := h2.objs.size) (o := .dK []) (h' := h2.push { cls := .type "dict", data := .dict #[] }) (t' := s1.toks) (fun _ _ q => Heap.get?_push_of_some _ q) (Nat.le_refl _) (dk_empty h2 J2.big)
  refine wpAny_bind (wpAny_holding (wpAny_subDict (knd := mixKind X.prog X.w) (show 1 ≤ 15 by decide) ?_))
  unfold evalPairs
  refine wpAny_bind (thn (hk.run pins _ σ _ _ J3 (hq _ hq2)) fun kv s4 hh => ?_)
  obtain ⟨y, H4, J4, ry, hv4⟩ := hh
  refine wpAny_bind (wpAny_holding (wpAny_bind (thn (hv.run pins s4 σ H4 _ J4 hv4) fun vv s5 hh => ?_)))
  obtain ⟨z, H5, J5, rz, ky, ey, e5p, e5q, fin⟩ := hh
  subst ey
  refine wpAny_bind (wpAny_standAt (wpAny_pure (wpAny_bind ?_)))
  unfold evalPairs
  refine wpAny_holding (wpAny_pure (wpAny_pure ?_))
  obtain ⟨_, mq, vq, rq, dq⟩ := dk_of J5.hok e5q
  cases rq
  refine ⟨[(ky, vv)], ⟨kV_is ry, rfl, trivial⟩, dq, fun h6 d6 s6 => ?_⟩
  have d6' : h6.DictOf (mixKind X.prog X.w) h2.objs.size [(ky, vv)] := d6
  have J6 : Inv X pins σ (upd H5 h2.objs.size (.dK [(ky, z)])) { s5 with heap := h6, toks := s5.toks + 1 } :=
    d_write J5 (by rw [e5q]; exact True.intro) s6 (let ⟨q, _, _, hq, _⟩ := d6; ⟨q, hq⟩) (dk_new (by show 1 ≤ sizeLine; decide) mq (Paired.cons ⟨rfl, rz⟩ Paired.nil) d6')
  have npq : s.heap.objs.size ≠ h2.objs.size := fun z => by
    rw [z] at e5p
    have q := e5p.symm.trans e5q
    have f2 := J2.hok.fresh (Nat.le_refl h2.objs.size)
    rw [z, upd_same] at f2
    cases f2
  have e6p : upd H5 h2.objs.size (.dK [(ky, z)]) s.heap.objs.size = some (.dK kvs) := by rw [upd_ne npq]; exact e5p
  obtain ⟨_, mp6, v6, r6, d6p⟩ := dk_of J6.hok e6p
  refine wpAny_bind (wpAny_onRaise (wpAny_holding (mergeMap_ok npq mq d6p d6' (by rw [← r6.length, sizeLine_eq]; show kvs.length + 1 ≤ _; omega) fun h7 d7 s7 => ?_)))
  have pl : (putK kvs ky z).length ≤ sizeLine := by
    have := length_putK kvs ky z
    rw [sizeLine_eq]
    omega
  have J7 : Inv X pins σ (upd (upd H5 h2.objs.size (.dK [(ky, z)])) s.heap.objs.size (.dK (putK kvs ky z))) { s5 with heap := h7, toks := s5.toks + 1 } :=
    d_write (s := { s5 with heap := h6, toks := s5.toks + 1 }) (t' := s5.toks + 1) J6 (by rw [e6p]; exact True.intro) s7 (let ⟨q, _, _, hq, _⟩ := d7; ⟨q, hq⟩) (dk_new pl mp6 (kv_put r6 ky rz) d7)
  exact wpAny_pure ⟨.ref s.heap.objs.size, _, J7, rfl, fin⟩
theorem call_dictOf : CallR X (.type "dict") (fun xs H Q => ∃ (a : Addr) (kvs : List (Key × V)), xs = [.ref a] ∧ Rd H a (.dK kvs) ∧ ∀ p, H p = none → Q (.ref p) (upd H p (.dK kvs))) := by
  intro pins s σ H xs us Q I r h
  obtain ⟨a, kvs, rfl, ea, q⟩ := h
  obtain ⟨u, rfl, ru⟩ := vals1 r
  obtain rfl : u = Value.ref a := ru
  exact d_copyOf I ea fun p s' hp I' => ⟨.ref p, _, I', rfl, q p hp⟩
end

/-! ### match: texts, None, names, sequences (of tuples) -/
abbrev BS := List (Nat × V)
abbrev TPat := V → Hp → (Option BS → Hp → Prop) → Prop
abbrev TPats := List V → Hp → (Option BS → Hp → Prop) → Prop
section
variable {X : Cx}
/-- the slots and what they are to hold -/
def BindR (X : Cx) : BS → List (Str × Value) → Prop := Paired fun (a : Nat × V) (b : Str × Value) => X.N[a.1]? = some b.1 ∧ Loc X.env.scope b.1 ∧ (X.fn b.1 = true ∨ X.env.scope.names.lookup b.1 = some .local) ∧ RelV a.2 b.2
def OptR (X : Cx) : Option BS → Option (List (Str × Value)) → Prop
  | none, none => True
  | some a, some b => BindR X a b
  | _, _ => False
def MP (X : Cx) (pins : List (Addr × Obj)) (σ : L2.St) (Q : Option BS → Hp → Prop) (r : Option (List (Str × Value))) (s' : Shared) : Prop := ∃ r' H', Inv X pins σ H' s' ∧ OptR X r' r ∧ Q r' H'
structure PPat (X : Cx) (p : Pattern) (t : TPat) : Prop where
  run : ∀ (pins : List (Addr × Obj)) (s : Shared) (σ : L2.St) (H : Hp) (x : V) (u : Value) (Q : Option BS → Hp → Prop), Inv X pins σ H s → RelV x u → t x H Q → wpAny (model X.prog X.w) X.A (matchPattern p X.env u) (MP X pins σ Q) X.xe s
structure PPats (X : Cx) (ps : List Pattern) (t : TPats) : Prop where
  run : ∀ (pins : List (Addr × Obj)) (s : Shared) (σ : L2.St) (H : Hp) (xs : List V) (us : List Value) (Q : Option BS → Hp → Prop), Inv X pins σ H s → Vals xs us → t xs H Q → wpAny (model X.prog X.w) X.A (matchEach ps X.env us) (MP X pins σ Q) X.xe s
/-- a written text -/
def mStr (z : Str) : TPat := fun x H Q => scal x (.str z) = true ∧ Q (if x = .str z then some [] else none) H
theorem pm_str {z : Str} {j : Nat} {p pos : Pos} : PPat X (.MatchValue (.Constant (.str z) j p) pos) (mStr z) := by
  refine ⟨fun pins s σ H x u Q I rx h => ?_⟩
  obtain ⟨hs, q⟩ := h
  refine wpAny_matchPattern_Value (Calls.Constant_str ?_)
  refine wpAny_mono (op_eq pins _ σ H x (.str z) u _ (fun v H' => v = .bl (decide (x = .str z)) ∧ H' = H) (I.tok _) rx ⟨_, rfl⟩ ⟨hs, rfl, rfl⟩) (fun c s2 hc => ?_) fun _ _ z => z
  obtain ⟨v, H', I2, r2, rfl, rfl⟩ := hc
  cases r2
  refine wpAny_truthy_bool ?_
  by_cases e : x = .str z
  · rw [if_pos e] at q
    rw [decide_eq_true e, if_pos rfl]
    exact ⟨some [], H', I2, .nil, q⟩
  · rw [if_neg e] at q
    rw [decide_eq_false e, if_neg (by decide)]
    exact ⟨none, H', I2, trivial, q⟩
def mNon : TPat := fun x H Q => Q (if x = .non then some [] else none) H
theorem pm_non {pos : Pos} : PPat X (.MatchSingleton .none pos) mNon := by
  refine ⟨fun pins s σ H x u Q I rx h => ?_⟩
  show wpAny _ _ (pure (match Const.none, u with | .none, .none => some [] | .bool a, .bool b => if a == b then some [] else none | _, _ => none)) _ _ _
  refine wpAny_pure ?_
  have h : Q (if x = .non then some [] else none) H := h
  cases x with
  | non =>
    cases rx
    rw [if_pos rfl] at h
    exact ⟨some [], H, I, .nil, h⟩
  | _ =>
    rw [if_neg (by intro z; cases z)] at h
    refine ⟨none, H, I, ?_, h⟩
    first
      | (cases rx; trivial)
      | (obtain ⟨_, rfl⟩ := rx; trivial)
/-- a name, in slot i -/
def mAs (i : Nat) : TPat := fun x H Q => Q (some [(i, x)]) H
theorem pm_as {i : Nat} {n : Str} {pos : Pos} (hi : X.N[i]? = some n) (hl : Loc X.env.scope n) (hf : X.fn n = true ∨ X.env.scope.names.lookup n = some .local := by first | exact .inl rfl | exact .inr rfl) : PPat X (.MatchAs none (some n) pos) (mAs i) := by
  refine ⟨fun pins s σ H x u Q I rx h => wpAny_matchPattern_Capture ?_⟩
  exact ⟨some [(i, x)], H, I, .cons ⟨hi, hl, hf, rx⟩ .nil, h⟩
def mWild : TPat := fun _ H Q => Q (some []) H
theorem pm_wild {pos : Pos} : PPat X (.MatchAs none none pos) mWild := ⟨fun pins s σ H x u Q I rx h => wpAny_matchPattern_Capture ⟨some [], H, I, .nil, h⟩⟩
def mNil : TPats := fun _ H Q => Q (some []) H
def mCons (t : TPat) (ts : TPats) : TPats := fun xs H Q => ∃ x r, xs = x :: r ∧ t x H fun b H1 => match b with
  | none => Q none H1
  | some bs => ts r H1 fun b2 H2 => match b2 with
    | none => Q none H2
    | some more => Q (some (bs ++ more)) H2
theorem pms_nil : PPats X [] mNil := ⟨fun pins s σ H xs us Q I r h => wpAny_matchEach_nil ⟨some [], H, I, .nil, h⟩⟩
theorem bindR_app {a b : BS} {c d : List (Str × Value)} (h : BindR X a c) (k : BindR X b d) : BindR X (a ++ b) (c ++ d) := by
  induction h with
  | nil => exact k
  | cons r _ ih => exact .cons r ih
theorem pms_cons {p : Pattern} {ps : List Pattern} {t : TPat} {ts : TPats} (h1 : PPat X p t) (h2 : PPats X ps ts) (hs : p.isStar = false := by rfl) : PPats X (p :: ps) (mCons t ts) := by
  refine ⟨fun pins s σ H xs us Q I r h => ?_⟩
  obtain ⟨x, xr, rfl, h⟩ := h
  cases r with
  | cons rx rr =>
    refine wpAny_matchEach_cons (wpAny_mono (h1.run pins s σ H x _ _ I rx h) (fun b s1 q => ?_) fun _ _ z => z) hs
    obtain ⟨b', H1, I1, rb, q⟩ := q
    cases b' with
    | none =>
      cases b with
      | none => exact ⟨none, H1, I1, trivial, q⟩
      | some _ => exact False.elim rb
    | some bs =>
      cases b with
      | none => exact False.elim rb
      | some bv =>
        refine wpAny_mono (h2.run pins s1 σ H1 xr _ _ I1 rr q) (fun b2 s2 q2 => ?_) fun _ _ z => z
        obtain ⟨c', H2, I2, rc, q2⟩ := q2
        cases c' with
        | none =>
          cases b2 with
          | none => exact ⟨none, H2, I2, trivial, q2⟩
          | some _ => exact False.elim rc
        | some cs =>
          cases b2 with
          | none => exact False.elim rc
          | some cv => exact ⟨some (bs ++ cs), H2, I2, bindR_app rb rc, q2⟩
/-- a sequence of n patterns, of a tuple -/
def mSeq (K : PySem.W.Frag) (n : Nat) (ts : TPats) : TPat := fun x H Q => ∃ a xs, x = .ref a ∧ SqT K H a xs ∧ if xs.length = n then ts xs H Q else Q none H
theorem pm_seq {ps : List Pattern} {ts : TPats} {n : Nat} {pos : Pos} (hc : X.calm = true) (h : PPats X ps ts) (hn : ps.length = n := by rfl) (hstar : ps.findIdx? (·.isStar) = none := by rfl) (hwild : (ps.all fun p => p.isWildcard || (p.isStar && p.names.isEmpty)) = false := by rfl) : PPat X (.MatchSequence ps pos) (mSeq X.K n ts) := by
  refine ⟨fun pins s σ H x u Q I rx h' => ?_⟩
  obtain ⟨a, xs, rfl, hq, h'⟩ := h'
  obtain rfl : u = Value.ref a := rx
  obtain ⟨its, rv, ht, hz⟩ := I.tuple hq
  have lx : its.toArray.size = xs.length := by simpa using rv.length.symm
  have fit : ((its.toArray.size : Nat) : Int) < 2 ^ 63 := by
    have e : (2 : Int) ^ 63 = 9223372036854775808 := by decide
    have : sizeLine < 1000000000 := by decide
    rw [e]
    omega
  by_cases hl : xs.length = n
  · rw [if_pos hl] at h'
    refine PyProof.Rows.matchSeq_tuple_hit ht fit (by omega) ?_ hstar hwild
    have e : ps.length = its.toArray.size := by omega
    rw [e]
    refine PyProof.Rows.unpackItems_tuple (s := { s with toks := s.toks + 1 + 1 }) (I.ok.hd hc) ht fun h2 he => ?_
    have I2 : Inv X pins σ H { s with heap := h2, toks := s.toks + 1 + 1 } := I.kept (t' := s.toks + 1 + 1) fun b o q => he b o (Nat.ne_of_lt (Heap.lt_size q)) q
    exact h.run pins _ σ H xs _ Q I2 (by simpa using rv) h'
  · rw [if_neg hl] at h'
    exact PyProof.Rows.matchSeq_tuple_miss ht fit (by omega) ⟨none, H, I.tok _, trivial, h'⟩ hstar hwild
/-! the cases -/
def setAll (σ : L2.St) : BS → L2.St
  | [] => σ
  | (i, v) :: r => setAll (σ.set i (some v)) r
abbrev TCs := V → TS
structure PCs (X : Cx) (cs : List MatchCase) (t : TCs) : Prop where
  run : ∀ (pins : List (Addr × Obj)) (s : Shared) (σ : L2.St) (H : Hp) (x : V) (u : Value) (b : Bool) (D : Ends), Inv X pins σ H s → RelV x u → t x D σ H → wpAny (model X.prog X.w) X.A (matchCases cs X.env u b) (SP X pins D) X.xe s
theorem bind_all (hN : X.N.Nodup) {pins : List (Addr × Obj)} {H : Hp} {bs : BS} {vs : List (Str × Value)} (r : BindR X bs vs) : ∀ {σ : L2.St} {s : Shared} {Q : Unit → Shared → Prop}, Inv X pins σ H s → (∀ s', Inv X pins (setAll σ bs) H s' → Q () s') → wpAny (model X.prog X.w) X.A (assignInOrder (vs.map fun (n, _) => bindName X.env n) (vs.map (·.2))) Q X.xe s := by
  unfold BindR at r
  induction r with
  | nil => intro σ s Q I h; exact wpAny_assignInOrder_none (h s I)
  | cons r rr ih =>
    rename_i a b bs vs
    intro σ s Q I h
    obtain ⟨i, v⟩ := a
    obtain ⟨n, u⟩ := b
    obtain ⟨r1, r2, r3, r4⟩ := r
    exact wpAny_assignInOrder_more (wpAny_bindName (store_ok I hN r1 r2 r4 (fun s' I' => ih I' h) r3))
def tCs0 : TCs := fun _ D σ H => D.nx σ H
theorem pcs_nil : PCs X [] tCs0 := ⟨fun pins s σ H x u b D I r h => wpAny_matchCases_nil ⟨σ, H, I, h⟩⟩
def tCsC (tp : TPat) (tb : TS) (tr : TCs) : TCs := fun x D σ H => tp x H fun r H1 => match r with
  | none => tr x D σ H1
  | some bs => tb D (setAll σ bs) H1
theorem pcs_cons {p : Pattern} {body : List Stmt} {rest : List MatchCase} {tp : TPat} {tb : TS} {tr : TCs} (hN : X.N.Nodup) (hp : PPat X p tp) (hb : PSs X body tb) (hr : PCs X rest tr) : PCs X (⟨p, none, body⟩ :: rest) (tCsC tp tb tr) := by
  refine ⟨fun pins s σ H x u b D I r h => ?_⟩
  refine wpAny_matchCases_cons (wpAny_mono (hp.run pins s σ H x u _ I r h) (fun c s1 q => ?_) fun _ _ z => z)
  obtain ⟨c', H1, I1, rc, q⟩ := q
  cases c' with
  | none =>
    cases c with
    | none => exact hr.run pins s1 σ H1 x u false D I1 r q
    | some _ => exact False.elim rc
  | some bs =>
    cases c with
    | none => exact False.elim rc
    | some vs => exact bind_all hN rc I1 fun s2 I2 => hb.run pins s2 _ H1 D I2 q
def tMatch (te : TE) (tc : TCs) : TS := fun D σ H => te σ H fun x H1 => tc x D σ H1
theorem ps_match {e : Expr} {cs : List MatchCase} {te : TE} {tc : TCs} {pos : Pos} (he : PE X e te) (hc : PCs X cs tc) : PS X (.Match e cs pos) (tMatch te tc) := by
  refine ⟨fun pins s σ H D I h => ?_⟩
  exact wpAny_Match (thn (he.run pins s σ H _ I h) fun u s1 ⟨x, H1, I1, rx, q⟩ => hc.run pins s1 σ H1 x u true D I1 rx q)
end

/-! ### the pool: _law_pool, _law_mixed, _law_draw -/
abbrev sMixed : Stmt := topS 65
abbrev NMixed : List Str := ["_law_number", "_law_count", "_law_many"]
abbrev PMixed : List Str := ["_law_number", "_law_count", "_law_many"]
theorem scMixed : FnScope NMixed PMixed (defScope sMixed) := ⟨rfl, rfl, rfl, by decide +kernel, rfl, by decide +kernel, by decide +kernel⟩
abbrev sDraw : Stmt := topS 66
abbrev NDraw : List Str := ["_law_pool_here", "_law_many", "_law_at", "_law_cells", "_law_cell"]
abbrev PDraw : List Str := ["_law_pool_here", "_law_many"]
theorem scDraw : FnScope NDraw PDraw (defScope sDraw) := ⟨rfl, rfl, rfl, by decide +kernel, rfl, by decide +kernel, by decide +kernel⟩
abbrev sPool : Stmt := topS 64
abbrev NPool : List Str := ["_law_script", "_law_cells", "_law_cell", "_law_seed"]
abbrev PPool : List Str := ["_law_script"]
theorem scPool : FnScope NPool PPool (defScope sPool) := ⟨rfl, rfl, rfl, by decide +kernel, rfl, by decide +kernel, by decide +kernel⟩
/-- the pool at p, its cells at c; lim is its last item; at most n draws so far -/
def PoolAt (H : Hp) (p c : Addr) (lim : V) (n : Nat) : Prop :=
  ∃ (i : Nat) (cells : List Int) (cnt seed mode : Int), H p = some (.lst [.ref c, .int (i : Int), .int cnt, .int seed, .int mode, lim]) ∧ H c = some (.lst (cells.map V.int)) ∧
    i ≤ cells.length ∧ 0 ≤ cnt ∧ cnt ≤ (n : Int) ∧ 0 ≤ seed ∧ seed < 2147483647
def spMixed : Sp := fun vs H Q _ => ∃ (n c m : Int), vs = [.int n, .int c, .int m] ∧ 0 ≤ n ∧ n < 2147483647 ∧ 0 ≤ c ∧ c ≤ 1000000000000 ∧ 0 < m ∧ ∀ r : Int, 0 ≤ r → r < m → Q (.int r) H
def spDraw : Sp := fun vs H Q _ => ∃ (p c : Addr) (lim : V) (n : Nat) (m : Int), vs = [.ref p, .int m] ∧ PoolAt H p c lim n ∧ n < 1000000000000 ∧ 0 < m ∧ m ≤ 1000000000000000000 ∧
  ∀ (r : Int) (H' : Hp), 0 ≤ r → r < m → PoolAt H' p c lim (n + 1) → But p c H H' → Q (.int r) H'
def spPool (K : PySem.W.Frag) : Sp := fun vs H Q _ => ∃ (a : Addr) (ns : List Int), vs = [.ref a] ∧ SqL K H a (ns.map V.int) ∧ ns.length ≤ 63 ∧
  ∀ (p c : Addr) (H' : Hp), Same H H' → H p = none → H c = none → PoolAt H' p c (.int 30) 0 → Q (.ref p) H'
structure TxPool (mg : Str → Option Value) : Prop where
  n_int : mg "int" = none
  n_len : mg "len" = none
theorem pool_ne {H : Hp} {p c : Addr} {xs : List V} {cells : List Int} (hp : H p = some (.lst (.ref c :: xs))) (hc : H c = some (.lst (cells.map V.int))) : p ≠ c := ne_of hp hc (by
  intro z
  injection z with z
  cases cells with
  | nil => cases z
  | cons a r => injection z with z _; cases z)
theorem pow_lt {n c : Int} (h1 : 0 ≤ n) (h2 : n < 2147483647) (h3 : 0 ≤ c) (h4 : c ≤ 1000000000000) : (n + 7919 * c).natAbs < 2 ^ 64 := by
  have : (2 : Nat) ^ 64 = 18446744073709551616 := by decide
  omega
theorem m63 {m : Int} (h0 : 0 < m) (h1 : m ≤ 1000000000000000000) : m.natAbs < 2 ^ 63 := by
  have : (2 : Nat) ^ 63 = 9223372036854775808 := by decide
  omega
theorem set_ints (cells : List Int) (j : Nat) (z : Int) : (cells.map V.int).set j (V.int z) = (cells.set j z).map V.int := by
  rw [List.map_set]
theorem same_new {H : Hp} {p : Addr} {o : HO} (h : H p = none) : Same H (upd H p o) := fun b x e => by
  rw [upd_ne (ne_of_none e h)]
  exact e
theorem atI_in {α : Type} {xs : List α} {i : Int} (h0 : 0 ≤ i) (h1 : i < xs.length) : ∃ v, atI xs i = some v ∧ v ∈ xs := by
  have h : i.toNat < xs.length := by omega
  refine ⟨xs[i.toNat], ?_, List.getElem_mem h⟩
  have e : i = ((i.toNat : Nat) : Int) := by omega
  have q := atI_nat (xs := xs) (j := i.toNat) (v := xs[i.toNat]) (by simp [h])
  rw [← e] at q
  exact q
theorem PoolAt.same {H H' : Hp} {p c : Addr} {lim : V} {n : Nat} (h : PoolAt H p c lim n) (s : Same H H') : PoolAt H' p c lim n := by
  obtain ⟨i, cs, cn, sd, md, e1, e2, e⟩ := h
  exact ⟨i, cs, cn, sd, md, s _ _ e1, s _ _ e2, e⟩
theorem PoolAt.ne1 {H : Hp} {p c q : Addr} {lim : V} {n : Nat} (h : PoolAt H p c lim n) (hq : H q = none) : q ≠ p := fun z => by
  obtain ⟨_, _, _, _, _, e, _⟩ := h
  rw [z, e] at hq
  cases hq
theorem PoolAt.ne2 {H : Hp} {p c q : Addr} {lim : V} {n : Nat} (h : PoolAt H p c lim n) (hq : H q = none) : q ≠ c := fun z => by
  obtain ⟨_, _, _, _, _, _, e, _⟩ := h
  rw [z, e] at hq
  cases hq
theorem str_app_len (a b : Str) : (a ++ b : Str).length = a.length + b.length := by
  show (a.cps ++ b.cps).size = a.cps.size + b.cps.size
  exact Array.size_append
theorem PoolAt.mono {H : Hp} {p c : Addr} {lim : V} {n m : Nat} (h : PoolAt H p c lim n) (hm : n ≤ m) : PoolAt H p c lim m := by
  obtain ⟨i, cs, cn, sd, md, e1, e2, e3, e4, e5, e⟩ := h
  exact ⟨i, cs, cn, sd, md, e1, e2, e3, e4, by omega, e⟩
theorem PoolAt.upd {H : Hp} {p c q : Addr} {lim : V} {n : Nat} {o : HO} (h : PoolAt H p c lim n) (h1 : q ≠ p) (h2 : q ≠ c) : PoolAt (upd H q o) p c lim n := by
  obtain ⟨i, cs, cn, sd, md, e1, e2, e⟩ := h
  exact ⟨i, cs, cn, sd, md, by rw [upd_ne h1.symm]; exact e1, by rw [upd_ne h2.symm]; exact e2, e⟩
section
variable {P : Program} {w : World} {K : PySem.W.Frag} {mg : Str → Option Value} {base : Heap}
theorem ok_Mixed {f : Addr} {fd : FuncData} (F : Fun K "_law_mixed" "_law_mixed" sMixed f fd) (T : TxPool mg) : FnOk P w K mg base CX0 1 f fd PMixed spMixed := by
  refine F.ok scMixed (fun vs H Q E h => ?_) (fun cdv A outer s H vs Q E hr h => ?_)
  · obtain ⟨n, c, m, rfl, _⟩ := h
    rfl
  · obtain ⟨n, c, m, rfl, n0, n1, c0, c1, m0, k⟩ := h
    refine ⟨_, (pss_one (ps_ret (pe_op op_mod (pe_op op_fdiv (pe_callTy call_int1 (by rfl) T.n_int bb_int (pa_cons (pe_op op_mod (pe_op op_pow (pe_callTy call_int1 (by rfl) T.n_int bb_int (pa_cons (pe_op op_add (pv 0) (pe_op op_mul pe_int (pv 1))) pa_nil)) pe_int) pe_int) pa_nil)) pe_int) (pv 2)))), ?_⟩
    refine ⟨_, rfl, _, rfl, _, _, rfl, rfl, .inl ⟨by decide, by decide⟩, _, _, rfl, rfl, .inl ⟨_, rfl, ?_⟩⟩
    refine ⟨_, _, rfl, rfl, ⟨by decide, by decide, pow_lt n0 n1 c0 c1⟩, _, _, rfl, rfl, (show (0 : Int) < 2147483647 by decide), .inl ⟨_, rfl, ?_⟩⟩
    refine ⟨_, _, rfl, rfl, ⟨by decide, by decide⟩, _, rfl, _, _, rfl, rfl, m0, ?_⟩
    exact k _ (Int.emod_nonneg _ (by omega)) (Int.emod_lt_of_pos _ m0)
theorem ok_Draw {f : Addr} {fd : FuncData} (F : Fun K "_law_draw" "_law_draw" sDraw f fd) (T : TxPool mg) (GM : Has P w K mg base CX0 1 "_law_mixed" PMixed spMixed) :
    FnOk P w K mg base CX0 2 f fd PDraw spDraw := by
  refine F.ok scDraw (fun vs H Q E h => ?_) (fun cdv A outer s H vs Q E hr h => ?_)
  · obtain ⟨p, c, lim, n, m, rfl, _⟩ := h
    rfl
  · obtain ⟨p, c, lim, n, m, rfl, ⟨i, cells, cnt, seed, mode, hp, hc, hi, c0, c1, s0, s1⟩, hn, m0, m1, k⟩ := h
    have npc : p ≠ c := pool_ne hp hc
    refine ⟨_, (pss_cons (ps_asg (pe_op op_add (pe_ix (r := rIxL K) ix_list (pv 0) pe_int (fun _ _ => rfl)) pe_int) (pg_sub (pv 0) pe_int set_list))
  (pss_cons (ps_if (pt_cmpR op_ge (pe_ix (r := rIxL K) ix_list (pv 0) pe_int (fun _ _ => rfl)) (pe_callB call_len_seq (by rfl) T.n_len bb_len (pa_cons (pe_ix (r := rIxL K) ix_list (pv 0) pe_int (fun _ _ => rfl)) pa_nil)) (nomark _))
  (pss_one (ps_ret (pe_callH GM hr rfl pass0 (pa_cons (pe_ix (r := rIxL K) ix_list (pv 0) pe_int (fun _ _ => rfl)) (pa_cons (pe_ix (r := rIxL K) ix_list (pv 0) pe_int (fun _ _ => rfl)) (pa_cons (pv 1) pa_nil))))))
  pss_nil)
  (pss_cons (ps_set (i := 2) scDraw.nd rfl (Or.inl rfl) (pe_ix (r := rIxL K) ix_list (pv 0) pe_int (fun _ _ => rfl)))
  (pss_cons (ps_set (i := 3) scDraw.nd rfl (Or.inl rfl) (pe_ix (r := rIxL K) ix_list (pv 0) pe_int (fun _ _ => rfl)))
  (pss_cons (ps_set (i := 4) scDraw.nd rfl (Or.inl rfl) (pe_ix (r := rIxL K) ix_list (pv 3) (pv 2) (fun _ _ => rfl)))
  (pss_cons (ps_if (PW.pt (pw_and (pt_cmpR op_ne (pe_ix (r := rIxL K) ix_list (pv 0) pe_int (fun _ _ => rfl)) pe_int (nomark _)) (pw_and1 (pt_cmpR op_lt (pv 4) (pe_op op_pow pe_int pe_int) (nomark _)))))
  (pss_cons (ps_asg (pe_op op_add (pe_ix (r := rIxL K) ix_list (pv 0) pe_int (fun _ _ => rfl)) pe_int) (pg_sub (pv 0) pe_int set_list))
  (pss_cons (ps_if (pt_cmpR op_eq (pe_ix (r := rIxL K) ix_list (pv 0) pe_int (fun _ _ => rfl)) pe_int (nomark _))
  (pss_cons (ps_asg (pe_op op_add (pv 2) pe_int) (pg_sub (pv 0) pe_int set_list))
  (pss_one (ps_asg pe_int (pg_sub (pv 0) pe_int set_list))))
  pss_nil)
  (pss_one (ps_ret (pe_callH GM hr rfl pass0 (pa_cons (pe_op op_mod (pe_callTy call_int1 (by rfl) T.n_int bb_int (pa_cons (pv 4) pa_nil)) pe_int) (pa_cons (pe_ix (r := rIxL K) ix_list (pv 0) pe_int (fun _ _ => rfl)) (pa_cons (pv 1) pa_nil))))))))
  pss_nil)
  (pss_cons (ps_asg pe_int (pg_sub (pv 0) pe_int set_list))
  (pss_cons (ps_asg (pe_op op_fdivW (pe_callTy call_int1 (by rfl) T.n_int bb_int (pa_cons (pv 4) pa_nil)) (pv 1)) (pg_sub (pv 3) (pv 2) set_list))
  (pss_cons (ps_if (pt_cmpR op_eq (pe_ix (r := rIxL K) ix_list (pv 3) (pv 2) (fun _ _ => rfl)) pe_int (nomark _))
  (pss_cons (ps_asg (pe_op op_add (pv 2) pe_int) (pg_sub (pv 0) pe_int set_list))
  (pss_one (ps_asg pe_int (pg_sub (pv 0) pe_int set_list))))
  pss_nil)
  (pss_one (ps_ret (pe_op op_mod (pe_callTy call_int1 (by rfl) T.n_int bb_int (pa_cons (pv 4) pa_nil)) (pv 1))))))))))))), ?_⟩
    -- pool[2] = pool[2] + 1
    refine ⟨_, rfl, p, _, _, _, rfl, rfl, SqL.of hp, rfl, _, _, rfl, rfl, _, rfl, p, _, _, _, rfl, rfl, hp, rfl, ?_⟩
    have st : ∀ (i' : Nat) (md : Int) (cs : List Int), i' ≤ cs.length → ∀ H' : Hp, H' p = some (.lst [.ref c, .int (i' : Int), .int (cnt + 1), .int seed, .int md, lim]) → H' c = some (.lst (cs.map V.int)) → PoolAt H' p c lim (n + 1) :=
      fun i' md cs hl H' a b => ⟨i', cs, cnt + 1, seed, md, a, b, hl, by omega, by omega, s0, s1⟩
    have ac : ∀ {H' : Hp} {o : HO} {x : HO}, H' c = some x → upd H' p o c = some x := fun e => by rw [upd_ne npc.symm]; exact e
    have ap : ∀ {H' : Hp} {o : HO} {x : HO}, H' p = some x → upd H' c o p = some x := fun e => by rw [upd_ne npc]; exact e
    have kq : ∀ {H' : Hp} {o : HO}, But p c H H' → But p c H (upd H' p o) := fun b x o e hb hx => by rw [upd_ne hb]; exact b x o e hb hx
    have kc : ∀ {H' : Hp} {o : HO}, But p c H H' → But p c H (upd H' c o) := fun b x o e hb hx => by rw [upd_ne hx]; exact b x o e hb hx
    -- if pool[1] >= len(pool[0])
    refine ⟨_, rfl, p, _, _, _, rfl, rfl, SqL.of upd_same, rfl, _, rfl, p, _, _, _, rfl, rfl, SqL.of upd_same, rfl, c, _, rfl, .inl (SqL.of (ac hc)), _, _, rfl, rfl, _, rfl, ?_⟩
    refine ite2 (fun hge => ?_) (fun hlt => ?_)
    · refine ⟨_, rfl, p, _, _, _, rfl, rfl, SqL.of upd_same, rfl, _, rfl, p, _, _, _, rfl, rfl, SqL.of upd_same, rfl, _, rfl, seed, cnt + 1, m, rfl, s0, s1, by omega, by omega, m0, fun r r0 r1 => ?_⟩
      exact k r _ r0 r1 (st i mode cells hi _ upd_same (ac hc)) (kq But.refl)
    · have hil : i < cells.length := by
        have z : ¬ ((cells.map V.int).length : Int) ≤ (i : Int) := fun z => hlt (decide_eq_true z)
        rw [List.length_map] at z
        omega
      obtain ⟨cell, hcell⟩ : ∃ z, cells[i]? = some z := ⟨cells[i], by simp [hil]⟩
      have hcV : (cells.map V.int)[i]? = some (V.int cell) := by rw [List.getElem?_map, hcell]; rfl
      -- at, cells, cell
      refine ⟨_, rfl, p, _, _, _, rfl, rfl, SqL.of upd_same, rfl, ?_⟩
      refine ⟨_, rfl, p, _, _, _, rfl, rfl, SqL.of upd_same, rfl, ?_⟩
      refine ⟨_, rfl, _, rfl, c, _, _, _, rfl, rfl, SqL.of (ac hc), atI_nat hcV, ?_⟩
      -- if pool[4] != 2 and cell < 10 ** 18
      refine ⟨_, rfl, p, _, _, _, rfl, rfl, SqL.of upd_same, rfl, rfl, _, rfl, ?_⟩
      refine ite2 (fun h2 => ?gA) (fun h2 => iteF ?gB)
      case' gA => refine ⟨_, rfl, _, _, rfl, rfl, ⟨by decide, by decide, by decide⟩, _, _, rfl, rfl, _, rfl, ite2 (fun h3 => ?gD) (fun h3 => ?gC)⟩
      case gD =>
        refine ⟨_, rfl, p, _, _, _, rfl, rfl, SqL.of upd_same, rfl, _, _, rfl, rfl, _, rfl, p, _, _, _, rfl, rfl, upd_same, rfl, ?_⟩
        refine ⟨_, rfl, p, _, _, _, rfl, rfl, SqL.of upd_same, rfl, rfl, _, rfl, ite2 (fun h4 => ?_) (fun h4 => ?_)⟩
        · refine ⟨_, rfl, _, _, rfl, rfl, _, rfl, p, _, _, _, rfl, rfl, upd_same, rfl, ?_⟩
          refine ⟨_, rfl, p, _, _, _, rfl, rfl, upd_same, rfl, ?_⟩
          refine ⟨_, rfl, .inl ⟨_, rfl, _, _, rfl, rfl, (show (0 : Int) < 2147483647 by decide), _, rfl, p, _, _, _, rfl, rfl, SqL.of upd_same, rfl, _, rfl, _, cnt + 1, m, rfl, Int.emod_nonneg _ (by decide), Int.emod_lt_of_pos _ (by decide), by omega, by omega, m0, fun r r0 r1 => ?_⟩⟩
          exact k r _ r0 r1 (st (i + 1) 0 cells (by omega) _ upd_same (ac (ac (ac (ac hc))))) (kq (kq (kq (kq But.refl))))
        · refine ⟨_, rfl, .inl ⟨_, rfl, _, _, rfl, rfl, (show (0 : Int) < 2147483647 by decide), _, rfl, p, _, _, _, rfl, rfl, SqL.of upd_same, rfl, _, rfl, _, cnt + 1, m, rfl, Int.emod_nonneg _ (by decide), Int.emod_lt_of_pos _ (by decide), by omega, by omega, m0, fun r r0 r1 => ?_⟩⟩
          exact k r _ r0 r1 (st i (mode + 1) cells (by omega) _ upd_same (ac (ac hc))) (kq (kq But.refl))
      all_goals
        -- pool[4] = 2; cells[at] = int(cell) // many
        refine ⟨_, rfl, p, _, _, _, rfl, rfl, upd_same, rfl, ?_⟩
        have hix : ixN (cells.map V.int).length (i : Int) = some i := by
          unfold ixN
          rw [List.length_map, if_pos (by omega), if_pos (by omega), Int.toNat_natCast]
        refine ⟨_, rfl, .inl ⟨_, rfl, _, rfl, _, _, rfl, rfl, wide_div m0 (m63 m0 m1) (by decide) (by decide), _, rfl, _, rfl, c, _, _, i, rfl, rfl, ac (ac hc), hix, ?_⟩⟩
        rw [set_ints]
        have hcW : ((cells.set i (cell / m)).map V.int)[i]? = some (V.int (cell / m)) := by
          rw [List.getElem?_map, List.getElem?_set_self hil]; rfl
        have hlen : (cells.set i (cell / m)).length = cells.length := List.length_set
        refine ⟨_, rfl, _, rfl, c, _, _, _, rfl, rfl, SqL.of upd_same, atI_nat hcW, rfl, _, rfl, ite2 (fun h4 => ?_) (fun h4 => ?_)⟩
        · refine ⟨_, rfl, _, _, rfl, rfl, _, rfl, p, _, _, _, rfl, rfl, ap upd_same, rfl, ?_⟩
          refine ⟨_, rfl, p, _, _, _, rfl, rfl, upd_same, rfl, ?_⟩
          refine ⟨_, rfl, .inl ⟨_, rfl, _, rfl, _, _, rfl, rfl, m0, ?_⟩⟩
          exact k _ _ (Int.emod_nonneg _ (by omega)) (Int.emod_lt_of_pos _ m0) (st (i + 1) 0 _ (by omega) _ upd_same (ac (ac upd_same))) (kq (kq (kc (kq (kq But.refl)))))
        · refine ⟨_, rfl, .inl ⟨_, rfl, _, rfl, _, _, rfl, rfl, m0, ?_⟩⟩
          exact k _ _ (Int.emod_nonneg _ (by omega)) (Int.emod_lt_of_pos _ m0) (st i 2 _ (by omega) _ (ap upd_same) upd_same) (kc (kq (kq But.refl)))
/-! _law_pool -/
theorem cut63 {ns : List Int} (h : ns.length ≤ 63) : cutV (ns.map V.int) none (some 63) = ns.map V.int := by
  unfold cutV
  rw [HT.sIx_none, show HT.sIx (ns.map V.int).length (ns.map V.int).length (some 63) = min 63 (ns.map V.int).length from HT.sIx_nat _ _ 63]
  rw [List.length_map, List.drop_zero, List.take_of_length_le]
  rw [List.length_map]
  omega
theorem int_at {ns : List Int} {i : Nat} {x : V} (h : (ns.map V.int)[i]? = some x) : ∃ z, ns[i]? = some z ∧ x = V.int z := by
  rw [List.getElem?_map] at h
  cases e : ns[i]? with
  | none => rw [e] at h; cases h
  | some z => rw [e] at h; exact ⟨z, rfl, (Option.some.inj h).symm⟩
theorem take_snoc {α : Type} {l : List α} {i : Nat} {z : α} (h : l[i]? = some z) : l.take (i + 1) = l.take i ++ [z] := by
  rw [List.take_succ, h]; rfl
theorem ok_Pool {f : Addr} {fd : FuncData} (F : Fun K "_law_pool" "_law_pool" sPool f fd) (T : TxPool mg) : FnOk P w K mg base CX0 1 f fd PPool (spPool K) := by
  refine F.ok scPool (fun vs H Q E h => ?_) (fun cdv A outer s H vs Q E hr h => ?_)
  · obtain ⟨a, ns, rfl, _⟩ := h
    rfl
  · obtain ⟨a, ns, rfl, hS, hlen, k⟩ := h
    refine ⟨_, (pss_cons (ps_setLc (i := 1) (own := [("_law_cell", 2)]) (g := gName 2) (tt := tYes) rfl scPool.nd rfl rfl (sw_true rfl rfl rfl (by decide +kernel)) (pi_list (pe_slice sl_list (pv 0) po_none (po_some pe_int))) (blkOk_by (own := [("_law_cell", 2)]) (N := NPool) (sc := (defScope sPool)) (by decide +kernel)) (fun _ _ _ _ _ => (pg_name (i := 2) scPool.nd rfl (Or.inl rfl))) (fun _ _ _ _ _ => pts_nil) (fun _ _ _ _ _ => (pe_callTy call_int1 (by rfl) T.n_int bb_int (pa_cons (pv 2) pa_nil))))
  (pss_cons (ps_set (i := 3) scPool.nd rfl (Or.inl rfl) pe_int)
  (pss_cons (ps_for PassesOwn.never rfl (pi_list (pv 1)) (pg_name (i := 2) scPool.nd rfl (Or.inl rfl))
  (pss_one (ps_set (i := 3) scPool.nd rfl (Or.inl rfl) (pe_op op_mod (pe_callTy call_int1 (by rfl) T.n_int bb_int (pa_cons (pe_op op_add (pe_op op_mul (pv 3) pe_int) (pv 2)) pa_nil)) pe_int))))
  (pss_one (ps_ret (pe_lst (pa_cons (pv 1) (pa_cons pe_int (pa_cons pe_int (pa_cons (pv 3) (pa_cons pe_int (pa_cons pe_int pa_nil)))))))))))), ?_⟩
    refine ⟨_, rfl, 63, rfl, a, _, rfl, hS, fun q hq => ⟨q, rfl, ⟨_, SqL.of upd_same⟩, fun D hD => ?_⟩⟩
    rw [cut63 hlen] at *
    have nqD : q ≠ D := fun z => by rw [z, upd_same] at hD; cases hD
    have hD0 : H D = none := by rw [← hD, upd_ne (Ne.symm nqD)]
    refine lc_list (K := K) (a := q) (xs := ns.map V.int) (fun i H' => Same H H' ∧ H' q = some (.lst (ns.map V.int)) ∧ H' D = some (.lst ((ns.take i).map V.int))) ?_ ?_ ?_ ?_
    · exact ⟨fun b o e => by rw [upd_ne (ne_of_none e hD0), upd_ne (ne_of_none e hq)]; exact e, by rw [upd_ne nqD, upd_same], upd_same⟩
    · exact fun i H' _ h' => SqL.of h'.2.1
    · rintro i x H' hx ⟨s1, q1, d1⟩
      obtain ⟨z, hz, rfl⟩ := int_at hx
      refine ⟨rfl, _, rfl, .inl ⟨_, rfl, _, d1, ?_, ?_⟩⟩
      · exact small1000 (by rw [List.length_map, List.length_take]; omega)
      · refine ⟨fun b o e => by rw [upd_ne (ne_of_none e hD0)]; exact s1 b o e, by rw [upd_ne nqD]; exact q1, ?_⟩
        rw [upd_same, take_snoc hz, List.map_append]
        rfl
    · rintro H1 ⟨s1, q1, d1⟩
      rw [List.length_map, List.take_length] at d1
      -- seed = 11; the loop
      refine ⟨_, rfl, D, rfl, ⟨_, SqL.of d1⟩, for_list (K := K) (a := D) (xs := ns.map V.int) (fun i σ H' => ∃ (x : Option V) (z : Int), σ = [some (.ref a), some (.ref D), x, some (.int z)] ∧ 0 ≤ z ∧ z < 2147483647 ∧ H' = H1)
        ⟨none, 11, rfl, by decide, by decide, rfl⟩ (fun i σ H' _ ⟨_, _, _, _, _, e⟩ => by rw [e]; exact SqL.of d1) ?_ ?_⟩
      · rintro i x σ H' hx ⟨y, z, rfl, z0, z1, rfl⟩
        obtain ⟨u, hu, rfl⟩ := int_at hx
        refine ⟨_, rfl, _, _, rfl, rfl, .inr ⟨by decide, by decide⟩, _, rfl, _, _, rfl, rfl, .inl ⟨_, rfl, _, _, rfl, rfl, (show (0 : Int) < 2147483647 by decide), ?_⟩⟩
        exact ⟨_, _, rfl, Int.emod_nonneg _ (by decide), Int.emod_lt_of_pos _ (by decide), rfl⟩
      · rintro σ H' ⟨y, z, rfl, z0, z1, rfl⟩
        refine ⟨_, rfl, _, rfl, (by show 6 ≤ sizeLine; decide), fun p hp => ?_⟩
        have npD : D ≠ p := ne_of_none d1 hp
        refine k p D _ (s1.trans (same_new hp)) (s1.free hp) hD0 ⟨0, ns, 0, z, 0, upd_same, by rw [upd_ne npD]; exact d1, Nat.zero_le _, by decide, by decide, z0, z1⟩
end

/-! ### is_name -/
abbrev sIsName : Stmt := topS 29
abbrev NIsName : List Str := ["value", "char"]
abbrev PIsName : List Str := ["value"]
theorem scIsName : FnScope NIsName PIsName (defScope sIsName) := ⟨rfl, rfl, rfl, by decide +kernel, rfl, by decide +kernel, by decide +kernel⟩
def LET : Str := "abcdefghijklmnopqrstuvwxyz"
def DIG : Str := "0123456789"
def KWS : List Str := ["globals", "kinds", "keep", "def", "if", "else", "while", "risk", "raise", "try", "except", "finally", "undo", "with", "swallow", "return"]
def al (c : Nat) : Bool := decide (c ∈ LET.cps.toList) || decide (c ∈ DIG.cps.toList)
def isName (z : Str) : Bool := match z.cps.toList with
  | [] => false
  | c :: r => decide (c ∈ LET.cps.toList) && (c :: r).all al && !inV (.str z) (KWS.map V.str)
theorem isName_nil {z : Str} (h : z.cps.toList = []) : isName z = false := by unfold isName; rw [h]
theorem isName_at {z : Str} {c : Nat} (h : z.cps.toList[0]? = some c) : isName z = (decide (c ∈ LET.cps.toList) && z.cps.toList.all al && !inV (.str z) (KWS.map V.str)) := by
  unfold isName
  cases e : z.cps.toList with
  | nil => rw [e] at h; simp at h
  | cons a r => rw [e] at h; simp at h; subst h; rfl
theorem str_empty_iff {z : Str} : (V.str z = V.str ("" : Str)) ↔ z.cps.toList = [] := by
  constructor
  · intro h
    injection h with h
    subst h
    decide +kernel
  · intro h
    congr 1
    have e : z.cps = #[] := by simpa using h
    cases z with
    | mk c =>
      have e : c = #[] := e
      subst e
      decide +kernel
/-- what is asked of a value: a text not too long, or something that is no text -/
def NoStr (K : PySem.W.Frag) (H : Hp) (v : V) : Prop := ∃ t, TyX K H v t ∧ PySem.W.kitOne K t (.type "str") = some false
def spName (K : PySem.W.Frag) : Sp := fun vs H Q _ => ∃ v, vs = [v] ∧ ((∃ z : Str, v = .str z ∧ z.length ≤ 1000 ∧ Q (.bl (isName z)) H) ∨ (NoStr K H v ∧ Q (.bl false) H))
structure TxName (K : PySem.W.Frag) (mg : Str → Option Value) (kw : Addr) : Prop where
  n_isinstance : mg "isinstance" = none
  n_str : mg "str" = none
  c_LETTERS : ∃ u, mg "LETTERS" = some u ∧ RelV (.str LET) u
  c_DIGITS : ∃ u, mg "DIGITS" = some u ∧ RelV (.str DIG) u
  c_KEYWORDS : ∃ u, mg "KEYWORDS" = some u ∧ RelV (.ref kw) u
  kws : ∀ H, SqT K H kw (KWS.map V.str)
section
variable {P : Program} {w : World} {K : PySem.W.Frag} {mg : Str → Option Value} {base : Heap} {kw : Addr}
theorem ok_IsName {f : Addr} {fd : FuncData} (F : Fun K "is_name" "is_name" sIsName f fd) (T : TxName K mg kw) : FnOk P w K mg base CX0 1 f fd PIsName (spName K) := by
  refine F.ok scIsName (fun vs H Q E h => ?_) (fun cdv A outer s H vs Q E hr h => ?_)
  · obtain ⟨v, rfl, _⟩ := h
    rfl
  · obtain ⟨v, rfl, h⟩ := h
    refine ⟨_, (pss_cons (ps_if (PW.pt (pw_or (pt_not (pt_val (pe_callB call_isi (by rfl) T.n_isinstance bb_isinstance (pa_cons (pv 0) (pa_cons (pe_bltn (v := .ty "str") (by rfl) T.n_str bb_str rfl) pa_nil))))) (pw_or (pt_cmpR op_eq (pv 0) pe_str (nomark _)) (pw_or1 (pt_cmpR op_notIn_sign (pe_ix ix_str (pv 0) pe_int (fun _ _ => rfl)) (pe_globE rfl T.c_LETTERS) (by rfl))))))
  (pss_one (ps_ret pe_bl))
  pss_nil)
  (pss_cons (ps_for PassesOwn.never rfl (pi_str (pv 0)) (pg_name (i := 1) scIsName.nd rfl (Or.inl rfl))
  (pss_one (ps_if (PW.pt (pw_and (pt_cmpR op_notIn_sign (pv 1) (pe_globE rfl T.c_LETTERS) (by rfl)) (pw_and1 (pt_cmpR op_notIn_sign (pv 1) (pe_globE rfl T.c_DIGITS) (by rfl)))))
  (pss_one (ps_ret pe_bl))
  pss_nil)))
  (pss_one (ps_ret (pe_cmpR op_notIn_seq (pv 0) (pe_globE rfl T.c_KEYWORDS) (by rfl)))))), ?_⟩
    rcases h with ⟨z, rfl, hz, k⟩ | ⟨⟨t, ty, kt⟩, k⟩
    · refine ⟨_, rfl, _, _, _, _, _, rfl, .ty _, .base (.str z), kit_ty (r := true) (by decide +kernel), _, rfl, ?_⟩
      refine ⟨_, rfl, rfl, _, rfl, ite2 (fun he => ?_) (fun he => ?_)⟩
      · have e := str_empty_iff.mp (of_decide_eq_true he)
        rw [isName_nil e] at k
        exact k
      · have hne : z.cps.toList ≠ [] := fun e => he (decide_eq_true (str_empty_iff.mpr e))
        obtain ⟨c, hc⟩ : ∃ c, z.cps.toList[0]? = some c := by
          cases e : z.cps.toList with
          | nil => exact absurd e hne
          | cons a r => exact ⟨a, rfl⟩
        rw [isName_at hc] at k
        refine ⟨_, rfl, z, 0, c, rfl, rfl, Nat.le_trans hz (by decide), atI_nat (j := 0) hc, c, _, rfl, rfl, _, rfl, ite2 (fun hl => ?_) (fun hl => ?_)⟩
        · have hl : decide (c ∈ LET.cps.toList) = false := by simpa using hl
          rw [hl] at k
          exact k
        · have hl : decide (c ∈ LET.cps.toList) = true := by simpa using hl
          rw [hl, Bool.true_and] at k
          refine ⟨_, rfl, z, rfl, for_it (walk_str (z := z)) (fun i σ H' => H' = H ∧ (z.cps.toList.take i).all al = true ∧ ∃ x, σ = [some (.str z), x]) ⟨rfl, rfl, none, rfl⟩ (fun _ _ _ _ _ => trivial) ?_ ?_⟩
          · rintro i x σ H1 H2 hi ⟨rfl, ha, y, rfl⟩ ⟨rfl, d, hd, rfl⟩
            have hd' : z.cps.toList[i]? = some d := by rw [Array.getElem?_toList]; exact hd
            have step : decide (d ∈ LET.cps.toList) || decide (d ∈ DIG.cps.toList) → (z.cps.toList.take (i + 1)).all al = true := fun h => by
              rw [take_snoc hd', List.all_append, ha, Bool.true_and, List.all_cons, List.all_nil, Bool.and_true]
              exact h
            have bad : (decide (d ∈ LET.cps.toList) || decide (d ∈ DIG.cps.toList)) = false → z.cps.toList.all al = false := fun h => by
              rw [List.all_eq_false]
              exact ⟨d, List.mem_of_getElem? hd', by unfold al; rw [h]; decide⟩
            refine ⟨_, rfl, d, _, rfl, rfl, _, rfl, ite2 (fun h1 => ?_) (fun h1 => ?_)⟩
            · have h1 : decide (d ∈ LET.cps.toList) = false := by simpa using h1
              refine ⟨_, rfl, d, _, rfl, rfl, _, rfl, ite2 (fun h2 => ?_) (fun h2 => ?_)⟩
              · have h2 : decide (d ∈ DIG.cps.toList) = false := by simpa using h2
                rw [bad (by rw [h1, h2]; rfl)] at k
                exact k
              · have h2 : decide (d ∈ DIG.cps.toList) = true := by simpa using h2
                exact ⟨rfl, step (by rw [h2]; simp), _, rfl⟩
            · have h1 : decide (d ∈ LET.cps.toList) = true := by simpa using h1
              exact ⟨rfl, step (by rw [h1]; simp), _, rfl⟩
          · rintro σ H1 ⟨rfl, ha, y, rfl⟩
            rw [show z.cps.size = z.cps.toList.length from Array.length_toList.symm, List.take_length] at ha
            rw [ha, Bool.true_and] at k
            exact ⟨_, rfl, kw, _, rfl, .inr (T.kws _), rfl, by decide +kernel, k⟩
    · refine ⟨_, rfl, _, _, _, _, _, rfl, .ty _, ty, kt, _, rfl, ?_⟩
      exact k
end
theorem sq_kws {K : PySem.W.Frag} {a : Addr} {od : Option Addr} {n : Nat} {sl : Array (Option Value)} {its : List Value} (h : K.lookup a = some ⟨.type "tuple", od, .seq its.toArray n, sl⟩) (hv : Vals (KWS.map V.str) its) (H : Hp) : SqT K H a (KWS.map V.str) :=
  .inr ⟨_, _, n, h, rfl, rfl, by
    have e := hv.length
    rw [List.length_map] at e
    have e2 : KWS.length = 16 := rfl
    show its.toArray.size ≤ sizeLine
    rw [List.size_toArray, ← e, e2]
    decide, by simpa using hv⟩

/-! ### the head by kernel runs: the top is run once for each look at what it leaves; no state is written out -/
section
open PySem.W
theorem split3 {S A B : Type} {o : Option S} {f : S → Bool} {g : S → A} {h : S → B} {a : A} {b : B} (h1 : o.map f = some true) (h2 : o.map g = some a) (h3 : o.map h = some b) : o.map (fun s => (f s, g s, h s)) = some (true, a, b) := by
  cases o with
  | none => cases h1
  | some s =>
    have e1 : f s = true := Option.some.inj h1
    have e2 : g s = a := Option.some.inj h2
    have e3 : h s = b := Option.some.inj h3
    show some (f s, g s, h s) = _
    rw [e1, e2, e3]
theorem split2 {S A B : Type} {o : Option S} {g : S → A} {h : S → B} {a : A} {b : B} (h2 : o.map g = some a) (h3 : o.map h = some b) : o.map (fun s => (g s, h s)) = some (a, b) := by
  cases o with
  | none => cases h2
  | some s =>
    have e2 : g s = a := Option.some.inj h2
    have e3 : h s = b := Option.some.inj h3
    show some (g s, h s) = _
    rw [e2, e3]
/-- the addresses that the module's names reach: functions, classes, their codes and methods -/
def refA : Value → List Addr
  | .ref a => [a]
  | _ => []
def refsA : Option Obj → List Addr
  | some ⟨_, _, .dict es _, _⟩ => es.toList.flatMap fun e => refA e.val
  | some ⟨_, _, .func fd, _⟩ => refA fd.code ++ refA fd.defaults
  | some ⟨_, _, .cls cd, _⟩ => [cd.ns]
  | _ => []
def nextA (g : Addr → Option Obj) (as : List Addr) : List Addr := as.flatMap fun a => refsA (g a)
def forceA {α : Type} : List Addr → (List Addr → α) → α
  | [], k => k []
  | a :: r, k => HandSHeadRun.frNat a fun a => forceA r fun r => k (a :: r)
theorem forceA_eq {α : Type} : ∀ (l : List Addr) (k : List Addr → α), forceA l k = k l
  | [], k => rfl
  | a :: r, k => by
    show HandSHeadRun.frNat a (fun a => forceA r fun r => k (a :: r)) = _
    rw [HandSHeadRun.frNat_eq, forceA_eq r]
def withA {α : Type} (g : Addr → Option Obj) (k : Frag → α) : α :=
  forceA (nextA g [mainGlobals]) fun f1 => forceA (nextA g f1) fun f2 => forceA (nextA g f2) fun f3 => forceA (nextA g f3) fun f4 => k (He.frG g (mainGlobals :: (f1 ++ (f2 ++ (f3 ++ f4)))))
theorem withA_eq {α : Type} (g : Addr → Option Obj) (k : Frag → α) : ∃ as, withA g k = k (He.frG g as) := by
  unfold withA
  simp only [forceA_eq]
  exact ⟨_, rfl⟩
abbrev AlA : Type := Bool × He.Al × List He.FnW
def obsA (fx : List (Frag → Bool)) (fa : List He.Fa) (fn : List He.FnD) (fw : List He.DefD) (K : Frag) : AlA := ((fx.all fun f => f K) && fw.all fun d => d.ok K, He.obsE fa fn K, fw.map fun d => He.fnW K d.at_)
def valA (fn : List He.FnD) (fw : List He.DefD) : AlA := (true, He.valE fn, fw.map He.DefD.val)
def SaysA (fx : List (Frag → Bool)) (fa : List He.Fa) (fn : List He.FnD) (fw : List He.DefD) (K : Frag) : Prop := obsA fx fa fn fw K = valA fn fw
def obsAG (fx : List (Frag → Bool)) (fa : List He.Fa) (fn : List He.FnD) (fw : List He.DefD) (g : Addr → Option Obj) : AlA := withA g (obsA fx fa fn fw)
def hookA (fx : List (Frag → Bool)) (fa : List He.Fa) (fn : List He.FnD) (fw : List He.DefD) : Hook where
  α := AlA
  obs := fun s => obsAG fx fa fn fw s.heap.get?
  val := fun _ => valA fn fw
  says := fun _ h => ∃ K : Frag, K.In h ∧ SaysA fx fa fn fw K
  of := fun _ s e => by
    obtain ⟨as, q⟩ := withA_eq s.heap.get? (obsA fx fa fn fw)
    exact ⟨_, He.frG_in, q.symm.trans e⟩
  keeps := fun _ _ _ ⟨K, hK, c⟩ k => ⟨K, Frag.In.keeps hK k, c⟩
theorem obsAG_eq {fx : List (Frag → Bool)} {fa : List He.Fa} {fn : List He.FnD} {fw : List He.DefD} {g : Addr → Option Obj} {s : Shared} (h : ∀ a, g a = s.heap.get? a) : obsAG fx fa fn fw g = (hookA fx fa fn fw).obs s := by
  have e : g = s.heap.get? := funext h
  rw [e] <;> rfl
/-- a def as a datum -/
def khDef (at_ : Str × Option Str) (name qual : Str) (st : Stmt) : He.FnD := ⟨at_, name, qual, defArgs st, defBody st, defScope st⟩
section
variable {fx : List (Frag → Bool)} {fa : List He.Fa} {fn : List He.FnD} {fw : List He.DefD} {K : Frag}
theorem SaysA.x (c : SaysA fx fa fn fw K) (i : Nat) {f : Frag → Bool} (h : fx[i]? = some f) : f K = true :=
  List.all_eq_true.mp (He.ba (show ((fx.all fun f => f K) && fw.all fun d => d.ok K) = true from congrArg (fun z : AlA => z.1) c)).1 f (List.mem_of_getElem? h)
theorem SaysA.says (c : SaysA fx fa fn fw K) : He.SaysE fa fn K := congrArg (fun z : AlA => z.2.1) c
theorem SaysA.dfl_ (c : SaysA fx fa fn fw K) (i : Nat) {d : He.DefD} (h : fw[i]? = some d) : ∃ fd, FunD K d.name d.qual d.params d.body d.scope (d.dvs K) (d.kws K) (He.fAd K d.at_) fd := by
  have c2 := (He.ba (show ((fx.all fun f => f K) && fw.all fun d => d.ok K) = true from congrArg (fun z : AlA => z.1) c)).2
  have e : fw.map (fun d => He.fnW K d.at_) = fw.map He.DefD.val := congrArg (fun z : AlA => z.2.2) c
  have e2 : (fw.map fun d => He.fnW K d.at_)[i]? = (fw.map He.DefD.val)[i]? := by rw [e]
  rw [List.getElem?_map, List.getElem?_map, h] at e2
  exact He.DefD.funD (Option.some.inj e2) (List.all_eq_true.mp c2 d (List.mem_of_getElem? h))
theorem SaysA.fact (c : SaysA fx fa fn fw K) (i : Nat) {f : He.Fa} (h : fa[i]? = some f) : f.ok K = true := c.says.fact i h
theorem SaysA.def_ (c : SaysA fx fa fn fw K) (i : Nat) {a : Str × Option Str} {x q : Str} {st : Stmt} (h : fn[i]? = some (khDef a x q st)) : ∃ fd, Fun K x q st (He.fAd K a) fd := by
  obtain ⟨oc, od, osl, kV, doc, pm, an, cdv, ct, l, cd⟩ := c.says.def_ i h
  exact ⟨_, fun_mk (st := st) l cd (by
    show (match K.lookup (He.fAd K a) with
      | some ⟨_, _, .func _, _⟩ => true
      | some ⟨_, _, .cls _, _⟩ => PySem.W.specialIn K (.ref (He.fAd K a)) "__call__" == some (some (.builtin "type.__call__"))
      | _ => false) = true
    rw [show K.lookup (He.fAd K a) = _ from l])⟩
end
end

/-- an own error's class, looked at -/
def xcB (K : PySem.W.Frag) (x : Str) (bm : List Value) (newId : String) (f : Str) : Bool := (match K.lookup (He.ga K x) with
    | some ⟨cl, _, .cls cd, sl⟩ => decide (cl = .type "type") && (decide (cd.mro = .ref (He.ga K x) :: bm) && (cd.hasDict && (!cd.hasDel && (match sl.toList with
      | [_, _, _, _, some n, _] => decide (n = .builtin newId)
      | _ => false))))
    | _ => false) && (He.eqO (PySem.W.findIn K (.ref (He.ga K x)) "__setattr__") (some (some (.builtin "object.__setattr__"))) && (PySem.W.keepIn K (.ref (He.ga K x)) && (He.eqO (PySem.W.findIn K (.ref (He.ga K x)) f) (some none) &&
    (He.eqO (PySem.W.findIn K (.ref (He.ga K x)) "__getattribute__") (some (some (.builtin "BaseException.__getattribute__"))) && (He.eqO (PySem.W.findIn K (.ref (He.ga K x)) "__getattr__") (some none) && He.eqO (PySem.W.findIn K (.ref (He.ga K x)) "__class__") (some (some (.builtin "object.__class__"))))))))

/-! ### the end -/
abbrev khR : PySem.W.OpenRow := PySem.W.OpenLaw.row PySem.Challenge.rw_allornothing_k08_values_that_are_no_tree
abbrev khQ : Program := PySem.W.view khR.prog [87]
def khN0 : List PySem.Str := ["_wall", "__name__", "ProgramError", "InvalidText", "InvalidSyntax", "InvalidTree", "DuplicateName", "UnknownName", "WrongArguments", "InvalidFinally", "TooLarge", "UnknownFunction", "parts_of", "size_of", "numbered", "numbered_parts", "all_numbered", "assigned_names", "is_integer", "LETTERS", "DIGITS", "SIGNS", "KEYWORDS", "LONGEST", "DEEPEST", "is_name", "kind_of", "end_of_run", "tokens_of", "expression_of"]
def khN1 : List PySem.Str := ["Reader", "parse", "LIMIT", "is_row_of_names", "is_pair", "is_expression", "is_arg", "is_call", "is_block", "is_handler", "is_simple", "is_statement", "is_param", "is_function", "is_tree", "own_names", "depth_of", "expressions_of", "has_great_number", "check_sizes", "check_unlike", "names_of_args", "named_in", "fits", "check_statement", "check_names", "Program", "_law_pool", "_law_mixed", "_law_draw"]
def khN2 : List PySem.Str := ["_law_names", "_law_expression", "_law_args", "_law_call", "_law_piece", "_law_block", "_law_tree", "_law_same", "_law_all_names", "_law_is_word", "_law_is_sum", "_law_is_args", "_law_is_call", "_law_is_handlers", "_law_is_block", "_law_is_statement", "_law_is_function", "_law_is_tree", "_law_changed", "_law_inner"]
def khN : List PySem.Str := khN0 ++ khN1 ++ khN2
def khX0 : List (PySem.W.Frag → Bool) := [fun K => xcB K "InvalidTree" (.ref (He.ga K "ProgramError") :: [.type "ValueError", .type "Exception", .type "BaseException", .type "object"]) "ValueError.__new__" "value",
    fun K => xcB K "DuplicateName" (.ref (He.ga K "ProgramError") :: [.type "ValueError", .type "Exception", .type "BaseException", .type "object"]) "ValueError.__new__" "name",
    fun K => xcB K "UnknownName" (.ref (He.ga K "ProgramError") :: [.type "ValueError", .type "Exception", .type "BaseException", .type "object"]) "ValueError.__new__" "name",
    fun K => xcB K "WrongArguments" (.ref (He.ga K "ProgramError") :: [.type "ValueError", .type "Exception", .type "BaseException", .type "object"]) "ValueError.__new__" "place",
    fun K => xcB K "InvalidFinally" (.ref (He.ga K "ProgramError") :: [.type "ValueError", .type "Exception", .type "BaseException", .type "object"]) "ValueError.__new__" "place",
    fun K => xcB K "TooLarge" (.ref (He.ga K "ProgramError") :: [.type "ValueError", .type "Exception", .type "BaseException", .type "object"]) "ValueError.__new__" "word",
    fun K => He.tupB K "KEYWORDS" [.str "globals", .str "kinds", .str "keep", .str "def", .str "if", .str "else", .str "while", .str "risk", .str "raise", .str "try", .str "except", .str "finally", .str "undo", .str "with", .str "swallow", .str "return"],
    fun K => decide (PySem.W.exmOne K (.ref (He.ga K "InvalidTree")) (.ref (He.ga K "InvalidTree")) = some true),
    fun K => decide (PySem.W.exmOne K (.ref (He.ga K "DuplicateName")) (.ref (He.ga K "InvalidTree")) = some false),
    fun K => decide (PySem.W.exmOne K (.ref (He.ga K "DuplicateName")) (.ref (He.ga K "ProgramError")) = some true),
    fun K => decide (PySem.W.exmOne K (.ref (He.ga K "UnknownName")) (.ref (He.ga K "InvalidTree")) = some false),
    fun K => decide (PySem.W.exmOne K (.ref (He.ga K "UnknownName")) (.ref (He.ga K "ProgramError")) = some true),
    fun K => decide (PySem.W.exmOne K (.ref (He.ga K "WrongArguments")) (.ref (He.ga K "InvalidTree")) = some false),
    fun K => decide (PySem.W.exmOne K (.ref (He.ga K "WrongArguments")) (.ref (He.ga K "ProgramError")) = some true),
    fun K => decide (PySem.W.exmOne K (.ref (He.ga K "InvalidFinally")) (.ref (He.ga K "InvalidTree")) = some false),
    fun K => decide (PySem.W.exmOne K (.ref (He.ga K "InvalidFinally")) (.ref (He.ga K "ProgramError")) = some true),
    fun K => decide (PySem.W.exmOne K (.ref (He.ga K "TooLarge")) (.ref (He.ga K "InvalidTree")) = some false),
    fun K => decide (PySem.W.exmOne K (.ref (He.ga K "TooLarge")) (.ref (He.ga K "ProgramError")) = some true)]
def khX : List (PySem.W.Frag → Bool) := khX0
def khF0 : List He.Fa := [.glo "_law_mixed",
    .glo "_law_draw",
    .glo "_law_pool",
    .glo "is_name",
    .glo "parts_of",
    .glo "size_of",
    .glo "numbered",
    .glo "numbered_parts",
    .glo "all_numbered",
    .glo "is_pair",
    .glo "is_row_of_names",
    .glo "is_integer",
    .glo "is_expression",
    .glo "is_arg",
    .glo "is_call",
    .glo "is_simple",
    .glo "is_block",
    .glo "is_handler",
    .glo "is_statement",
    .glo "is_param",
    .glo "is_function",
    .glo "is_tree",
    .glo "assigned_names",
    .glo "own_names",
    .glo "check_unlike"]
def khF1 : List He.Fa := [.glo "names_of_args",
    .glo "expressions_of",
    .glo "fits",
    .glo "named_in",
    .glo "has_great_number",
    .glo "depth_of",
    .glo "check_sizes",
    .glo "_law_names",
    .glo "check_unlike",
    .glo "fits",
    .glo "check_statement",
    .glo "check_statement",
    .glo "check_names",
    .glo "check_names",
    .glo "_law_is_word",
    .glo "_law_all_names",
    .glo "_law_is_sum",
    .glo "_law_is_args",
    .glo "_law_is_call",
    .glo "_law_is_handlers",
    .glo "_law_is_block",
    .glo "_law_is_statement",
    .glo "_law_is_function",
    .glo "_law_is_tree",
    .glo "_law_expression"]
def khF2 : List He.Fa := [.glo "_law_args",
    .glo "_law_call",
    .glo "_law_piece",
    .glo "_law_block",
    .glo "_law_tree",
    .glo "_law_same",
    .glo "_law_inner",
    .glo "_law_changed",
    .glo "law",
    .glo "ProgramError",
    .glo "Program",
    .cls "Program",
    .mkr "Program",
    .noat "Program" "content",
    .noat "Program" "globals",
    .meth "Program" "__init__",
    .glo "InvalidTree",
    .meth "InvalidTree" "__init__",
    .glo "DuplicateName",
    .meth "DuplicateName" "__init__",
    .glo "UnknownName",
    .meth "UnknownName" "__init__",
    .glo "WrongArguments",
    .meth "WrongArguments" "__init__",
    .glo "InvalidFinally"]
def khF3 : List He.Fa := [.meth "InvalidFinally" "__init__",
    .glo "TooLarge",
    .meth "TooLarge" "__init__",
    .free "int",
    .free "len",
    .free "isinstance",
    .free "str",
    .free "sum",
    .free "tuple",
    .free "bool",
    .free "all",
    .free "zip",
    .free "enumerate",
    .free "max",
    .free "any",
    .free "list",
    .free "abs",
    .free "range",
    .free "sorted",
    .str "LETTERS" LET,
    .str "DIGITS" DIG,
    .int "DEEPEST" 30,
    .int "LIMIT" 1000000000000,
    .glo "KEYWORDS"]
def khF : List He.Fa := khF0 ++ khF1 ++ khF2 ++ khF3
def khD0 : List He.FnD := [khDef ("_law_mixed", none) "_law_mixed" "_law_mixed" (topS 65),
    khDef ("_law_draw", none) "_law_draw" "_law_draw" (topS 66),
    khDef ("_law_pool", none) "_law_pool" "_law_pool" (topS 64),
    khDef ("is_name", none) "is_name" "is_name" (topS 29),
    khDef ("parts_of", none) "parts_of" "parts_of" (topS 13),
    khDef ("size_of", none) "size_of" "size_of" (topS 14),
    khDef ("numbered", none) "numbered" "numbered" (topS 15),
    khDef ("numbered_parts", none) "numbered_parts" "numbered_parts" (topS 16),
    khDef ("all_numbered", none) "all_numbered" "all_numbered" (topS 17),
    khDef ("is_pair", none) "is_pair" "is_pair" (topS 39),
    khDef ("is_row_of_names", none) "is_row_of_names" "is_row_of_names" (topS 38),
    khDef ("is_integer", none) "is_integer" "is_integer" (topS 21),
    khDef ("is_expression", none) "is_expression" "is_expression" (topS 40),
    khDef ("is_arg", none) "is_arg" "is_arg" (topS 41),
    khDef ("is_call", none) "is_call" "is_call" (topS 42),
    khDef ("is_simple", none) "is_simple" "is_simple" (topS 45),
    khDef ("is_block", none) "is_block" "is_block" (topS 43),
    khDef ("is_handler", none) "is_handler" "is_handler" (topS 44),
    khDef ("is_statement", none) "is_statement" "is_statement" (topS 46),
    khDef ("is_param", none) "is_param" "is_param" (topS 47),
    khDef ("is_function", none) "is_function" "is_function" (topS 48),
    khDef ("is_tree", none) "is_tree" "is_tree" (topS 49),
    khDef ("assigned_names", none) "assigned_names" "assigned_names" (topS 19),
    khDef ("own_names", none) "own_names" "own_names" (topS 50),
    khDef ("check_unlike", none) "check_unlike" "check_unlike" (topS 55)]
def khD1 : List He.FnD := [khDef ("names_of_args", none) "names_of_args" "names_of_args" (topS 56),
    khDef ("expressions_of", none) "expressions_of" "expressions_of" (topS 52),
    khDef ("fits", none) "fits" "fits" (topS 58),
    khDef ("named_in", none) "named_in" "named_in" (topS 57),
    khDef ("has_great_number", none) "has_great_number" "has_great_number" (topS 53),
    khDef ("depth_of", none) "depth_of" "depth_of" (topS 51),
    khDef ("check_sizes", none) "check_sizes" "check_sizes" (topS 54),
    khDef ("_law_names", none) "_law_names" "_law_names" (topS 67),
    khDef ("check_unlike", none) "check_unlike" "check_unlike" (topS 55),
    khDef ("fits", none) "fits" "fits" (topS 58),
    khDef ("check_statement", none) "check_statement" "check_statement" (topS 59),
    khDef ("check_statement", none) "check_statement" "check_statement" (topS 59),
    khDef ("check_names", none) "check_names" "check_names" (topS 60),
    khDef ("check_names", none) "check_names" "check_names" (topS 60),
    khDef ("_law_is_word", none) "_law_is_word" "_law_is_word" (topS 76),
    khDef ("_law_all_names", none) "_law_all_names" "_law_all_names" (topS 75),
    khDef ("_law_is_sum", none) "_law_is_sum" "_law_is_sum" (topS 77),
    khDef ("_law_is_args", none) "_law_is_args" "_law_is_args" (topS 78),
    khDef ("_law_is_call", none) "_law_is_call" "_law_is_call" (topS 79),
    khDef ("_law_is_handlers", none) "_law_is_handlers" "_law_is_handlers" (topS 80),
    khDef ("_law_is_block", none) "_law_is_block" "_law_is_block" (topS 81),
    khDef ("_law_is_statement", none) "_law_is_statement" "_law_is_statement" (topS 82),
    khDef ("_law_is_function", none) "_law_is_function" "_law_is_function" (topS 83),
    khDef ("_law_is_tree", none) "_law_is_tree" "_law_is_tree" (topS 84),
    khDef ("_law_expression", none) "_law_expression" "_law_expression" (topS 68)]
def khD2 : List He.FnD := [khDef ("_law_args", none) "_law_args" "_law_args" (topS 69),
    khDef ("_law_call", none) "_law_call" "_law_call" (topS 70),
    khDef ("_law_piece", none) "_law_piece" "_law_piece" (topS 71),
    khDef ("_law_block", none) "_law_block" "_law_block" (topS 72),
    khDef ("_law_tree", none) "_law_tree" "_law_tree" (topS 73),
    khDef ("_law_same", none) "_law_same" "_law_same" (topS 74),
    khDef ("_law_inner", none) "_law_inner" "_law_inner" (topS 86),
    khDef ("_law_changed", none) "_law_changed" "_law_changed" (topS 85),
    khDef ("law", none) "law" "law" (topS 87),
    khDef ("Program", some "__init__") "__init__" "Program.__init__" (inClass (topS 62) 0),
    khDef ("InvalidTree", some "__init__") "__init__" "InvalidTree.__init__" (inClass (topS 5) 0),
    khDef ("DuplicateName", some "__init__") "__init__" "DuplicateName.__init__" (inClass (topS 6) 0),
    khDef ("UnknownName", some "__init__") "__init__" "UnknownName.__init__" (inClass (topS 7) 0),
    khDef ("WrongArguments", some "__init__") "__init__" "WrongArguments.__init__" (inClass (topS 8) 0),
    khDef ("InvalidFinally", some "__init__") "__init__" "InvalidFinally.__init__" (inClass (topS 9) 0),
    khDef ("TooLarge", some "__init__") "__init__" "TooLarge.__init__" (inClass (topS 10) 0)]
def khD : List He.FnD := khD0 ++ khD1 ++ khD2
def khW : List He.DefD := []
abbrev khH : PySem.W.Hook := hookA khX khF khD khW
def khO (s : PySem.W.SharedT) : AlA := obsAG khX khF khD khW (HandSHeadRun.getT s)
theorem khO_eq (s : PySem.W.SharedT) : khO s = khH.obs s.abs := obsAG_eq (HandSHeadRun.getT_eq s)
section
open PySem.W PySem.Calls PyProof.Rows HandSHeadRun
theorem khRun1 (w : World) (os : OsState) : (endF (stepQ (denQ tabQ) khR.prog w) 60000 khR.prog w os).map (fun s => looksF khR.prog (boot_heap w.params) s.abs) = some true := by kernel_rfl
theorem khRun2 (w : World) (os : OsState) : (endF (stepQ (denQ tabQ) khR.prog w) 60000 khR.prog w os).map (fun s => seenQ khQ khN (importedModules khR.prog.main.body) (fun s => xlAt khQ [] s && recOk khR.toRowW.records s) s.abs) = some (openGood khQ khN) := by kernel_rfl
theorem khRun3 (w : World) (os : OsState) : (endF (stepQ (denQ tabQ) khR.prog w) 60000 khR.prog w os).map khO = some (valA khD khW) := by kernel_rfl
theorem khRun (w : World) : RunEq khR khQ khH khO 60000 khN w := fun os => split3 (khRun1 w os) (khRun2 w os) (khRun3 w os)
end
/-! ### trees -/
theorem Paired.snoc {α β : Type} {F : α → β → Prop} : ∀ {l₁ : List α} {l₂ : List β} {a : α} {b : β}, Paired F l₁ l₂ → F a b → Paired F (l₁ ++ [a]) (l₂ ++ [b])
  | _, _, _, _, .nil, h => .cons h .nil
  | _, _, _, _, .cons r t, h => .cons r (Paired.snoc t h)
theorem Paired.app {α β : Type} {F : α → β → Prop} : ∀ {l₁ l₃ : List α} {l₂ l₄ : List β}, Paired F l₁ l₂ → Paired F l₃ l₄ → Paired F (l₁ ++ l₃) (l₂ ++ l₄)
  | _, _, _, _, .nil, h => h
  | _, _, _, _, .cons r t, h => .cons r (Paired.app t h)
theorem Paired.at {α β : Type} {F : α → β → Prop} {xs : List α} {ys : List β} (hp : Paired F xs ys) : ∀ {i : Nat} {x : α}, xs[i]? = some x → ∃ y, ys[i]? = some y ∧ F x y := by
  induction hp with
  | nil => intro i x z; simp at z
  | cons r _ ih =>
    intro i x z
    cases i with
    | zero => simp at z; subst z; exact ⟨_, rfl, r⟩
    | succ j => simp at z ⊢; exact ih z
structure Ex where
  c : Int
  ts : List (Str × Int)
inductive Arg where
  | place (n : Str) | value (e : Ex)
abbrev Cal := Str × List Arg
mutual
inductive St where
  | set (t : Str) (e : Ex) | input (t : Str) | call (t : Option Str) (f : Str) (as : List Arg)
  | risk (ks : List Str) | raise (k : Str) | ret (e : Ex)
  | ite (a b : List St) | whl (b : List St) | try_ (b : List St) (hs : List Hd) (f : List St)
  | undo (ns : List Str) (b : List St) | with_ (e l : Cal) (ks : List Str) (b : List St)
inductive Hd where
  | mk (ks : List Str) (b : List St)
end
def Hd.ks : Hd → List Str
  | .mk ks _ => ks
def Hd.b : Hd → List St
  | .mk _ b => b
def exD (e : Ex) : PyData := .tuple [.int e.c, .tuple (e.ts.map fun p => .tuple [.str p.1, .int p.2])]
def nmD (ns : List Str) : PyData := .tuple (ns.map .str)
def argD : Arg → PyData
  | .place n => .tuple [.str "place", .str n]
  | .value e => .tuple [.str "value", exD e]
def calD (c : Cal) : PyData := .tuple [.str c.1, .tuple (c.2.map argD)]
def optD : Option Str → PyData
  | none => .none
  | some t => .str t
mutual
def stD : St → PyData
  | .set t e => .tuple [.str "set", .str t, exD e]
  | .input t => .tuple [.str "input", .str t]
  | .call t f as => .tuple [.str "call", optD t, .str f, .tuple (as.map argD)]
  | .risk ks => .tuple [.str "risk", nmD ks]
  | .raise k => .tuple [.str "raise", .str k]
  | .ret e => .tuple [.str "return", exD e]
  | .ite a b => .tuple [.str "if", .tuple (stsD a), .tuple (stsD b)]
  | .whl b => .tuple [.str "while", .tuple (stsD b)]
  | .try_ b hs f => .tuple [.str "try", .tuple (stsD b), .tuple (hdsD hs), .tuple (stsD f)]
  | .undo ns b => .tuple [.str "undo", nmD ns, .tuple (stsD b)]
  | .with_ e l ks b => .tuple [.str "with", calD e, calD l, nmD ks, .tuple (stsD b)]
def stsD : List St → List PyData
  | [] => []
  | s :: r => stD s :: stsD r
def hdD : Hd → PyData
  | .mk ks b => .tuple [nmD ks, .tuple (stsD b)]
def hdsD : List Hd → List PyData
  | [] => []
  | h :: r => hdD h :: hdsD r
end
def blD (b : List St) : PyData := .tuple (stsD b)
theorem stsD_map : ∀ b : List St, stsD b = b.map stD
  | [] => rfl
  | s :: r => by show stD s :: stsD r = _; rw [stsD_map r]; rfl
theorem hdsD_map : ∀ b : List Hd, hdsD b = b.map hdD
  | [] => rfl
  | s :: r => by show hdD s :: hdsD r = _; rw [hdsD_map r]; rfl
def parts : St → List (List St)
  | .ite a b => [a, b]
  | .whl b => [b]
  | .try_ b hs f => b :: (hs.map Hd.b ++ [f])
  | .undo _ b => [b]
  | .with_ _ _ _ b => [b]
  | _ => []
mutual
/-- how many statements stand within a statement -/
def szS : St → Nat
  | .ite a b => szB a + szB b
  | .whl b => szB b
  | .try_ b hs f => szB b + (szHs hs + szB f)
  | .undo _ b => szB b
  | .with_ _ _ _ b => szB b
  | .set _ _ => 0 | .input _ => 0 | .call _ _ _ => 0 | .risk _ => 0 | .raise _ => 0 | .ret _ => 0
def szB : List St → Nat
  | [] => 0
  | s :: r => 1 + szS s + szB r
def szH : Hd → Nat
  | .mk _ b => szB b
def szHs : List Hd → Nat
  | [] => 0
  | h :: r => szH h + szHs r
end
mutual
/-- how deep blocks stand within a statement -/
def dpS : St → Nat
  | .ite a b => max (dpB a) (dpB b)
  | .whl b => dpB b
  | .try_ b hs f => max (dpB b) (max (dpHs hs) (dpB f))
  | .undo _ b => dpB b
  | .with_ _ _ _ b => dpB b
  | .set _ _ => 0 | .input _ => 0 | .call _ _ _ => 0 | .risk _ => 0 | .raise _ => 0 | .ret _ => 0
def dpIn : List St → Nat
  | [] => 0
  | s :: r => max (dpS s) (dpIn r)
def dpB : List St → Nat
  | [] => 1
  | s :: r => 1 + max (dpS s) (dpIn r)
def dpH : Hd → Nat
  | .mk _ b => dpB b
def dpHs : List Hd → Nat
  | [] => 0
  | h :: r => max (dpH h) (dpHs r)
end
theorem dpB_eq : ∀ b, dpB b = 1 + dpIn b
  | [] => rfl
  | _ :: _ => rfl
theorem dp_hs : ∀ {hs : List Hd} {p : List St}, p ∈ hs.map Hd.b → dpB p ≤ dpHs hs
  | .mk ks b :: r, p, h => by
    show dpB p ≤ max (dpB b) (dpHs r)
    rcases List.mem_cons.mp h with z | z
    · rw [z]; exact Nat.le_max_left _ _
    · exact Nat.le_trans (dp_hs z) (Nat.le_max_right _ _)
theorem dp_part {s : St} {p : List St} (h : p ∈ parts s) : dpB p ≤ dpS s := by
  cases s with
  | ite a b =>
    simp only [parts, List.mem_cons, List.not_mem_nil, or_false] at h
    show _ ≤ max _ _
    rcases h with rfl | rfl
    · exact Nat.le_max_left _ _
    · exact Nat.le_max_right _ _
  | whl b => simp only [parts, List.mem_cons, List.not_mem_nil, or_false] at h; subst h; exact Nat.le_refl _
  | undo _ b => simp only [parts, List.mem_cons, List.not_mem_nil, or_false] at h; subst h; exact Nat.le_refl _
  | with_ _ _ _ b => simp only [parts, List.mem_cons, List.not_mem_nil, or_false] at h; subst h; exact Nat.le_refl _
  | try_ b hs f =>
    show _ ≤ max _ (max _ _)
    rcases List.mem_cons.mp h with z | z
    · rw [z]; exact Nat.le_max_left _ _
    · rcases List.mem_append.mp z with z | z
      · exact Nat.le_trans (dp_hs z) (Nat.le_trans (Nat.le_max_left _ _) (Nat.le_max_right _ _))
      · rw [List.mem_singleton.mp z]; exact Nat.le_trans (Nat.le_max_right _ _) (Nat.le_max_right _ _)
  | _ => simp [parts] at h
theorem dp_mem : ∀ {b : List St} {s : St}, s ∈ b → dpS s ≤ dpIn b
  | x :: r, s, h => by
    show _ ≤ max _ _
    rcases List.mem_cons.mp h with z | z
    · rw [z]; exact Nat.le_max_left _ _
    · exact Nat.le_trans (dp_mem z) (Nat.le_max_right _ _)
theorem dp_lt {b : List St} {s : St} {p : List St} (hs : s ∈ b) (hp : p ∈ parts s) : dpB p < dpB b := by
  have h1 := dp_part hp
  have h2 := dp_mem hs
  have h3 := dpB_eq b
  omega
theorem sz_hs : ∀ hs : List Hd, ((hs.map Hd.b).map szB).sum = szHs hs
  | [] => rfl
  | .mk ks b :: r => by
    show szB b + ((r.map Hd.b).map szB).sum = szB b + szHs r
    rw [sz_hs r]
theorem sz_parts (s : St) : ((parts s).map szB).sum = szS s := by
  cases s with
  | try_ b hs f =>
    show szB b + (((hs.map Hd.b) ++ [f]).map szB).sum = szB b + (szHs hs + szB f)
    rw [List.map_append, List.sum_append, sz_hs]
    rfl
  | ite a b => show szB a + (szB b + 0) = _; rfl
  | _ => rfl
end Aon
namespace L2
open PySem
/-! reading data -/
theorem SqT.same {K : PySem.W.Frag} {H H' : Hp} {a : Addr} {xs : List V} (e : Same H H') (h : SqT K H a xs) : SqT K H' a xs :=
  h.elim (fun h => .inl (h.elim (fun h => .inl (e _ _ h)) fun ⟨o, h⟩ => .inr ⟨o, e _ _ h⟩)) fun h => .inr h
mutual
theorem Dp.same {K : PySem.W.Frag} {H H' : Hp} (e : Same H H') {v : V} {d : PyData} (h : Dp K H v d) : Dp K H' v d :=
  match h with
  | .non => .non
  | .bl b => .bl b
  | .int i => .int i
  | .str x => .str x
  | .lst a b => .lst (e.seq a) (DpAll.same e b)
  | .tup a b => .tup (SqT.same e a) (DpAll.same e b)
theorem DpAll.same {K : PySem.W.Frag} {H H' : Hp} (e : Same H H') {vs : List V} {ds : List PyData} (h : DpAll K H vs ds) : DpAll K H' vs ds :=
  match h with
  | .nil => .nil
  | .cons a b => .cons (Dp.same e a) (DpAll.same e b)
end
theorem Dp.tupInv {K : PySem.W.Frag} {H : Hp} {v : V} {ds : List PyData} (h : Dp K H v (.tuple ds)) : ∃ a xs, v = .ref a ∧ SqT K H a xs ∧ DpAll K H xs ds := by
  cases h with
  | tup a b => exact ⟨_, _, rfl, a, b⟩
theorem Dp.strInv {K : PySem.W.Frag} {H : Hp} {v : V} {z : Str} (h : Dp K H v (.str z)) : v = .str z := by cases h; rfl
theorem Dp.intInv {K : PySem.W.Frag} {H : Hp} {v : V} {z : Int} (h : Dp K H v (.int z)) : v = .int z := by cases h; rfl
theorem DpAll.consInv {K : PySem.W.Frag} {H : Hp} {vs : List V} {d : PyData} {ds : List PyData} (h : DpAll K H vs (d :: ds)) : ∃ v r, vs = v :: r ∧ Dp K H v d ∧ DpAll K H r ds := by
  cases h with
  | cons a b => exact ⟨_, _, rfl, a, b⟩
theorem DpAll.nilInv {K : PySem.W.Frag} {H : Hp} {vs : List V} (h : DpAll K H vs []) : vs = [] := by cases h; rfl
theorem DpAll.len {K : PySem.W.Frag} {H : Hp} : ∀ {vs : List V} {ds : List PyData}, DpAll K H vs ds → vs.length = ds.length
  | _, _, .nil => rfl
  | _, _, .cons _ b => by rw [List.length_cons, List.length_cons, DpAll.len b]
theorem DpAll.at {K : PySem.W.Frag} {H : Hp} : ∀ {vs : List V} {ds : List PyData}, DpAll K H vs ds → ∀ {i : Nat} {v : V}, vs[i]? = some v → ∃ d, ds[i]? = some d ∧ Dp K H v d
  | _, _, .cons a b, 0, v, h => by simp at h; subst h; exact ⟨_, rfl, a⟩
  | _, _, .cons a b, i + 1, v, h => by simp at h ⊢; exact DpAll.at b h
theorem DpAll.map {K : PySem.W.Frag} {H : Hp} {α : Type} {f : α → PyData} : ∀ {vs : List V} {l : List α}, DpAll K H vs (l.map f) → Paired (fun v x => Dp K H v (f x)) vs l
  | _, [], h => by cases h; exact .nil
  | _, x :: r, h => by
    obtain ⟨v, vr, rfl, h1, h2⟩ := DpAll.consInv h
    exact .cons h1 (DpAll.map h2)
theorem DpAll.ofPaired {K : PySem.W.Frag} {H : Hp} {α : Type} {f : α → PyData} : ∀ {vs : List V} {l : List α}, Paired (fun v x => Dp K H v (f x)) vs l → DpAll K H vs (l.map f)
  | _, _, .nil => .nil
  | _, _, .cons a b => .cons a (DpAll.ofPaired b)
theorem DpAll.one {K : PySem.W.Frag} {H : Hp} {vs : List V} {d : PyData} (h : DpAll K H vs [d]) : ∃ v, vs = [v] ∧ Dp K H v d := by
  obtain ⟨v, r, rfl, h1, h2⟩ := DpAll.consInv h
  exact ⟨v, by rw [DpAll.nilInv h2], h1⟩
theorem DpAll.two {K : PySem.W.Frag} {H : Hp} {vs : List V} {d e : PyData} (h : DpAll K H vs [d, e]) : ∃ v w, vs = [v, w] ∧ Dp K H v d ∧ Dp K H w e := by
  obtain ⟨v, r, rfl, h1, h2⟩ := DpAll.consInv h
  obtain ⟨w, rfl, h3⟩ := DpAll.one h2
  exact ⟨v, w, rfl, h1, h3⟩
theorem DpAll.three {K : PySem.W.Frag} {H : Hp} {vs : List V} {d e f : PyData} (h : DpAll K H vs [d, e, f]) : ∃ v w x, vs = [v, w, x] ∧ Dp K H v d ∧ Dp K H w e ∧ Dp K H x f := by
  obtain ⟨v, r, rfl, h1, h2⟩ := DpAll.consInv h
  obtain ⟨w, x, rfl, h3, h4⟩ := DpAll.two h2
  exact ⟨v, w, x, rfl, h1, h3, h4⟩
theorem DpAll.four {K : PySem.W.Frag} {H : Hp} {vs : List V} {d e f g : PyData} (h : DpAll K H vs [d, e, f, g]) : ∃ v w x y, vs = [v, w, x, y] ∧ Dp K H v d ∧ Dp K H w e ∧ Dp K H x f ∧ Dp K H y g := by
  obtain ⟨v, r, rfl, h1, h2⟩ := DpAll.consInv h
  obtain ⟨w, x, y, rfl, h3, h4, h5⟩ := DpAll.three h2
  exact ⟨v, w, x, y, rfl, h1, h3, h4, h5⟩
end L2
namespace Aon
open PySem L2
theorem ty_tup {K : PySem.W.Frag} {H : Hp} {a : Addr} {xs : List V} (h : SqT K H a xs) : TyX K H (.ref a) (.type "tuple") := by
  rcases h with (h | ⟨o, h⟩) | h
  · exact .base (.tup h)
  · exact .fTuple h
  · obtain ⟨o, _, _, h1, h2, _⟩ := h
    exact .kTuple h1 h2

/-! ### wider bounds -/
theorem smallX {n : Nat} (h : n ≤ 100000) : n < sizeLine := Nat.lt_of_le_of_lt h (by decide)

/-! ### match over statements; parts_of, size_of, numbered, .. -/
section
variable {K : PySem.W.Frag} {D : Ends} {σ : L2.St} {H : Hp} {a : Addr} {xs : List V} {tb : TS} {tr : TCs} {n : Nat} {z : Str} {ts : TPats}
theorem case_len (h : SqT K H a xs) (hl : xs.length ≠ n) (k : tr (.ref a) D σ H) : tCsC (mSeq K n ts) tb tr (.ref a) D σ H :=
  ⟨a, xs, rfl, h, by rw [if_neg hl]; exact k⟩
theorem case_word {w : Str} (h : SqT K H a (.str w :: xs)) (hl : xs.length + 1 = n) (hw : w ≠ z) (k : tr (.ref a) D σ H) : tCsC (mSeq K n (mCons (mStr z) ts)) tb tr (.ref a) D σ H := by
  refine ⟨a, _, rfl, h, ?_⟩
  rw [if_pos (show (V.str w :: xs).length = n from hl)]
  refine ⟨_, _, rfl, rfl, ?_⟩
  rw [if_neg (fun e => hw (V.str.inj e))]
  exact k
theorem case_hit (h : SqT K H a (.str z :: xs)) (hl : xs.length + 1 = n) (k : ts xs H fun b H2 => match b with
    | none => tr (.ref a) D σ H2
    | some bs => tb D (setAll σ bs) H2) : tCsC (mSeq K n (mCons (mStr z) ts)) tb tr (.ref a) D σ H := by
  refine ⟨a, _, rfl, h, ?_⟩
  rw [if_pos (show (V.str z :: xs).length = n from hl)]
  refine ⟨_, _, rfl, rfl, ?_⟩
  rw [if_pos rfl]
  refine (?_ : ts xs H _)
  have e : (fun (b2 : Option BS) (H2 : Hp) => match b2 with
      | none => (match (none : Option BS) with
        | none => tr (.ref a) D σ H2
        | some bs => tb D (setAll σ bs) H2)
      | some more => (match some ([] ++ more) with
        | none => tr (.ref a) D σ H2
        | some bs => tb D (setAll σ bs) H2)) = fun b H2 => match b with
    | none => tr (.ref a) D σ H2
    | some bs => tb D (setAll σ bs) H2 := by
    funext b H2
    cases b <;> rfl
  have k2 := k
  rw [← e] at k2
  exact k2
end
abbrev sParts : Stmt := topS 13
abbrev NParts : List Str := ["statement", "first", "second", "block", "handlers", "final", "one", "names", "enter", "leave", "kinds"]
abbrev PParts : List Str := ["statement"]
theorem scParts : FnScope NParts PParts (defScope sParts) := ⟨rfl, rfl, rfl, by decide +kernel, rfl, by decide +kernel, by decide +kernel⟩
def wordS : St → Str
  | .set _ _ => "set" | .input _ => "input" | .call _ _ _ => "call" | .risk _ => "risk" | .raise _ => "raise" | .ret _ => "return"
  | .ite _ _ => "if" | .whl _ => "while" | .try_ _ _ _ => "try" | .undo _ _ => "undo" | .with_ _ _ _ _ => "with"
def restS : St → List PyData
  | .set t e => [.str t, exD e]
  | .input t => [.str t]
  | .call t f as => [optD t, .str f, .tuple (as.map argD)]
  | .risk ks => [nmD ks]
  | .raise k => [.str k]
  | .ret e => [exD e]
  | .ite a b => [blD a, blD b]
  | .whl b => [blD b]
  | .try_ b hs f => [blD b, .tuple (hdsD hs), blD f]
  | .undo ns b => [nmD ns, blD b]
  | .with_ e l ks b => [calD e, calD l, nmD ks, blD b]
theorem stD_eq (s : St) : stD s = .tuple (.str (wordS s) :: restS s) := by cases s <;> rfl
theorem stInv {K : PySem.W.Frag} {H : Hp} {v : V} {s : St} (h : Dp K H v (stD s)) : ∃ a xs, v = .ref a ∧ SqT K H a (.str (wordS s) :: xs) ∧ DpAll K H xs (restS s) := by
  rw [stD_eq] at h
  obtain ⟨a, xs, rfl, h1, h2⟩ := h.tupInv
  obtain ⟨x, r, rfl, h3, h4⟩ := DpAll.consInv h2
  rw [h3.strInv] at h1
  exact ⟨a, r, rfl, h1, h4⟩
/-- few handlers -/
def fewH : St → Prop
  | .try_ _ hs _ => hs.length ≤ 20000
  | _ => True
def spParts (K : PySem.W.Frag) : Sp := fun vs H Q _ => ∃ (v : V) (s : St), vs = [v] ∧ Dp K H v (stD s) ∧ fewH s ∧ ∀ (a : Addr) (xs : List V) (H' : Hp), Same H H' → H' a = some (.tup xs) → Paired (fun x p => Dp K H' x (blD p)) xs (parts s) → Q (.ref a) H'
section
variable {P : Program} {w : World} {K : PySem.W.Frag} {mg : Str → Option Value} {base : Heap}
theorem ok_Parts {f : Addr} {fd : FuncData} (F : Fun K "parts_of" "parts_of" sParts f fd) : FnOk P w K mg base CX0 1 f fd PParts (spParts K) := by
  refine F.ok scParts (fun vs H Q E h => ?_) (fun cdv A outer s H vs Q E hr h => ?_)
  · obtain ⟨v, st, rfl, _⟩ := h
    rfl
  · obtain ⟨v, st, rfl, hv, few, k⟩ := h
    refine ⟨_, (pss_one (ps_match (pv 0) (pcs_cons scParts.nd (pm_seq rfl (pms_cons pm_str (pms_cons (pm_as (i := 1) rfl (Or.inl rfl)) (pms_cons (pm_as (i := 2) rfl (Or.inl rfl)) pms_nil))))
  (pss_one (ps_ret (pe_tup (pa_cons (pv 1) (pa_cons (pv 2) pa_nil)))))
  (pcs_cons scParts.nd (pm_seq rfl (pms_cons pm_str (pms_cons (pm_as (i := 3) rfl (Or.inl rfl)) pms_nil)))
  (pss_one (ps_ret (pe_tup (pa_cons (pv 3) pa_nil))))
  (pcs_cons scParts.nd (pm_seq rfl (pms_cons pm_str (pms_cons (pm_as (i := 3) rfl (Or.inl rfl)) (pms_cons (pm_as (i := 4) rfl (Or.inl rfl)) (pms_cons (pm_as (i := 5) rfl (Or.inl rfl)) pms_nil)))))
  (pss_one (ps_ret (pe_tup (pa_cons (pv 3) (StX.pa_star (pe_lc (own := [("one", 6)]) (g := gName 6) (tt := tYes) rfl scParts.nd (pi_tup (pv 4)) (blkOk_by (own := [("one", 6)]) (N := NParts) (sc := (defScope sParts)) (by decide +kernel)) (fun _ _ _ _ _ => (pg_name (i := 6) scParts.nd rfl (Or.inl rfl))) (fun _ _ _ _ _ => pts_nil) (fun _ _ _ _ _ => (pe_ix (r := rIxT K) ix_tup (pv 6) pe_int (fun _ _ => rfl)))) (pa_cons (pv 5) pa_nil))))))
  (pcs_cons scParts.nd (pm_seq rfl (pms_cons pm_str (pms_cons (pm_as (i := 7) rfl (Or.inl rfl)) (pms_cons (pm_as (i := 3) rfl (Or.inl rfl)) pms_nil))))
  (pss_one (ps_ret (pe_tup (pa_cons (pv 3) pa_nil))))
  (pcs_cons scParts.nd (pm_seq rfl (pms_cons pm_str (pms_cons (pm_as (i := 8) rfl (Or.inl rfl)) (pms_cons (pm_as (i := 9) rfl (Or.inl rfl)) (pms_cons (pm_as (i := 10) rfl (Or.inl rfl)) (pms_cons (pm_as (i := 3) rfl (Or.inl rfl)) pms_nil))))))
  (pss_one (ps_ret (pe_tup (pa_cons (pv 3) pa_nil))))
  (pcs_cons scParts.nd pm_wild
  (pss_one (ps_ret (pe_tup pa_nil)))
  pcs_nil)))))))), ?_⟩
    obtain ⟨a, xs, rfl, hq, hd⟩ := stInv hv
    refine ⟨_, rfl, ?_⟩
    cases st <;> simp only [wordS] at hq
    case ite p q =>
      obtain ⟨x, y, rfl, h1, h2⟩ := DpAll.two hd
      refine case_hit hq rfl ⟨_, _, rfl, _, _, rfl, ?_⟩
      refine ⟨_, rfl, _, rfl, (by show 2 ≤ sizeLine; decide), fun t ht => ?_⟩
      have s1 := same_new (o := .tup [x, y]) ht
      exact k t _ _ s1 upd_same (.cons (h1.same s1) (.cons (h2.same s1) .nil))
    case whl p =>
      obtain ⟨x, rfl, h1⟩ := DpAll.one hd
      refine case_len hq (Nat.ne_of_beq_eq_false rfl) ?_
      refine case_hit hq rfl ⟨_, _, rfl, ?_⟩
      refine ⟨_, rfl, (by show 1 ≤ sizeLine; decide), fun t ht => ?_⟩
      have s1 := same_new (o := .tup [x]) ht
      exact k t _ _ s1 upd_same (.cons (h1.same s1) .nil)
    case undo ns p =>
      obtain ⟨y, x, rfl, _, h1⟩ := DpAll.two hd
      refine case_word hq rfl (by decide +kernel) ?_
      refine case_len hq (Nat.ne_of_beq_eq_false rfl) ?_
      refine case_len hq (Nat.ne_of_beq_eq_false rfl) ?_
      refine case_hit hq rfl ⟨_, _, rfl, _, _, rfl, ?_⟩
      refine ⟨_, rfl, (by show 1 ≤ sizeLine; decide), fun t ht => ?_⟩
      have s1 := same_new (o := .tup [x]) ht
      exact k t _ _ s1 upd_same (.cons (h1.same s1) .nil)
    case with_ e l ks p =>
      obtain ⟨_, _, _, x, rfl, _, _, _, h1⟩ := DpAll.four hd
      repeat (first | refine case_len hq (Nat.ne_of_beq_eq_false rfl) ?_ | refine case_word hq rfl (by decide +kernel) ?_)
      refine case_hit hq rfl ⟨_, _, rfl, _, _, rfl, _, _, rfl, _, _, rfl, ?_⟩
      refine ⟨_, rfl, (by show 1 ≤ sizeLine; decide), fun t ht => ?_⟩
      have s1 := same_new (o := .tup [x]) ht
      exact k t _ _ s1 upd_same (.cons (h1.same s1) .nil)
    case try_ p hs q =>
      obtain ⟨x, y, z, rfl, h1, h2, h3⟩ := DpAll.three hd
      repeat (first | refine case_len hq (Nat.ne_of_beq_eq_false rfl) ?_ | refine case_word hq rfl (by decide +kernel) ?_)
      refine case_hit hq rfl ⟨_, _, rfl, _, _, rfl, _, _, rfl, ?_⟩
      obtain ⟨b, ys, rfl, hb, hdb⟩ := h2.tupInv
      rw [hdsD_map] at hdb
      have ph := hdb.map
      have lh : ys.length = hs.length := Paired.length ph
      have few : hs.length ≤ 20000 := few
      refine ⟨_, rfl, _, rfl, b, rfl, ⟨_, hb⟩, fun D hD => ?_⟩
      refine lc_tup (K := K) (a := b) (xs := ys) (fun i H' => Same H H' ∧ ∃ acc, H' D = some (.lst acc) ∧ acc.length = i ∧ Paired (fun x p => Dp K H x (blD p)) acc ((hs.map Hd.b).take i)) ⟨same_new hD, [], upd_same, rfl, .nil⟩ (fun i H' _ h' => SqT.same h'.1 hb) ?_ ?_
      · rintro i v H1 hv ⟨s1, acc, eD, la, pa⟩
        obtain ⟨hd, hh, hdp⟩ := Paired.at ph hv
        have hi : i < ys.length := (List.getElem?_eq_some_iff.mp hv).1
        cases hd with
        | mk ks hb' =>
          have hdp : Dp K H v (.tuple [nmD ks, blD hb']) := hdp
          obtain ⟨c, zs, rfl, hc, hcd⟩ := hdp.tupInv
          obtain ⟨u, w, rfl, _, hw⟩ := hcd.two
          refine ⟨rfl, _, rfl, c, _, _, _, rfl, rfl, SqT.same s1 hc, rfl, acc, eD, smallX (by omega), fun c o z => ?_, acc ++ [w], upd_same, by rw [List.length_append, la]; rfl, ?_⟩
          · rw [upd_ne (ne_of_none z hD)]
            exact s1 _ _ z
          · have hm : (hs.map Hd.b)[i]? = some hb' := by rw [List.getElem?_map, hh]; rfl
            rw [take_snoc hm]
            exact Paired.snoc pa hw
      · rintro H1 ⟨s1, acc, eD, la, pa⟩
        rw [lh, ← List.length_map (f := Hd.b), List.take_length] at pa
        refine ⟨D, _, rfl, .inr (SqL.of eD), _, rfl, (by show (x :: (acc ++ [z])).length ≤ sizeLine; exact Nat.le_of_lt (smallX (by rw [List.length_cons, List.length_append, la]; show ys.length + 1 + 1 ≤ 100000; omega))), fun t ht => ?_⟩
        have s2 := s1.trans (same_new (o := .tup (x :: (acc ++ [z]))) ht)
        exact k t _ _ s2 upd_same (.cons (h1.same s2) (Paired.snoc (Paired.mapP pa fun _ _ z => z.same s2) (h3.same s2)))
    all_goals
      first
        | obtain ⟨_, rfl, _⟩ := DpAll.one hd
        | obtain ⟨_, _, rfl, _, _⟩ := DpAll.two hd
        | obtain ⟨_, _, _, rfl, _⟩ := DpAll.three hd
      repeat (first | refine case_len hq (Nat.ne_of_beq_eq_false rfl) ?_ | refine case_word hq rfl (by decide +kernel) ?_)
      refine ⟨(by show 0 ≤ sizeLine; decide), fun t ht => ?_⟩
      exact k t _ _ (same_new ht) upd_same .nil
end

/-! ### size_of, numbered, numbered_parts, all_numbered -/
def okN1 (n : Str) : Prop := isName n = true ∧ n.length ≤ 100
def okNs (ns : List Str) : Prop := ns.length ≤ 20000 ∧ ∀ n ∈ ns, okN1 n
def okEx (e : Ex) : Prop := e.ts.length ≤ 20000 ∧ (∀ p ∈ e.ts, okN1 p.1 ∧ p.2 ≠ 0) ∧ ∀ (i : Nat) (a b : Str × Int), e.ts[i]? = some a → e.ts[i + 1]? = some b → a.1.cps.toList < b.1.cps.toList
def okArg : Arg → Prop
  | .place n => okN1 n
  | .value e => okEx e
def okAs (as : List Arg) : Prop := as.length ≤ 20000 ∧ ∀ a ∈ as, okArg a
def okCal (c : Cal) : Prop := okN1 c.1 ∧ okAs c.2
mutual
def okS : St → Prop
  | .set t e => okN1 t ∧ okEx e
  | .input t => okN1 t
  | .call t f as => (∀ x, t = some x → okN1 x) ∧ okN1 f ∧ okAs as
  | .risk ks => ks ≠ [] ∧ okNs ks
  | .raise k => okN1 k
  | .ret e => okEx e
  | .ite a b => (a.length ≤ 20000 ∧ okL a) ∧ (b.length ≤ 20000 ∧ okL b)
  | .whl b => b.length ≤ 20000 ∧ okL b
  | .try_ b hs f => (b.length ≤ 20000 ∧ okL b) ∧ (hs.length ≤ 20000 ∧ okHs hs) ∧ (f.length ≤ 20000 ∧ okL f)
  | .undo ns b => (ns ≠ [] ∧ okNs ns) ∧ (b.length ≤ 20000 ∧ okL b)
  | .with_ e l ks b => (okCal e ∧ okCal l ∧ okNs ks) ∧ (b.length ≤ 20000 ∧ okL b)
def okL : List St → Prop
  | [] => True
  | s :: r => okS s ∧ okL r
def okH : Hd → Prop
  | .mk ks b => (ks ≠ [] ∧ okNs ks) ∧ (b.length ≤ 20000 ∧ okL b)
def okHs : List Hd → Prop
  | [] => True
  | h :: r => okH h ∧ okHs r
end
def okB (b : List St) : Prop := b.length ≤ 20000 ∧ okL b
theorem okL_mem : ∀ {b : List St}, okL b → ∀ {s : St}, s ∈ b → okS s
  | x :: r, h, s, hs => by
    have h : okS x ∧ okL r := h
    rcases List.mem_cons.mp hs with z | z
    · rw [z]; exact h.1
    · exact okL_mem h.2 z
theorem okHs_mem : ∀ {hs : List Hd}, okHs hs → ∀ {x : Hd}, x ∈ hs → okH x
  | y :: r, h, x, hx => by
    have h : okH y ∧ okHs r := h
    rcases List.mem_cons.mp hx with z | z
    · rw [z]; exact h.1
    · exact okHs_mem h.2 z
theorem okS_few {s : St} (h : okS s) : fewH s := by
  cases s with
  | try_ b hs f =>
    have h : (b.length ≤ 20000 ∧ okL b) ∧ (hs.length ≤ 20000 ∧ okHs hs) ∧ (f.length ≤ 20000 ∧ okL f) := h
    exact h.2.1.1
  | _ => trivial
theorem okS_parts {s : St} (h : okS s) {p : List St} (hp : p ∈ parts s) : okB p := by
  cases s with
  | ite a b =>
    have h : (a.length ≤ 20000 ∧ okL a) ∧ (b.length ≤ 20000 ∧ okL b) := h
    simp only [parts, List.mem_cons, List.not_mem_nil, or_false] at hp
    rcases hp with rfl | rfl
    · exact h.1
    · exact h.2
  | whl b =>
    have h : b.length ≤ 20000 ∧ okL b := h
    simp only [parts, List.mem_cons, List.not_mem_nil, or_false] at hp; subst hp; exact h
  | undo ns b =>
    have h : (ns ≠ [] ∧ okNs ns) ∧ (b.length ≤ 20000 ∧ okL b) := h
    simp only [parts, List.mem_cons, List.not_mem_nil, or_false] at hp; subst hp; exact h.2
  | with_ e l ks b =>
    have h : (okCal e ∧ okCal l ∧ okNs ks) ∧ (b.length ≤ 20000 ∧ okL b) := h
    simp only [parts, List.mem_cons, List.not_mem_nil, or_false] at hp; subst hp; exact h.2
  | try_ b hs f =>
    have h : (b.length ≤ 20000 ∧ okL b) ∧ (hs.length ≤ 20000 ∧ okHs hs) ∧ (f.length ≤ 20000 ∧ okL f) := h
    rcases List.mem_cons.mp hp with z | z
    · rw [z]; exact h.1
    · rcases List.mem_append.mp z with z | z
      · obtain ⟨x, hx, rfl⟩ := List.mem_map.mp z
        have k := okHs_mem h.2.1.2 hx
        cases x with
        | mk ks c =>
          have k : (ks ≠ [] ∧ okNs ks) ∧ (c.length ≤ 20000 ∧ okL c) := k
          exact k.2
      · rw [List.mem_singleton.mp z]; exact h.2.2
  | _ => simp [parts] at hp
theorem parts_len {s : St} (h : okS s) : (parts s).length ≤ 20002 := by
  cases s with
  | try_ b hs f =>
    have h := okS_few h
    have h : hs.length ≤ 20000 := h
    show (b :: (hs.map Hd.b ++ [f])).length ≤ _
    rw [List.length_cons, List.length_append, List.length_map]
    show hs.length + 1 + 1 ≤ 20002
    omega
  | ite a b => show 2 ≤ 20002; omega
  | whl b => show 1 ≤ 20002; omega
  | undo _ b => show 1 ≤ 20002; omega
  | with_ _ _ _ b => show 1 ≤ 20002; omega
  | _ => exact Nat.zero_le _
theorem szB_take : ∀ {b : List St} {i : Nat} {s : St}, b[i]? = some s → szB (b.take (i + 1)) = szB (b.take i) + (1 + szS s)
  | x :: r, 0, s, h => by simp at h; subst h; show 1 + szS x + 0 = 0 + _; omega
  | x :: r, i + 1, s, h => by
    have ih := szB_take (b := r) (i := i) (s := s) (by simpa using h)
    show 1 + szS x + szB (r.take (i + 1)) = 1 + szS x + szB (r.take i) + _
    omega
abbrev sSize : Stmt := topS 14
abbrev NSize : List Str := ["block", "total", "statement", "part"]
abbrev PSize : List Str := ["block"]
theorem scSize : FnScope NSize PSize (defScope sSize) := ⟨rfl, rfl, rfl, by decide +kernel, rfl, by decide +kernel, by decide +kernel⟩
theorem bb_sum : bootBuiltins "sum" = some (.builtin "sum") := by decide +kernel
structure TxTree (mg : Str → Option Value) : Prop where
  n_sum : mg "sum" = none
  n_isinstance : mg "isinstance" = none
  n_len : mg "len" = none
def spSize (K : PySem.W.Frag) (n : Nat) : Sp := fun vs H Q _ => ∃ (v : V) (b : List St), vs = [v] ∧ Dp K H v (blD b) ∧ dpB b ≤ n ∧ okB b ∧ ∀ H', Same H H' → Q (.int (szB b : Int)) H'
theorem no_dp {b : List St} (h : dpB b ≤ 0) : False := by
  have := dpB_eq b
  omega
section
variable {P : Program} {w : World} {K : PySem.W.Frag} {mg : Str → Option Value} {base : Heap}
theorem ok_Size {f : Addr} {fd : FuncData} (F : Fun K "size_of" "size_of" sSize f fd) (T : TxTree mg) (GP : Has P w K mg base CX0 1 "parts_of" PParts (spParts K)) (m : mg "size_of" = some (.ref f)) (kp : PySem.W.keepIn K (.ref f) = true) (bd : Binds K fd PSize []) : ∀ n, FnOk P w K mg base CX0 (2 + n) f fd PSize (spSize K n) := by
  intro n
  induction n with
  | zero => exact ⟨fun vs H Q E h => by obtain ⟨_, _, _, _, h, _⟩ := h; exact (no_dp h).elim, fun _ _ _ _ _ _ _ _ _ _ _ _ _ h => by obtain ⟨_, _, _, _, h, _⟩ := h; exact (no_dp h).elim⟩
  | succ n ih =>
    have GS : Has P w K mg base CX0 (2 + n) "size_of" PSize (spSize K n) := ⟨f, fd, ih, m, kp, bd⟩
    refine F.ok scSize (fun vs H Q E h => ?_) (fun cdv A outer s H vs Q E hr h => ?_)
    · obtain ⟨v, b, rfl, _⟩ := h
      rfl
    · obtain ⟨v, b, rfl, hv, hn, ok, k⟩ := h
      have hr1 := hr.mono (j := 1) (show 1 ≤ 2 + n by omega)
      refine ⟨_, (pss_cons (ps_set (i := 1) scSize.nd rfl (Or.inl rfl) pe_int)
  (pss_cons (ps_for PassesOwn.never rfl (pi_tup (pv 0)) (pg_name (i := 2) scSize.nd rfl (Or.inl rfl))
  (pss_one (ps_aug (i := 1) scSize.nd rfl (Or.inl rfl) (pe_op op_add pe_int (pe_callB (cr_sum rfl) (by rfl) T.n_sum bb_sum (pa_cons (pe_lc (own := [("part", 3)]) (g := gName 3) (tt := tYes) rfl scSize.nd (pi_tup (pe_callH GP hr1 rfl pass0 (pa_cons (pv 2) pa_nil))) (blkOk_by (own := [("part", 3)]) (N := NSize) (sc := (defScope sSize)) (by decide +kernel)) (fun _ _ _ _ _ => (pg_name (i := 3) scSize.nd rfl (Or.inl rfl))) (fun _ _ _ _ _ => pts_nil) (fun _ _ _ _ _ => (pe_callH GS hr rfl pass0 (pa_cons (pv 3) pa_nil)))) pa_nil))) ip_add)))
  (pss_one (ps_ret (pv 1))))), ?_⟩
      obtain ⟨a, xs, rfl, hq, hd⟩ := hv.tupInv
      rw [stsD_map] at hd
      have pb := hd.map
      refine ⟨_, rfl, a, rfl, ⟨_, hq⟩, ?_⟩
      refine for_tup (K := K) (a := a) (xs := xs) (fun i σ H' => ∃ x2 : Option V, σ = [some (.ref a), some (.int (szB (b.take i) : Int)), x2, none] ∧ Same H H') ⟨_, rfl, Same.refl _⟩ (fun i σ H' _ h' => by obtain ⟨_, _, s'⟩ := h'; exact SqT.same s' hq) ?_ ?_
      · rintro i x σ H1 hx ⟨x2, rfl, s1⟩
        obtain ⟨st, hst, hsd⟩ := Paired.at pb hx
        have ms := List.mem_of_getElem? hst
        have oks := okL_mem ok.2 ms
        refine ⟨_, rfl, _, rfl, x, st, rfl, hsd.same s1, okS_few oks, fun t ts H2 s2 e2 p2 => ?_⟩
        have lt : ts.length ≤ 20002 := by rw [Paired.length p2]; exact parts_len oks
        refine ⟨t, rfl, ⟨_, SqT.of e2⟩, fun D hD => ?_⟩
        refine lc_tup (K := K) (a := t) (xs := ts) (fun i H' => Same H2 H' ∧ H' D = some (.lst ((((parts st).take i).map fun p => ((szB p : Nat) : Int)).map V.int))) ⟨same_new hD, upd_same⟩ (fun i H' _ h' => SqT.of (h'.1 _ _ e2)) ?_ ?_
        · rintro j y H3 hy ⟨s3, eD⟩
          obtain ⟨p, hp, hpd⟩ := Paired.at p2 hy
          have hj : j < ts.length := (List.getElem?_eq_some_iff.mp hy).1
          have mp := List.mem_of_getElem? hp
          have hdp := dp_lt ms mp
          refine ⟨rfl, _, rfl, y, p, rfl, hpd.same s3, by omega, okS_parts oks mp, fun H4 s4 => ?_⟩
          refine ⟨_, s4 _ _ eD, smallX (by rw [List.length_map, List.length_map, List.length_take]; omega), fun c o z => ?_, ?_⟩
          · rw [upd_ne (ne_of_none z hD)]
            exact s4 _ _ (s3 _ _ z)
          · rw [upd_same, take_snoc hp, List.map_append, List.map_append]
            rfl
        · rintro H3 ⟨s3, eD⟩
          rw [Paired.length p2, List.take_length] at eD
          refine ⟨D, _, rfl, SqL.of eD, ?_⟩
          have esum : ((parts st).map fun p => ((szB p : Nat) : Int)).sum = ((szS st : Nat) : Int) := by
            rw [← sz_parts st]
            induction parts st with
            | nil => rfl
            | cons p r ih =>
              rw [List.map_cons, List.sum_cons, ih, List.map_cons, List.sum_cons]
              omega
          rw [esum]
          have e : ((szB (b.take i) : Nat) : Int) + (1 + ((szS st : Nat) : Int)) = ((szB (b.take (i + 1)) : Nat) : Int) := by rw [szB_take hst]; omega
          exact ⟨_, _, rfl, rfl, _, _, rfl, rfl, _, by rw [← e]; rfl, (s1.trans s2).trans s3⟩
      · rintro σ H1 ⟨x2, rfl, s1⟩
        rw [Paired.length pb, List.take_length]
        exact ⟨_, rfl, k _ s1⟩
end
/-! numbered, numbered_parts, all_numbered -/
def numb : List St → Nat → List (Nat × St)
  | [], _ => []
  | s :: r, n => (n, s) :: numb r (n + 1 + szS s)
def nparts : List (List St) → Nat → List (Nat × List St)
  | [], _ => []
  | p :: r, n => (n, p) :: nparts r (n + szB p)
mutual
def allS : St → Nat → List (Nat × St)
  | .ite a b, n => allB a n ++ allB b (n + szB a)
  | .whl b, n => allB b n
  | .try_ b hs f, n => allB b n ++ (allHs hs (n + szB b) ++ allB f (n + szB b + szHs hs))
  | .undo _ b, n => allB b n
  | .with_ _ _ _ b, n => allB b n
  | .set _ _, _ => [] | .input _, _ => [] | .call _ _ _, _ => [] | .risk _, _ => [] | .raise _, _ => [] | .ret _, _ => []
def allB : List St → Nat → List (Nat × St)
  | [], _ => []
  | s :: r, n => (n, s) :: (allS s (n + 1) ++ allB r (n + 1 + szS s))
def allH : Hd → Nat → List (Nat × St)
  | .mk _ b, n => allB b n
def allHs : List Hd → Nat → List (Nat × St)
  | [], _ => []
  | h :: r, n => allH h n ++ allHs r (n + szH h)
end
theorem numb_take : ∀ {b : List St} {n i : Nat} {s : St}, b[i]? = some s → numb (b.take (i + 1)) n = numb (b.take i) n ++ [(n + szB (b.take i), s)]
  | x :: r, n, 0, s, h => by simp at h; subst h; rfl
  | x :: r, n, i + 1, s, h => by
    have ih := numb_take (b := r) (n := n + 1 + szS x) (i := i) (s := s) (by simpa using h)
    show (n, x) :: numb (r.take (i + 1)) _ = (n, x) :: (numb (r.take i) _ ++ [(n + (1 + szS x + szB (r.take i)), s)])
    rw [ih]
    congr 4
    omega
theorem nparts_take : ∀ {b : List (List St)} {n i : Nat} {s : List St}, b[i]? = some s → nparts (b.take (i + 1)) n = nparts (b.take i) n ++ [(n + ((b.take i).map szB).sum, s)]
  | x :: r, n, 0, s, h => by simp at h; subst h; rfl
  | x :: r, n, i + 1, s, h => by
    have ih := nparts_take (b := r) (n := n + szB x) (i := i) (s := s) (by simpa using h)
    show (n, x) :: nparts (r.take (i + 1)) _ = (n, x) :: (nparts (r.take i) _ ++ [(n + (szB x + ((r.take i).map szB).sum), s)])
    rw [ih]
    congr 4
    omega
theorem nparts_app : ∀ (a b : List (List St)) (n : Nat), nparts (a ++ b) n = nparts a n ++ nparts b (n + (a.map szB).sum)
  | [], b, n => rfl
  | x :: r, b, n => by
    show (n, x) :: nparts (r ++ b) _ = (n, x) :: (nparts r _ ++ nparts b (n + (szB x + (r.map szB).sum)))
    rw [nparts_app r b, Nat.add_assoc]
/-- the statements within parts that have numbers -/
def allP (ps : List (Nat × List St)) : List (Nat × St) := ps.flatMap fun p => allB p.2 p.1
theorem allP_hs : ∀ (hs : List Hd) (n : Nat), allP (nparts (hs.map Hd.b) n) = allHs hs n
  | [], _ => rfl
  | .mk ks b :: r, n => by
    show allB b n ++ allP (nparts (r.map Hd.b) (n + szB b)) = allB b n ++ allHs r (n + szB b)
    rw [allP_hs r]
theorem allP_parts (s : St) (n : Nat) : allP (nparts (parts s) n) = allS s n := by
  cases s with
  | ite a b => show allB a n ++ (allB b (n + szB a) ++ []) = _; rw [List.append_nil]; rfl
  | whl b => show allB b n ++ [] = _; rw [List.append_nil]; rfl
  | undo ns b => show allB b n ++ [] = _; rw [List.append_nil]; rfl
  | with_ e l ks b => show allB b n ++ [] = _; rw [List.append_nil]; rfl
  | try_ b hs f =>
    show allB b n ++ allP (nparts (hs.map Hd.b ++ [f]) (n + szB b)) = allB b n ++ (allHs hs (n + szB b) ++ allB f (n + szB b + szHs hs))
    rw [nparts_app, sz_hs]
    unfold allP
    rw [List.flatMap_append]
    have := allP_hs hs (n + szB b)
    unfold allP at this
    rw [this]
    show allB b n ++ (allHs hs (n + szB b) ++ (allB f _ ++ [])) = _
    rw [List.append_nil]
  | _ => rfl
theorem allB_eq : ∀ (b : List St) (n : Nat), allB b n = (numb b n).flatMap fun p => p :: allS p.2 (p.1 + 1)
  | [], _ => rfl
  | s :: r, n => by
    show (n, s) :: (allS s (n + 1) ++ allB r (n + 1 + szS s)) = ((n, s) :: allS s (n + 1)) ++ (numb r (n + 1 + szS s)).flatMap _
    rw [allB_eq r]
    rfl

/-! ### tuples that stay -/
def Tps (H H' : Hp) : Prop := (∀ a xs, H a = some (.tup xs) → H' a = some (.tup xs)) ∧ ∀ a o xs, H a = some (.frz o (.tup xs)) → H' a = some (.frz o (.tup xs))
theorem Tps.of {H H' : Hp} (s : Same H H') : Tps H H' := ⟨fun a xs e => s _ _ e, fun a o xs e => s _ _ e⟩
theorem Tps.refl {H : Hp} : Tps H H := ⟨fun _ _ e => e, fun _ _ _ e => e⟩
theorem Tps.trans {H H1 H2 : Hp} (a : Tps H H1) (b : Tps H1 H2) : Tps H H2 := ⟨fun x xs e => b.1 _ _ (a.1 _ _ e), fun x o xs e => b.2 _ _ _ (a.2 _ _ _ e)⟩
theorem Tps.lst {H : Hp} {q : Addr} {zs : List V} {o : HO} (h : H q = some (.lst zs)) : Tps H (upd H q o) :=
  ⟨fun a xs e => by rw [upd_ne (ne_of e h (by intro z; cases z))]; exact e, fun a o xs e => by rw [upd_ne (ne_of e h (by intro z; cases z))]; exact e⟩
theorem Tps.dk {H : Hp} {q : Addr} {zs : List (Key × V)} {o : HO} (h : H q = some (.dK zs)) : Tps H (upd H q o) :=
  ⟨fun a xs e => by rw [upd_ne (ne_of e h (by intro z; cases z))]; exact e, fun a o xs e => by rw [upd_ne (ne_of e h (by intro z; cases z))]; exact e⟩
theorem Tps.ins {H : Hp} {q c dx : Addr} {fs : List (Str × V)} {o : HO} (h : H q = some (.ins c dx fs)) : Tps H (upd H q o) :=
  ⟨fun a xs e => by rw [upd_ne (ne_of e h (by intro z; cases z))]; exact e, fun a o xs e => by rw [upd_ne (ne_of e h (by intro z; cases z))]; exact e⟩
theorem Tps.sqt {K : PySem.W.Frag} {H H' : Hp} (t : Tps H H') {a : Addr} {xs : List V} (h : SqT K H a xs) : SqT K H' a xs :=
  h.elim (fun h => .inl (h.elim (fun h => .inl (t.1 _ _ h)) fun ⟨o, h⟩ => .inr ⟨o, t.2 _ _ _ h⟩)) fun h => .inr h
mutual
/-- no list, no dict within -/
def noL : PyData → Bool
  | .tuple ds => noLs ds
  | .none => true | .bool _ => true | .int _ => true | .str _ => true
  | _ => false
def noLs : List PyData → Bool
  | [] => true
  | d :: r => noL d && noLs r
end
end Aon
namespace L2
open PySem Aon
mutual
theorem Dp.tps {K : PySem.W.Frag} {H H' : Hp} (t : Tps H H') {v : V} {d : PyData} (h : Dp K H v d) (n : noL d = true) : Dp K H' v d :=
  match h with
  | .non => .non
  | .bl b => .bl b
  | .int i => .int i
  | .str x => .str x
  | .lst _ _ => by simp [noL] at n
  | .tup a b => .tup (t.sqt a) (DpAll.tps t b (by simpa [noL] using n))
theorem DpAll.tps {K : PySem.W.Frag} {H H' : Hp} (t : Tps H H') {vs : List V} {ds : List PyData} (h : DpAll K H vs ds) (n : noLs ds = true) : DpAll K H' vs ds :=
  match h with
  | .nil => .nil
  | .cons a b => by
    simp only [noLs, Bool.and_eq_true] at n
    exact .cons (Dp.tps t a n.1) (DpAll.tps t b n.2)
end
end L2
namespace Aon
open PySem L2
theorem noLs_all : ∀ {ds : List PyData}, (∀ d ∈ ds, noL d = true) → noLs ds = true
  | [], _ => rfl
  | d :: r, h => by
    simp only [noLs, Bool.and_eq_true]
    exact ⟨h d List.mem_cons_self, noLs_all fun x hx => h x (List.mem_cons_of_mem _ hx)⟩
theorem noLs_map {α : Type} {f : α → PyData} (h : ∀ x, noL (f x) = true) (l : List α) : noLs (l.map f) = true := noLs_all fun d hd => by
  obtain ⟨x, _, rfl⟩ := List.mem_map.mp hd
  exact h x
theorem noL_ex (e : Ex) : noL (exD e) = true := by
  simp only [exD, noL, noLs, Bool.true_and, Bool.and_true]
  exact noLs_map (fun _ => rfl) _
theorem noL_nm (ns : List Str) : noL (nmD ns) = true := noLs_map (fun _ => rfl) ns
theorem noL_arg : ∀ a, noL (argD a) = true
  | .place n => rfl
  | .value e => by simp only [argD, noL, noLs, noL_ex]; rfl
theorem noL_cal (c : Cal) : noL (calD c) = true := by
  simp only [calD, noL, noLs, Bool.true_and, Bool.and_true]
  exact noLs_map noL_arg _
mutual
theorem noL_st : ∀ s : St, noL (stD s) = true
  | .set t e => by simp only [stD, noL, noLs, noL_ex, Bool.and_true]
  | .input t => rfl
  | .call t f as => by
    have h : noL (optD t) = true := by cases t <;> rfl
    simp only [stD, noL, noLs, h, noLs_map noL_arg, Bool.and_true]
  | .risk ks => by simp only [stD, noL, noLs, noL_nm, Bool.and_true]
  | .raise k => rfl
  | .ret e => by simp only [stD, noL, noLs, noL_ex, Bool.and_true]
  | .ite a b => by simp only [stD, noL, noLs, noL_sts a, noL_sts b, Bool.and_true]
  | .whl b => by simp only [stD, noL, noLs, noL_sts b, Bool.and_true]
  | .try_ b hs f => by simp only [stD, noL, noLs, noL_sts b, noL_hds hs, noL_sts f, Bool.and_true]
  | .undo ns b => by simp only [stD, noL, noLs, noL_nm, noL_sts b, Bool.and_true]
  | .with_ e l ks b => by simp only [stD, noL, noLs, noL_cal, noL_nm, noL_sts b, Bool.and_true]
theorem noL_sts : ∀ b : List St, noLs (stsD b) = true
  | [] => rfl
  | s :: r => by simp only [stsD, noLs, noL_st s, noL_sts r, Bool.and_true]
theorem noL_hd : ∀ h : Hd, noL (hdD h) = true
  | .mk ks b => by simp only [hdD, noL, noLs, noL_nm, noL_sts b, Bool.and_true]
theorem noL_hds : ∀ hs : List Hd, noLs (hdsD hs) = true
  | [] => rfl
  | h :: r => by simp only [hdsD, noLs, noL_hd h, noL_hds r, Bool.and_true]
end
theorem noL_bl (b : List St) : noL (blD b) = true := by simp only [blD, noL]; exact noL_sts b
/-! numbered, numbered_parts, all_numbered -/
abbrev sNumb : Stmt := topS 15
abbrev NNumb : List Str := ["block", "first", "found", "number", "statement", "part"]
abbrev PNumb : List Str := ["block", "first"]
theorem scNumb : FnScope NNumb PNumb (defScope sNumb) := ⟨rfl, rfl, rfl, by decide +kernel, rfl, by decide +kernel, by decide +kernel⟩
abbrev sNPar : Stmt := topS 16
abbrev NNPar : List Str := ["statement", "number", "found", "first", "part"]
abbrev PNPar : List Str := ["statement", "number"]
theorem scNPar : FnScope NNPar PNPar (defScope sNPar) := ⟨rfl, rfl, rfl, by decide +kernel, rfl, by decide +kernel, by decide +kernel⟩
abbrev sAllN : Stmt := topS 17
abbrev NAllN : List Str := ["block", "first", "found", "number", "statement", "inner", "part"]
abbrev PAllN : List Str := ["block", "first"]
theorem scAllN : FnScope NAllN PAllN (defScope sAllN) := ⟨rfl, rfl, rfl, by decide +kernel, rfl, by decide +kernel, by decide +kernel⟩
def NumAt (K : PySem.W.Frag) (H : Hp) (x : V) (p : Nat × St) : Prop := ∃ a w, x = .ref a ∧ SqT K H a [.int (p.1 : Int), w] ∧ Dp K H w (stD p.2)
def NParAt (K : PySem.W.Frag) (H : Hp) (x : V) (p : Nat × List St) : Prop := ∃ a w, x = .ref a ∧ SqT K H a [.int (p.1 : Int), w] ∧ Dp K H w (blD p.2)
theorem NumAt.tps {K : PySem.W.Frag} {H H' : Hp} (t : Tps H H') {x : V} {p : Nat × St} (h : NumAt K H x p) : NumAt K H' x p := let ⟨a, w, e, q, d⟩ := h; ⟨a, w, e, t.sqt q, d.tps t (noL_st _)⟩
theorem NParAt.tps {K : PySem.W.Frag} {H H' : Hp} (t : Tps H H') {x : V} {p : Nat × List St} (h : NParAt K H x p) : NParAt K H' x p := let ⟨a, w, e, q, d⟩ := h; ⟨a, w, e, t.sqt q, d.tps t (noL_bl _)⟩
def spNumb (K : PySem.W.Frag) (n : Nat) : Sp := fun vs H Q _ => ∃ (v : V) (b : List St) (i : Nat), vs = [v, .int (i : Int)] ∧ Dp K H v (blD b) ∧ dpB b ≤ n + 1 ∧ okB b ∧ ∀ (q : Addr) (xs : List V) (H' : Hp), Same H H' → H q = none → H' q = some (.lst xs) → Paired (NumAt K H') xs (numb b i) → Q (.ref q) H'
def spNPar (K : PySem.W.Frag) (n : Nat) : Sp := fun vs H Q _ => ∃ (v : V) (st : St) (i : Nat), vs = [v, .int (i : Int)] ∧ Dp K H v (stD st) ∧ dpS st ≤ n ∧ okS st ∧ ∀ (q : Addr) (xs : List V) (H' : Hp), Same H H' → H q = none → H' q = some (.lst xs) → Paired (NParAt K H') xs (nparts (parts st) (i + 1)) → Q (.ref q) H'
theorem numb_len : ∀ (b : List St) (i : Nat), (numb b i).length = b.length
  | [], _ => rfl
  | s :: r, i => by show (numb r _).length + 1 = r.length + 1; rw [numb_len r]
section
variable {P : Program} {w : World} {K : PySem.W.Frag} {mg : Str → Option Value} {base : Heap}
theorem ok_NPar {n : Nat} {f : Addr} {fd : FuncData} (F : Fun K "numbered_parts" "numbered_parts" sNPar f fd) (GP : Has P w K mg base CX0 1 "parts_of" PParts (spParts K)) (GS : Has P w K mg base CX0 (2 + n) "size_of" PSize (spSize K n)) : FnOk P w K mg base CX0 (3 + n) f fd PNPar (spNPar K n) := by
  have FF := F
  rw [show 3 + n = (2 + n) + 1 by omega]
  refine F.ok scNPar (fun vs H Q E h => ?_) (fun cdv A outer s H vs Q E hr h => ?_)
  · obtain ⟨v, st, i, rfl, _⟩ := h
    rfl
  · obtain ⟨v, st, i, rfl, hv, hn, oks, k⟩ := h
    have hr1 := hr.mono (j := 1) (show 1 ≤ 2 + n by omega)
    refine ⟨_, (pss_cons (ps_set (i := 2) scNPar.nd rfl (Or.inl rfl) (pe_lst pa_nil))
  (pss_cons (ps_set (i := 3) scNPar.nd rfl (Or.inl rfl) (pe_op op_add (pv 1) pe_int))
  (pss_cons (ps_for PassesOwn.never rfl (pi_tup (pe_callH GP hr1 rfl pass0 (pa_cons (pv 0) pa_nil))) (pg_name (i := 4) scNPar.nd rfl (Or.inl rfl))
  (pss_cons (ps_expr (pe_bm PySem.F.plainAttrs_list PySem.F.slot_list_append PySem.F.type_list_append mt_append (pv 2) (pa_cons (pe_tup (pa_cons (pv 3) (pa_cons (pv 4) pa_nil))) pa_nil)))
  (pss_one (ps_aug (i := 3) scNPar.nd rfl (Or.inl rfl) (pe_callH GS hr rfl pass0 (pa_cons (pv 4) pa_nil)) ip_add))))
  (pss_one (ps_ret (pv 2)))))), ?_⟩
    refine ⟨(by show 0 ≤ sizeLine; decide), fun q hq => ?_⟩
    have s1 := same_new (o := .lst []) hq
    refine ⟨_, rfl, _, _, rfl, rfl, _, rfl, v, st, rfl, hv.same s1, okS_few oks, fun t ts H2 s2 e2 p2 => ?_⟩
    have t2 := s1.trans s2
    have lt : ts.length ≤ 20002 := by rw [Paired.length p2]; exact parts_len oks
    refine ⟨t, rfl, ⟨_, SqT.of e2⟩, ?_⟩
    refine for_tup (K := K) (a := t) (xs := ts) (fun j σ H' => ∃ x4 : Option V, σ = [some v, some (.int (i : Int)), some (.ref q), some (.int ((i + 1 + (((parts st).take j).map szB).sum : Nat) : Int)), x4] ∧ Same H H' ∧ Tps H2 H' ∧ ∃ ys, H' q = some (.lst ys) ∧ ys.length = j ∧ Paired (NParAt K H') ys (nparts ((parts st).take j) (i + 1))) ⟨_, rfl, t2, Tps.refl, [], s2 _ _ upd_same, rfl, .nil⟩ (fun j σ H' _ h' => by obtain ⟨_, _, _, t', _⟩ := h'; exact t'.sqt (SqT.of e2)) ?_ ?_
    · rintro j x σ H3 hx ⟨x4, rfl, s3, t3, ys, eq, ly, py⟩
      obtain ⟨p, hp, hpd⟩ := Paired.at p2 hx
      have hj : j < ts.length := (List.getElem?_eq_some_iff.mp hx).1
      have mp := List.mem_of_getElem? hp
      have hdp := dp_part mp
      have hpd3 := hpd.tps t3 (noL_bl p)
      refine ⟨_, rfl, .inl ⟨rfl, _, SqL.of eq⟩, _, rfl, _, rfl, (by show 2 ≤ sizeLine; decide), fun u hu => ?_⟩
      have s4 := same_new (o := .tup [.int ((i + 1 + (((parts st).take j).map szB).sum : Nat) : Int), x]) hu
      have qu := ne_of_none eq hu
      have eq4 := s4 _ _ eq
      refine ⟨q, _, _, rfl, rfl, eq4, smallX (by omega), ?_⟩
      have t5 : Tps H3 (upd (upd H3 u (.tup [.int ((i + 1 + (((parts st).take j).map szB).sum : Nat) : Int), x])) q (.lst (ys ++ [.ref u]))) := (Tps.of s4).trans (Tps.lst eq4)
      have s5 : Same H (upd (upd H3 u (.tup [.int ((i + 1 + (((parts st).take j).map szB).sum : Nat) : Int), x])) q (.lst (ys ++ [.ref u]))) := fun c o z => by
        rw [upd_ne (ne_of_none z hq)]
        exact s4 _ _ (s3 _ _ z)
      refine ⟨_, rfl, _, rfl, x, p, rfl, hpd3.tps t5 (noL_bl p), by omega, okS_parts oks mp, fun H6 s6 => ?_⟩
      have t6 := t5.trans (Tps.of s6)
      refine ⟨_, _, rfl, rfl, some x, ?_, s5.trans s6, t3.trans t6, _, s6 _ _ upd_same, by rw [List.length_append, ly]; rfl, ?_⟩
      · rw [take_snoc hp, List.map_append, List.sum_append]
        have e : ((i + 1 + (((parts st).take j).map szB).sum : Nat) : Int) + ((szB p : Nat) : Int) = ((i + 1 + ((((parts st).take j).map szB).sum + ([p].map szB).sum) : Nat) : Int) := by
          show _ = ((i + 1 + ((((parts st).take j).map szB).sum + (szB p + 0)) : Nat) : Int)
          omega
        rw [← e]
        rfl
      · rw [nparts_take hp]
        refine Paired.snoc (Paired.mapP py fun _ _ z => z.tps t6) ⟨u, x, rfl, ((Tps.lst (q := q) (o := .lst (ys ++ [.ref u])) eq4).trans (Tps.of s6)).sqt (SqT.of upd_same), hpd3.tps t6 (noL_bl p)⟩
    · rintro σ H3 ⟨x4, rfl, s3, t3, ys, eq, ly, py⟩
      rw [Paired.length p2, List.take_length] at py
      exact ⟨_, rfl, k q ys H3 s3 hq eq py⟩
theorem ok_Numb {n : Nat} {f : Addr} {fd : FuncData} (F : Fun K "numbered" "numbered" sNumb f fd) (T : TxTree mg) (GP : Has P w K mg base CX0 1 "parts_of" PParts (spParts K)) (GS : Has P w K mg base CX0 (2 + n) "size_of" PSize (spSize K n)) : FnOk P w K mg base CX0 (3 + n) f fd PNumb (spNumb K n) := by
  rw [show 3 + n = (2 + n) + 1 by omega]
  refine F.ok scNumb (fun vs H Q E h => ?_) (fun cdv A outer s H vs Q E hr h => ?_)
  · obtain ⟨v, b, i, rfl, _⟩ := h
    rfl
  · obtain ⟨v, b, i, rfl, hv, hn, ok, k⟩ := h
    have hr1 := hr.mono (j := 1) (show 1 ≤ 2 + n by omega)
    refine ⟨_, (pss_cons (ps_set (i := 2) scNumb.nd rfl (Or.inl rfl) (pe_lst pa_nil))
  (pss_cons (ps_set (i := 3) scNumb.nd rfl (Or.inl rfl) (pv 1))
  (pss_cons (ps_for PassesOwn.never rfl (pi_tup (pv 0)) (pg_name (i := 4) scNumb.nd rfl (Or.inl rfl))
  (pss_cons (ps_expr (pe_bm PySem.F.plainAttrs_list PySem.F.slot_list_append PySem.F.type_list_append mt_append (pv 2) (pa_cons (pe_tup (pa_cons (pv 3) (pa_cons (pv 4) pa_nil))) pa_nil)))
  (pss_one (ps_aug (i := 3) scNumb.nd rfl (Or.inl rfl) (pe_op op_add pe_int (pe_callB (cr_sum rfl) (by rfl) T.n_sum bb_sum (pa_cons (pe_lc (own := [("part", 5)]) (g := gName 5) (tt := tYes) rfl scNumb.nd (pi_tup (pe_callH GP hr1 rfl pass0 (pa_cons (pv 4) pa_nil))) (blkOk_by (own := [("part", 5)]) (N := NNumb) (sc := (defScope sNumb)) (by decide +kernel)) (fun _ _ _ _ _ => (pg_name (i := 5) scNumb.nd rfl (Or.inl rfl))) (fun _ _ _ _ _ => pts_nil) (fun _ _ _ _ _ => (pe_callH GS hr rfl pass0 (pa_cons (pv 5) pa_nil)))) pa_nil))) ip_add))))
  (pss_one (ps_ret (pv 2)))))), ?_⟩
    obtain ⟨a, xs, rfl, hq0, hd⟩ := hv.tupInv
    rw [stsD_map] at hd
    have pb := hd.map
    have lx : xs.length = b.length := Paired.length pb
    have ok1 : b.length ≤ 20000 := ok.1
    refine ⟨(by show 0 ≤ sizeLine; decide), fun q hq => ?_⟩
    have s1 := same_new (o := .lst []) hq
    refine ⟨_, rfl, _, rfl, a, rfl, ⟨_, SqT.same s1 hq0⟩, ?_⟩
    refine for_tup (K := K) (a := a) (xs := xs) (fun j σ H' => ∃ x4 : Option V, σ = [some (.ref a), some (.int (i : Int)), some (.ref q), some (.int ((i + szB (b.take j) : Nat) : Int)), x4, none] ∧ Same H H' ∧ Tps H H' ∧ ∃ ys, H' q = some (.lst ys) ∧ ys.length = j ∧ Paired (NumAt K H') ys (numb (b.take j) i)) ⟨_, rfl, s1, Tps.of s1, [], upd_same, rfl, .nil⟩ (fun j σ H' _ h' => by obtain ⟨_, _, _, t', _⟩ := h'; exact t'.sqt hq0) ?_ ?_
    · rintro j x σ H3 hx ⟨x4, rfl, s3, t3, ys, eq, ly, py⟩
      obtain ⟨st, hst, hsd⟩ := Paired.at pb hx
      have hj : j < xs.length := (List.getElem?_eq_some_iff.mp hx).1
      have ms := List.mem_of_getElem? hst
      have oks := okL_mem ok.2 ms
      have hsd3 := hsd.tps t3 (noL_st st)
      refine ⟨_, rfl, .inl ⟨rfl, _, SqL.of eq⟩, _, rfl, _, rfl, (by show 2 ≤ sizeLine; decide), fun u hu => ?_⟩
      have s4 := same_new (o := .tup [.int ((i + szB (b.take j) : Nat) : Int), x]) hu
      have qu := ne_of_none eq hu
      have eq4 := s4 _ _ eq
      refine ⟨q, _, _, rfl, rfl, eq4, smallX (by omega), ?_⟩
      obtain ⟨H5, eH5⟩ : ∃ H5, H5 = upd (upd H3 u (.tup [.int ((i + szB (b.take j) : Nat) : Int), x])) q (.lst (ys ++ [.ref u])) := ⟨_, rfl⟩
      rw [← eH5]
      have tq : Tps (upd H3 u (.tup [.int ((i + szB (b.take j) : Nat) : Int), x])) H5 := by rw [eH5]; exact Tps.lst eq4
      have t5 : Tps H3 H5 := (Tps.of s4).trans tq
      have s5 : Same H H5 := fun c o z => by
        rw [eH5, upd_ne (ne_of_none z hq)]
        exact s4 _ _ (s3 _ _ z)
      have eq5 : H5 q = some (.lst (ys ++ [.ref u])) := by rw [eH5, upd_same]
      refine ⟨_, rfl, _, rfl, x, st, rfl, hsd3.tps t5 (noL_st st), okS_few oks, fun t ts H6 s6 e6 p6 => ?_⟩
      have lt : ts.length ≤ 20002 := by rw [Paired.length p6]; exact parts_len oks
      refine ⟨t, rfl, ⟨_, SqT.of e6⟩, fun D hD => ?_⟩
      refine lc_tup (K := K) (a := t) (xs := ts) (fun i H' => Same H6 H' ∧ H' D = some (.lst ((((parts st).take i).map fun p => ((szB p : Nat) : Int)).map V.int))) ⟨same_new hD, upd_same⟩ (fun i H' _ h' => SqT.of (h'.1 _ _ e6)) ?_ ?_
      · rintro m y H7 hy ⟨s7, eD⟩
        obtain ⟨p, hp, hpd⟩ := Paired.at p6 hy
        have hm : m < ts.length := (List.getElem?_eq_some_iff.mp hy).1
        have mp := List.mem_of_getElem? hp
        have hdp := dp_lt ms mp
        refine ⟨rfl, _, rfl, y, p, rfl, hpd.same s7, by omega, okS_parts oks mp, fun H8 s8 => ?_⟩
        refine ⟨_, s8 _ _ eD, smallX (by rw [List.length_map, List.length_map, List.length_take]; omega), fun c o z => ?_, ?_⟩
        · rw [upd_ne (ne_of_none z hD)]
          exact s8 _ _ (s7 _ _ z)
        · rw [upd_same, take_snoc hp, List.map_append, List.map_append]
          rfl
      · rintro H7 ⟨s7, eD⟩
        rw [Paired.length p6, List.take_length] at eD
        refine ⟨D, _, rfl, SqL.of eD, ?_⟩
        have esum : ((parts st).map fun p => ((szB p : Nat) : Int)).sum = ((szS st : Nat) : Int) := by
          rw [← sz_parts st]
          induction parts st with
          | nil => rfl
          | cons p r ih =>
            rw [List.map_cons, List.sum_cons, ih, List.map_cons, List.sum_cons]
            omega
        rw [esum]
        have e : ((i + szB (b.take j) : Nat) : Int) + (1 + ((szS st : Nat) : Int)) = ((i + szB (b.take (j + 1)) : Nat) : Int) := by rw [szB_take hst]; omega
        have s57 := s6.trans s7
        refine ⟨_, _, rfl, rfl, _, _, rfl, rfl, some x, by rw [← e]; rfl, s5.trans s57, t3.trans (t5.trans (Tps.of s57)), _, s57 _ _ eq5, by rw [List.length_append, ly]; rfl, ?_⟩
        rw [numb_take hst]
        exact Paired.snoc (Paired.mapP py fun _ _ z => z.tps (t5.trans (Tps.of s57))) ⟨u, x, rfl, (tq.trans (Tps.of s57)).sqt (SqT.of upd_same), hsd3.tps (t5.trans (Tps.of s57)) (noL_st st)⟩
    · rintro σ H3 ⟨x4, rfl, s3, t3, ys, eq, ly, py⟩
      rw [lx, List.take_length] at py
      exact ⟨_, rfl, k q ys H3 s3 hq eq py⟩
end

/-! all_numbered -/
mutual
theorem allS_len : ∀ (s : St) (n : Nat), (allS s n).length = szS s
  | .ite a b, n => by simp only [allS, szS, List.length_append, allB_len a, allB_len b]
  | .whl b, n => by simp only [allS, szS, allB_len b]
  | .try_ b hs f, n => by simp only [allS, szS, List.length_append, allB_len b, allHs_len hs, allB_len f]
  | .undo _ b, n => by simp only [allS, szS, allB_len b]
  | .with_ _ _ _ b, n => by simp only [allS, szS, allB_len b]
  | .set _ _, _ => rfl | .input _, _ => rfl | .call _ _ _, _ => rfl | .risk _, _ => rfl | .raise _, _ => rfl | .ret _, _ => rfl
theorem allB_len : ∀ (b : List St) (n : Nat), (allB b n).length = szB b
  | [], _ => rfl
  | s :: r, n => by simp only [allB, szB, List.length_cons, List.length_append, allS_len s, allB_len r]; omega
theorem allH_len : ∀ (h : Hd) (n : Nat), (allH h n).length = szH h
  | .mk _ b, n => by simp only [allH, szH, allB_len b]
theorem allHs_len : ∀ (hs : List Hd) (n : Nat), (allHs hs n).length = szHs hs
  | [], _ => rfl
  | h :: r, n => by simp only [allHs, szHs, List.length_append, allH_len h, allHs_len r]
end
theorem flat_len {α β : Type} {f : α → List β} {l : List α} (j : Nat) : ((l.take j).flatMap f).length ≤ (l.flatMap f).length := by
  have h : l.flatMap f = (l.take j).flatMap f ++ (l.drop j).flatMap f := by rw [← List.flatMap_append, List.take_append_drop]
  rw [h, List.length_append]
  omega
theorem flat_snoc {α β : Type} {f : α → List β} {l : List α} {j : Nat} {x : α} (h : l[j]? = some x) : (l.take (j + 1)).flatMap f = (l.take j).flatMap f ++ f x := by
  rw [take_snoc h, List.flatMap_append]
  simp
def allF (p : Nat × St) : List (Nat × St) := p :: allS p.2 (p.1 + 1)
theorem allB_flat (b : List St) (n : Nat) : allB b n = (numb b n).flatMap allF := allB_eq b n
def spAllN (K : PySem.W.Frag) (n : Nat) : Sp := fun vs H Q _ => ∃ (v : V) (b : List St) (i : Nat), vs = [v, .int (i : Int)] ∧ Dp K H v (blD b) ∧ dpB b ≤ n ∧ okB b ∧ szB b ≤ 20000 ∧ ∀ (q : Addr) (xs : List V) (H' : Hp), Same H H' → H q = none → H' q = some (.lst xs) → Paired (NumAt K H') xs (allB b i) → Q (.ref q) H'
theorem nparts_at : ∀ {ps : List (List St)} {n j : Nat} {p : Nat × List St}, (nparts ps n)[j]? = some p → p.2 ∈ ps
  | x :: r, n, 0, p, h => by simp [nparts] at h; subst h; exact List.mem_cons_self
  | x :: r, n, j + 1, p, h => List.mem_cons_of_mem _ (nparts_at (n := n + szB x) (j := j) (by simpa [nparts] using h))
theorem numb_at : ∀ {b : List St} {n j : Nat} {p : Nat × St}, (numb b n)[j]? = some p → p.2 ∈ b
  | x :: r, n, 0, p, h => by simp [numb] at h; subst h; exact List.mem_cons_self
  | x :: r, n, j + 1, p, h => List.mem_cons_of_mem _ (numb_at (n := n + 1 + szS x) (j := j) (by simpa [numb] using h))
theorem nparts_len : ∀ (ps : List (List St)) (n : Nat), (nparts ps n).length = ps.length
  | [], _ => rfl
  | p :: r, n => by show (nparts r _).length + 1 = r.length + 1; rw [nparts_len r]
theorem szS_mem : ∀ {b : List St} {s : St}, s ∈ b → szS s ≤ szB b
  | x :: r, s, h => by
    show _ ≤ 1 + szS x + szB r
    rcases List.mem_cons.mp h with z | z
    · rw [z]; omega
    · have := szS_mem z; omega
theorem szB_part {s : St} {p : List St} (h : p ∈ parts s) : szB p ≤ szS s := by
  rw [← sz_parts s]
  generalize parts s = l at h
  induction l with
  | nil => cases h
  | cons x r ih =>
    rw [List.map_cons, List.sum_cons]
    rcases List.mem_cons.mp h with z | z
    · rw [z]; omega
    · have := ih z; omega
section
variable {P : Program} {w : World} {K : PySem.W.Frag} {mg : Str → Option Value} {base : Heap}
theorem ok_AllN {f : Addr} {fd : FuncData} (F : Fun K "all_numbered" "all_numbered" sAllN f fd) (GN : ∀ n, Has P w K mg base CX0 (3 + n) "numbered" PNumb (spNumb K n)) (GP : ∀ n, Has P w K mg base CX0 (3 + n) "numbered_parts" PNPar (spNPar K n)) (m : mg "all_numbered" = some (.ref f)) (kp : PySem.W.keepIn K (.ref f) = true) (bd : Binds K fd PAllN []) : ∀ n, FnOk P w K mg base CX0 (4 + n) f fd PAllN (spAllN K n) := by
  intro n
  induction n with
  | zero => exact ⟨fun vs H Q E h => by obtain ⟨_, _, _, _, _, h, _⟩ := h; exact (no_dp h).elim, fun _ _ _ _ _ _ _ _ _ _ _ _ _ h => by obtain ⟨_, _, _, _, _, h, _⟩ := h; exact (no_dp h).elim⟩
  | succ n ih =>
    have GS : Has P w K mg base CX0 (4 + n) "all_numbered" PAllN (spAllN K n) := ⟨f, fd, ih, m, kp, bd⟩
    have GN := GN n
    have GP := GP n
    refine F.ok scAllN (fun vs H Q E h => ?_) (fun cdv A outer s H vs Q E hr h => ?_)
    · obtain ⟨v, b, i, rfl, _⟩ := h
      rfl
    · obtain ⟨v, b, i, rfl, hv, hn, ok, sz, k⟩ := h
      have hr3 := hr.mono (j := 3 + n) (show 3 + n ≤ 4 + n by omega)
      refine ⟨_, (pss_cons (ps_set (i := 2) scAllN.nd rfl (Or.inl rfl) (pe_lst pa_nil))
  (pss_cons (ps_for PassesOwn.never rfl (pi_list (pe_callH GN hr3 rfl pass0 (pa_cons (pv 0) (pa_cons (pv 1) pa_nil)))) (pg_tup (by rfl) (pgs_cons (pg_name (i := 3) scAllN.nd rfl (Or.inl rfl)) (pgs_cons (pg_name (i := 4) scAllN.nd rfl (Or.inl rfl)) pgs_nil)))
  (pss_cons (ps_expr (pe_bm PySem.F.plainAttrs_list PySem.F.slot_list_append PySem.F.type_list_append mt_append (pv 2) (pa_cons (pe_tup (pa_cons (pv 3) (pa_cons (pv 4) pa_nil))) pa_nil)))
  (pss_one (ps_for PassesOwn.never rfl (pi_list (pe_callH GP hr3 rfl pass0 (pa_cons (pv 4) (pa_cons (pv 3) pa_nil)))) (pg_tup (by rfl) (pgs_cons (pg_name (i := 5) scAllN.nd rfl (Or.inl rfl)) (pgs_cons (pg_name (i := 6) scAllN.nd rfl (Or.inl rfl)) pgs_nil)))
  (pss_one (ps_expr (pe_bm PySem.F.plainAttrs_list PySem.F.slot_list_extend PySem.F.type_list_extend mt_extend (pv 2) (pa_cons (pe_callH GS hr rfl pass0 (pa_cons (pv 6) (pa_cons (pv 5) pa_nil))) pa_nil))))))))
  (pss_one (ps_ret (pv 2))))), ?_⟩
      refine ⟨(by show 0 ≤ sizeLine; decide), fun q hq => ?_⟩
      have s1 := same_new (o := .lst []) hq
      refine ⟨_, rfl, _, rfl, v, b, i, rfl, hv.same s1, by omega, ok, fun L xs H2 s2 fL eL pL => ?_⟩
      have t2 := s1.trans s2
      have tot : ((numb b i).flatMap allF).length ≤ 20000 := by rw [← allB_flat, allB_len]; exact sz
      have qL : q ≠ L := ne_of_none upd_same fL
      refine ⟨L, rfl, ⟨_, SqL.of eL⟩, ?_⟩
      refine for_list (K := K) (a := L) (xs := xs) (fun j σ H' => ∃ x3 x4 x5 x6 : Option V, σ = [some v, some (.int (i : Int)), some (.ref q), x3, x4, x5, x6] ∧ Same H H' ∧ Tps H2 H' ∧ H' L = some (.lst xs) ∧ ∃ ys, H' q = some (.lst ys) ∧ Paired (NumAt K H') ys (((numb b i).take j).flatMap allF)) ⟨_, _, _, _, rfl, t2, Tps.refl, eL, [], s2 _ _ upd_same, .nil⟩ (fun j σ H' _ h' => by obtain ⟨_, _, _, _, _, _, _, z, _⟩ := h'; exact SqL.of z) ?_ ?_
      · rintro j x σ H3 hx ⟨x3, x4, x5, x6, rfl, s3, t3, eL3, ys, eq, py⟩
        obtain ⟨⟨num, st⟩, hp, hpd⟩ := Paired.at pL hx
        obtain ⟨a, u, rfl, hqa, hd⟩ := hpd.tps t3
        have ms : st ∈ b := numb_at hp
        have oks := okL_mem ok.2 ms
        have dps := dp_mem ms
        have dbe := dpB_eq b
        have ly : ys.length ≤ 20000 := by rw [Paired.length py]; exact Nat.le_trans (flat_len j) tot
        have lall := flat_len (f := allF) (l := numb b i) (j + 1)
        rw [flat_snoc hp, List.length_append] at lall
        have lF : (allF (num, st)).length = szS st + 1 := by show (allS st (num + 1)).length + 1 = _; rw [allS_len]
        rw [lF, ← Paired.length py] at lall
        refine ⟨a, _, rfl, hqa, rfl, _, _, rfl, _, _, rfl, rfl, ?_⟩
        refine ⟨_, rfl, .inl ⟨rfl, _, SqL.of eq⟩, _, rfl, _, rfl, (by show 2 ≤ sizeLine; decide), fun c hc => ?_⟩
        have s4 := same_new (o := .tup [.int (num : Int), u]) hc
        have eq4 := s4 _ _ eq
        refine ⟨q, _, _, rfl, rfl, eq4, smallX (by omega), ?_⟩
        obtain ⟨H5, eH5⟩ : ∃ H5, H5 = upd (upd H3 c (.tup [.int (num : Int), u])) q (.lst (ys ++ [.ref c])) := ⟨_, rfl⟩
        rw [← eH5]
        have tq : Tps (upd H3 c (.tup [.int (num : Int), u])) H5 := by rw [eH5]; exact Tps.lst eq4
        have t5 : Tps H3 H5 := (Tps.of s4).trans tq
        have s5 : Same H H5 := fun c o z => by
          rw [eH5, upd_ne (ne_of_none z hq)]
          exact s4 _ _ (s3 _ _ z)
        have eq5 : H5 q = some (.lst (ys ++ [.ref c])) := by rw [eH5, upd_same]
        have eL5 : H5 L = some (.lst xs) := by rw [eH5, upd_ne qL.symm]; exact s4 _ _ eL3
        have nc : NumAt K H5 (.ref c) (num, st) := ⟨c, u, rfl, tq.sqt (SqT.of upd_same), hd.tps t5 (noL_st st)⟩
        have py5 : Paired (NumAt K H5) (ys ++ [.ref c]) (((numb b i).take j).flatMap allF ++ [(num, st)]) := Paired.snoc (Paired.mapP py fun _ _ z => z.tps t5) nc
        refine ⟨_, rfl, _, rfl, u, st, num, rfl, hd.tps t5 (noL_st st), by omega, oks, fun M zs H6 s6 fM eM pM => ?_⟩
        have qM : q ≠ M := ne_of_none eq5 fM
        have LM : L ≠ M := ne_of_none eL5 fM
        refine ⟨M, rfl, ⟨_, SqL.of eM⟩, ?_⟩
        have lz : zs.length ≤ 20002 := by rw [Paired.length pM, nparts_len]; exact parts_len oks
        refine for_list (K := K) (a := M) (xs := zs) (fun k σ H' => ∃ x5 x6 : Option V, σ = [some v, some (.int (i : Int)), some (.ref q), some (.int (num : Int)), some u, x5, x6] ∧ Same H H' ∧ Tps H6 H' ∧ H' L = some (.lst xs) ∧ H' M = some (.lst zs) ∧ ∃ ws, H' q = some (.lst ws) ∧ Paired (NumAt K H') ws (((numb b i).take j).flatMap allF ++ (num, st) :: allP ((nparts (parts st) (num + 1)).take k))) ⟨_, _, rfl, s5.trans s6, Tps.refl, s6 _ _ eL5, eM, _, s6 _ _ eq5, Paired.mapP py5 fun _ _ z => z.tps (Tps.of s6)⟩ (fun k σ H' _ h' => by obtain ⟨_, _, _, _, _, _, z, _⟩ := h'; exact SqL.of z) ?_ ?_
        · rintro k' y σ H7 hy ⟨x5, x6, rfl, s7, t7, eL7, eM7, ws, eq7, pw⟩
          obtain ⟨⟨inn, p⟩, hpp, hppd⟩ := Paired.at pM hy
          obtain ⟨a2, u2, rfl, hqa2, hd2⟩ := hppd.tps t7
          have mp : p ∈ parts st := nparts_at hpp
          have dpp := dp_part mp
          have szp := szB_part mp
          have szs := szS_mem ms
          refine ⟨a2, _, rfl, hqa2, rfl, _, _, rfl, _, _, rfl, rfl, ?_⟩
          have lw := flat_len (f := fun p : Nat × List St => allB p.2 p.1) (l := nparts (parts st) (num + 1)) (k' + 1)
          have ltot : ((nparts (parts st) (num + 1)).flatMap fun p : Nat × List St => allB p.2 p.1).length = szS st := by
            have := congrArg List.length (allP_parts st (num + 1))
            rw [allS_len] at this
            exact this
          rw [flat_snoc hpp, List.length_append, allB_len, ltot] at lw
          have lws : ws.length = ys.length + (1 + ((nparts (parts st) (num + 1)).take k' |>.flatMap fun p : Nat × List St => allB p.2 p.1).length) := by
            rw [Paired.length pw, List.length_append, List.length_cons, ← Paired.length py]
            unfold allP
            omega
          refine ⟨_, rfl, .inl ⟨rfl, _, SqL.of eq7⟩, _, rfl, _, rfl, u2, p, inn, rfl, hd2, by omega, okS_parts oks mp, by omega, fun N rs H8 s8 fN eN pN => ?_⟩
          have eq8 := s8 _ _ eq7
          have qN : q ≠ N := ne_of_none eq7 fN
          have lr : rs.length = szB p := by rw [Paired.length pN, allB_len]
          refine ⟨q, N, _, _, rfl, rfl, eq8, eN, Nat.le_of_lt (smallX (by simp only at lw; omega)), ?_⟩
          have t9 : Tps H8 (upd H8 q (.lst (ws ++ rs))) := Tps.lst eq8
          have t79 := (Tps.of s8).trans t9
          refine ⟨_, _, rfl, fun c o z => ?_, t7.trans t79, by rw [upd_ne qL.symm]; exact s8 _ _ eL7, by rw [upd_ne qM.symm]; exact s8 _ _ eM7, _, upd_same, ?_⟩
          · rw [upd_ne (ne_of_none z hq)]
            exact s8 _ _ (s7 _ _ z)
          · have e : ((numb b i).take j).flatMap allF ++ (num, st) :: allP ((nparts (parts st) (num + 1)).take (k' + 1)) = (((numb b i).take j).flatMap allF ++ (num, st) :: allP ((nparts (parts st) (num + 1)).take k')) ++ allB p inn := by
              unfold allP
              rw [flat_snoc hpp, List.append_assoc]
              rfl
            rw [e]
            exact Paired.app (Paired.mapP pw fun _ _ z => z.tps t79) (Paired.mapP pN fun _ _ z => z.tps t9)
        · rintro σ H7 ⟨x5, x6, rfl, s7, t7, eL7, eM7, ws, eq7, pw⟩
          rw [Paired.length pM, List.take_length, allP_parts] at pw
          refine ⟨_, _, _, _, rfl, s7, t3.trans (t5.trans ((Tps.of s6).trans t7)), eL7, ws, eq7, ?_⟩
          rw [flat_snoc hp]
          exact pw
      · rintro σ H3 ⟨x3, x4, x5, x6, rfl, s3, t3, eL3, ys, eq, py⟩
        rw [Paired.length pL, List.take_length, ← allB_flat] at py
        exact ⟨_, rfl, k q ys H3 s3 hq eq py⟩
end
theorem inj_of_nodup {α β : Type} {f : α → β} : ∀ {l : List α}, (l.map f).Nodup → ∀ {x y : α}, x ∈ l → y ∈ l → f x = f y → x = y
  | a :: r, h, x, y, hx, hy, e => by
    rw [List.map_cons, List.nodup_cons] at h
    rcases List.mem_cons.mp hx with h1 | h1
    · rcases List.mem_cons.mp hy with h2 | h2
      · rw [h1, h2]
      · exact absurd (List.mem_map.mpr ⟨y, h2, by rw [← e, h1]⟩) h.1
    · rcases List.mem_cons.mp hy with h2 | h2
      · exact absurd (List.mem_map.mpr ⟨x, h1, by rw [e, h2]⟩) h.1
      · exact inj_of_nodup h.2 h1 h2 e

/-! ### the shape of a tree: is_pair, is_row_of_names -/
structure TxShape (mg : Str → Option Value) : Prop where
  n_isinstance : mg "isinstance" = none
  n_tuple : mg "tuple" = none
  n_str : mg "str" = none
  n_bool : mg "bool" = none
  n_len : mg "len" = none
  n_all : mg "all" = none
  n_zip : mg "zip" = none
abbrev sIsPair : Stmt := topS 39
abbrev NIsPair : List Str := ["value"]
abbrev PIsPair : List Str := ["value"]
theorem scIsPair : FnScope NIsPair PIsPair (defScope sIsPair) := ⟨rfl, rfl, rfl, by decide +kernel, rfl, by decide +kernel, by decide +kernel⟩
abbrev sRowN : Stmt := topS 38
abbrev NRowN : List Str := ["value", "one"]
abbrev PRowN : List Str := ["value"]
theorem scRowN : FnScope NRowN PRowN (defScope sRowN) := ⟨rfl, rfl, rfl, by decide +kernel, rfl, by decide +kernel, by decide +kernel⟩
def spIsPair (K : PySem.W.Frag) : Sp := fun vs H Q _ => ∃ (a : Addr) (xs : List V), vs = [.ref a] ∧ SqT K H a xs ∧ Q (.bl (decide (xs.length = 2))) H
def spRowN (K : PySem.W.Frag) : Sp := fun vs H Q _ => ∃ (v : V) (ns : List Str), vs = [v] ∧ Dp K H v (nmD ns) ∧ okNs ns ∧ ∀ H', Same H H' → Q (.bl true) H'
section
variable {P : Program} {w : World} {K : PySem.W.Frag} {mg : Str → Option Value} {base : Heap}
end

/-! ### is_integer -/
abbrev sIsInt : Stmt := topS 21
abbrev NIsInt : List Str := ["value"]
abbrev PIsInt : List Str := ["value"]
theorem scIsInt : FnScope NIsInt PIsInt (defScope sIsInt) := ⟨rfl, rfl, rfl, by decide +kernel, rfl, by decide +kernel, by decide +kernel⟩
structure TxInt (mg : Str → Option Value) : Prop where
  n_int : mg "int" = none
  n_bool : mg "bool" = none
  n_isinstance : mg "isinstance" = none
def NoInt (K : PySem.W.Frag) (H : Hp) (v : V) : Prop := ∃ t b, TyX K H v t ∧ PySem.W.kitOne K t (.type "int") = some b ∧ (b = true → PySem.W.kitOne K t (.type "bool") = some true)
def spIsInt (K : PySem.W.Frag) : Sp := fun vs H Q _ => ∃ v, vs = [v] ∧ ((∃ i : Int, v = .int i ∧ Q (.bl true) H) ∨ (NoInt K H v ∧ Q (.bl false) H))
theorem ok_IsInt {P : Program} {w : World} {K : PySem.W.Frag} {mg : Str → Option Value} {base : Heap} {f : Addr} {fd : FuncData} (F : Fun K "is_integer" "is_integer" sIsInt f fd) (T : TxInt mg) : FnOk P w K mg base CX0 1 f fd PIsInt (spIsInt K) := by
  refine F.ok scIsInt (fun vs H Q E h => ?_) (fun cdv A outer s H vs Q E hr h => ?_)
  · obtain ⟨v, rfl, _⟩ := h
    rfl
  · obtain ⟨v, rfl, h⟩ := h
    refine ⟨_, (pss_one (ps_ret (pe_and (pe_callB call_isi (by rfl) T.n_isinstance bb_isinstance (pa_cons (pv 0) (pa_cons (pe_bltn (v := .ty "int") (by rfl) T.n_int bb_int rfl) pa_nil))) (pe_one (pe_not (pe_callB call_isi (by rfl) T.n_isinstance bb_isinstance (pa_cons (pv 0) (pa_cons (pe_bltn (v := .ty "bool") (by rfl) T.n_bool bb_bool rfl) pa_nil)))))))), ?_⟩
    rcases h with ⟨i, rfl, k⟩ | ⟨⟨t, b, ty, k1, k2⟩, k⟩
    · refine ⟨_, rfl, _, _, _, _, _, rfl, .ty _, .base (.int i), kit_ty (r := true) (by decide +kernel), _, rfl, ?_⟩
      exact ⟨_, rfl, _, _, _, _, _, rfl, .ty _, .base (.int i), kit_ty (r := false) (by decide +kernel), _, rfl, k⟩
    · refine ⟨_, rfl, _, _, _, _, _, rfl, .ty _, ty, k1, _, rfl, ?_⟩
      cases b with
      | false => exact k
      | true => exact ⟨_, rfl, _, _, _, _, _, rfl, .ty _, ty, k2 rfl, _, rfl, k⟩

/-! ### is_expression -/
abbrev sIsExp : Stmt := topS 40
abbrev NIsExp : List Str := ["value", "term", "names", "name", "factor", "one", "other"]
abbrev PIsExp : List Str := ["value"]
theorem scIsExp : FnScope NIsExp PIsExp (defScope sIsExp) := ⟨rfl, rfl, rfl, by decide +kernel, rfl, by decide +kernel, by decide +kernel⟩
theorem cut_drop1 {xs : List V} : cutV xs (some 1) none = xs.drop 1 := by
  unfold cutV
  rw [HT.sIx_none, show (1 : Int) = ((1 : Nat) : Int) from rfl, HT.sIx_nat]
  cases xs with
  | nil => rfl
  | cons x r =>
    rw [show min 1 (x :: r).length = 1 by rw [List.length_cons]; omega]
    rw [List.take_of_length_le]
    rw [List.length_drop]
    exact Nat.le_refl _
def spIsExp (K : PySem.W.Frag) : Sp := fun vs H Q _ => ∃ (v : V) (e : Ex), vs = [v] ∧ Dp K H v (exD e) ∧ okEx e ∧ ∀ H', Same H H' → Q (.bl true) H'
section
variable {P : Program} {w : World} {K : PySem.W.Frag} {mg : Str → Option Value} {base : Heap}
end

/-! ### is_arg, is_call -/
abbrev sIsArg : Stmt := topS 41
abbrev NIsArg : List Str := ["value"]
abbrev PIsArg : List Str := ["value"]
theorem scIsArg : FnScope NIsArg PIsArg (defScope sIsArg) := ⟨rfl, rfl, rfl, by decide +kernel, rfl, by decide +kernel, by decide +kernel⟩
abbrev sIsCal : Stmt := topS 42
abbrev NIsCal : List Str := ["value", "one"]
abbrev PIsCal : List Str := ["value"]
theorem scIsCal : FnScope NIsCal PIsCal (defScope sIsCal) := ⟨rfl, rfl, rfl, by decide +kernel, rfl, by decide +kernel, by decide +kernel⟩
def spIsArg (K : PySem.W.Frag) : Sp := fun vs H Q _ => ∃ (v : V) (e : Arg), vs = [v] ∧ Dp K H v (argD e) ∧ okArg e ∧ ∀ H', Same H H' → Q (.bl true) H'
def spIsCal (K : PySem.W.Frag) : Sp := fun vs H Q _ => ∃ (v : V) (e : Cal), vs = [v] ∧ Dp K H v (calD e) ∧ okCal e ∧ ∀ H', Same H H' → Q (.bl true) H'
section
variable {P : Program} {w : World} {K : PySem.W.Frag} {mg : Str → Option Value} {base : Heap}
end

/-! ### tuple == tuple, whose items are flat or instances with an own __eq__: both answers -/
section
open PySem.SeqAt MeetsSeq MeetsSeq2 MeetsSeq3 SeqRoads2
variable {prog : Program} {w : World} {A : Around} {R : Result → Shared → Prop}
theorem tuple_eqB (l b : Addr) (items items2 : Array Value) (n n2 : Nat) (dd dd2 : Option Addr) (sl sl2 : Array (Option Value)) (I : Nat → Shared → Prop)
    (turn : ∀ i (h1 : i < items.size) (h2 : i < items2.size) s, I i s → wpAny (model prog w) A.in1 (eqBool items[i] items2[i]) (fun r s' => (r = true ∧ I (i + 1) s') ∨ (r = false ∧ R (.ok (.ret (.bool false))) s')) (fun e s' => R (.error e) s') s)
    (fin : ∀ s, I (min items.size items2.size) s → R (.ok (.ret (.bool (items.size == items2.size)))) s) {s : Shared} (hl1 : s.heap.get? l = some { cls := .type "tuple", dict := dd, data := .seq items n, slots := sl }) (hb1 : s.heap.get? b = some { cls := .type "tuple", dict := dd2, data := .seq items2 n2, slots := sl2 }) (h : I 0 s) :
    wpAny (model prog w) A.in1 (Builtin.«tuple.__eq__» ⟨[.ref l, .ref b], []⟩) (GQ.FinOf prog w A R) (fun e s' => R (.error e) s') s := by
  have f2 := AutoSeq1.sub_tuple_tuple
  have hZ : (items.toList.zip items2.toList).length = min items.size items2.size := by simp
  have h0 := h
  obtain ⟨hp, g, d, tk, os⟩ := s
  wp_walk using AutoSeq1.wpAny_loadPart' hl1, AutoSeq1.wpAny_loadPart' hb1, wpAny_forIn_list _ (fun rest b s' => b.1 = none ∧ ∃ i, rest = (items.toList.zip items2.toList).drop i ∧ i ≤ min items.size items2.size ∧ I i s') _
  case turn =>
    rintro ⟨y, x⟩ rest b s' ⟨hb', i, hz, hi, hI⟩
    have hlt : i < (items.toList.zip items2.toList).length := by
      rcases Nat.lt_or_ge i (items.toList.zip items2.toList).length with h' | h'
      · exact h'
      · rw [List.drop_of_length_le h'] at hz; cases hz
    have h12 : i < min items.size items2.size := hZ ▸ hlt
    have h1 : i < items.size := by omega
    have h2 : i < items2.size := by omega
    rw [List.drop_eq_getElem_cons hlt] at hz
    injection hz with hyx hrest
    have hy : y = items[i] := by have := congrArg Prod.fst hyx; simpa using this
    have hx : x = items2[i] := by have := congrArg Prod.snd hyx; simpa using this
    subst hy hx
    refine wpAny_bind (wpAny_mono (turn i h1 h2 s' hI) (fun r s2 q2 => ?_) fun _ _ x => x)
    rcases q2 with ⟨hr, q2⟩ | ⟨hr, q2⟩
    · subst hr
      wp_walk
      exact ⟨rfl, i + 1, hrest, by omega, q2⟩
    · subst hr
      wp_walk
      exact q2
  case fin =>
    rintro ⟨b1, b2⟩ s' ⟨hb', i, hz, hi, hI⟩
    simp only at hb'
    subst hb'
    have hge : min items.size items2.size ≤ i := by
      rcases Nat.lt_or_ge i (items.toList.zip items2.toList).length with h' | h'
      · rw [List.drop_eq_getElem_cons h'] at hz; cases hz
      · exact hZ ▸ h'
    have hi' : i = min items.size items2.size := by omega
    have hR := fin s' (hi' ▸ hI)
    wp_walk
    exact hR
  case h =>
    exact ⟨rfl, 0, rfl, Nat.zero_le _, h0⟩
theorem rc_tupB {E : Value → Shared → Prop} {s : Shared} {l b : Addr} {items items2 : Array Value} {Q : Value → Shared → Prop} (hu : A.units < cLine) (I : Nat → Shared → Prop) (hl : s.heap.IsTuple l items) (hb : s.heap.IsTuple b items2)
    (turn : ∀ i (h1 : i < items.size) (h2 : i < items2.size) s, I i s → wpAny (model prog w) A.in1 (eqBool items[i] items2[i]) (fun r s' => (r = true ∧ I (i + 1) s') ∨ (r = false ∧ Q (.bool false) s')) E s)
    (fin : ∀ s, I (min items.size items2.size) s → Q (.bool (items.size == items2.size)) s) (h : I 0 s) : wpAny (model prog w) A (richCompare .Eq (.ref l) (.ref b)) Q E s := by
  obtain ⟨⟨cls, dd, data, sl⟩, ho, hc, n, hd⟩ := id hl
  obtain ⟨⟨cls2, dd2, data2, sl2⟩, ho2, hc2, n2, hd2⟩ := id hb
  simp only at hc hd hc2 hd2
  subst hc hd hc2 hd2
  refine wpAny_richCompare_same_room (op := .Eq) ⟨_, ho, rfl⟩ ⟨_, ho2, rfl⟩ F.slot_tuple_eq (GQ.call_here F.slot_tuple_eq ⟨_, ho, rfl⟩ F.entry_tuple_eq (F.args_tuple_eq_2 _ _) ?_) hu
  refine tuple_eqB (R := wants (fun v s' => v ≠ .notImplemented ∧ Q v s') E) l b items items2 n n2 dd dd2 sl sl2 I (fun i h1 h2 s' hI => wpAny_mono (turn i h1 h2 s' hI) (fun r s2 q => ?_) fun _ _ z => z) (fun s' q => ⟨(fun x => nomatch x), fin s' q⟩) ho ho2 h
  rcases q with q | ⟨q1, q2⟩
  · exact .inl q
  · exact .inr ⟨q1, ⟨(fun x => nomatch x), q2⟩⟩
end

/-! ### tuple == (): the items are not looked at -/
def rEqE (K : PySem.W.Frag) : V → V → Hp → VK → Prop := fun x y H Q => ∃ ta tb xs, x = .ref ta ∧ y = .ref tb ∧ SqT K H ta xs ∧ SqT K H tb [] ∧ Q (.bl xs.isEmpty) H
section
variable {X : Cx}
theorem op_eqE (hu : X.A.units < cLine) : OpR X (compareOp .Eq) (rEqE X.K) := by
  intro pins s σ H x y v u Q I rx ry h
  obtain ⟨ta, tb, xs, rfl, rfl, e1, e2, q⟩ := h
  obtain rfl : v = Value.ref ta := rx
  obtain rfl : u = Value.ref tb := ry
  obtain ⟨its, r1, t1, _⟩ := I.tuple e1
  obtain ⟨its2, r2, t2, _⟩ := I.tuple e2
  show wpAny (model X.prog X.w) X.A (richCompare .Eq (.ref ta) (.ref tb)) _ _ _
  have l1 : its.length = xs.length := r1.length.symm
  have l2 : its2.length = 0 := r2.length.symm
  refine rc_tupB hu (fun i s' => s' = s) t1 t2 (fun i h1 h2 s' hI => ?_) (fun s' hI => ?_) rfl
  · exact absurd h2 (by simp [l2])
  · subst hI
    refine ⟨_, H, I, ?_, q⟩
    have e : (its.toArray.size == its2.toArray.size) = xs.isEmpty := by
      rw [List.size_toArray, List.size_toArray, l1, l2]
      cases xs <;> rfl
    rw [e]
    rfl
end

/-! ### is_simple -/
abbrev sIsSim : Stmt := topS 45
abbrev NIsSim : List Str := ["value", "target", "expression", "name", "args", "kinds", "kind"]
abbrev PIsSim : List Str := ["value"]
theorem scIsSim : FnScope NIsSim PIsSim (defScope sIsSim) := ⟨rfl, rfl, rfl, by decide +kernel, rfl, by decide +kernel, by decide +kernel⟩
theorem strOk_name {n : Str} (h : isName n = true) : PyData.strOk n = true := by
  unfold PyData.strOk
  rw [← Array.all_toList, List.all_eq_true]
  intro c hc
  obtain ⟨c0, h0⟩ : ∃ c0, n.cps.toList[0]? = some c0 := by
    cases e : n.cps.toList with
    | nil => rw [e] at hc; cases hc
    | cons a r => exact ⟨a, rfl⟩
  rw [isName_at h0] at h
  simp only [Bool.and_eq_true] at h
  have q := List.all_eq_true.mp h.1.2 c hc
  unfold al at q
  simp only [Bool.or_eq_true, decide_eq_true_eq] at q
  have b1 : ∀ x ∈ LET.cps.toList, x < 200 := by decide +kernel
  have b2 : ∀ x ∈ DIG.cps.toList, x < 200 := by decide +kernel
  rcases q with q | q
  · have := b1 c q
    simp only [decide_eq_true_eq]
    omega
  · have := b2 c q
    simp only [decide_eq_true_eq]
    omega
theorem nm_ne {ns : List Str} (h : ns ≠ []) : (!PyData.eqv (nmD ns) (.tuple [])) = true := by
  cases ns with
  | nil => exact absurd rfl h
  | cons x r => rfl
theorem nm_shaped {ns : List Str} (h : okNs ns) : SeqAt.shaped (nmD ns) = true := by
  have e : nmD ns = .tuple ((ns.map V.str).map dOf) := by unfold nmD; rw [List.map_map]; rfl
  rw [e]
  refine shaped_tup ?_
  rw [List.all_map, List.all_eq_true]
  intro z hz
  exact strOk_name (h.2 z hz).1
/-- a statement without blocks -/
def simple : St → Prop
  | .set _ _ => True | .input _ => True | .call _ _ _ => True | .risk _ => True | .raise _ => True | .ret _ => True
  | _ => False
def spIsSim (K : PySem.W.Frag) : Sp := fun vs H Q _ => ∃ (v : V) (e : St), vs = [v] ∧ Dp K H v (stD e) ∧ okS e ∧ simple e ∧ ∀ H', Same H H' → Q (.bl true) H'
section
variable {P : Program} {w : World} {K : PySem.W.Frag} {mg : Str → Option Value} {base : Heap}
end

/-! ### is_block, is_handler, is_statement -/
abbrev sIsBlk : Stmt := topS 43
abbrev NIsBlk : List Str := ["value", "depth", "one"]
abbrev PIsBlk : List Str := ["value", "depth"]
theorem scIsBlk : FnScope NIsBlk PIsBlk (defScope sIsBlk) := ⟨rfl, rfl, rfl, by decide +kernel, rfl, by decide +kernel, by decide +kernel⟩
abbrev sIsHnd : Stmt := topS 44
abbrev NIsHnd : List Str := ["value", "depth"]
abbrev PIsHnd : List Str := ["value", "depth"]
theorem scIsHnd : FnScope NIsHnd PIsHnd (defScope sIsHnd) := ⟨rfl, rfl, rfl, by decide +kernel, rfl, by decide +kernel, by decide +kernel⟩
abbrev sIsSta : Stmt := topS 46
abbrev NIsSta : List Str := ["value", "depth", "first", "second", "block", "handlers", "final", "one", "names", "enter", "leave", "kinds"]
abbrev PIsSta : List Str := ["value", "depth"]
theorem scIsSta : FnScope NIsSta PIsSta (defScope sIsSta) := ⟨rfl, rfl, rfl, by decide +kernel, rfl, by decide +kernel, by decide +kernel⟩
def spIsBlk (K : PySem.W.Frag) (n : Nat) : Sp := fun vs H Q _ => ∃ (v : V) (b : List St) (d : Nat), vs = [v, .int (d : Int)] ∧ Dp K H v (blD b) ∧ dpB b ≤ n ∧ dpB b ≤ d ∧ okB b ∧ ∀ H', Same H H' → Q (.bl true) H'
def spIsHnd (K : PySem.W.Frag) (n : Nat) : Sp := fun vs H Q _ => ∃ (v : V) (h : Hd) (d : Nat), vs = [v, .int (d : Int)] ∧ Dp K H v (hdD h) ∧ dpH h ≤ n ∧ dpH h ≤ d ∧ okH h ∧ ∀ H', Same H H' → Q (.bl true) H'
def spIsSta (K : PySem.W.Frag) (n : Nat) : Sp := fun vs H Q _ => ∃ (v : V) (s : St) (d : Nat), vs = [v, .int ((d + 1 : Nat) : Int)] ∧ Dp K H v (stD s) ∧ dpS s ≤ n ∧ dpS s ≤ d ∧ okS s ∧ ∀ H', Same H H' → Q (.bl true) H'
section
variable {P : Program} {w : World} {K : PySem.W.Frag} {mg : Str → Option Value} {base : Heap}
end

/-! ### is_statement -/
theorem dpH_mem : ∀ {hs : List Hd} {h : Hd}, h ∈ hs → dpH h ≤ dpHs hs
  | x :: r, h, hm => by
    show _ ≤ max _ _
    rcases List.mem_cons.mp hm with z | z
    · rw [z]; exact Nat.le_max_left _ _
    · exact Nat.le_trans (dpH_mem z) (Nat.le_max_right _ _)
section
variable {P : Program} {w : World} {K : PySem.W.Frag} {mg : Str → Option Value} {base : Heap}
end

/-! ### is_block at every depth, is_param, is_function, is_tree -/
structure Fn where
  name : Str
  ps : List (Str × Bool)
  b : List St
structure Tr where
  names : List Str
  kinds : List Str
  keeps : List Ex
  fns : List Fn
def prD (p : Str × Bool) : PyData := .tuple [.str p.1, .bool p.2]
def fnD (f : Fn) : PyData := .tuple [.str f.name, .tuple (f.ps.map prD), blD f.b]
def trD (t : Tr) : PyData := .tuple [nmD t.names, nmD t.kinds, .tuple (t.keeps.map exD), .tuple (t.fns.map fnD)]
def okFn (n : Nat) (f : Fn) : Prop := okN1 f.name ∧ (f.ps.length ≤ 20000 ∧ ∀ p ∈ f.ps, okN1 p.1) ∧ okB f.b ∧ dpB f.b ≤ n ∧ dpB f.b ≤ 30
def okTr (n : Nat) (t : Tr) : Prop := okNs t.names ∧ okNs t.kinds ∧ (t.keeps.length ≤ 20000 ∧ ∀ e ∈ t.keeps, okEx e ∧ e.c = 0) ∧ t.fns.length ≤ 20000 ∧ ∀ f ∈ t.fns, okFn n f
abbrev sIsPar : Stmt := topS 47
abbrev NIsPar : List Str := ["value"]
abbrev PIsPar : List Str := ["value"]
theorem scIsPar : FnScope NIsPar PIsPar (defScope sIsPar) := ⟨rfl, rfl, rfl, by decide +kernel, rfl, by decide +kernel, by decide +kernel⟩
abbrev sIsFun : Stmt := topS 48
abbrev NIsFun : List Str := ["value", "one"]
abbrev PIsFun : List Str := ["value"]
theorem scIsFun : FnScope NIsFun PIsFun (defScope sIsFun) := ⟨rfl, rfl, rfl, by decide +kernel, rfl, by decide +kernel, by decide +kernel⟩
abbrev sIsTree : Stmt := topS 49
abbrev NIsTree : List Str := ["value", "names", "kinds", "keeps", "functions", "one"]
abbrev PIsTree : List Str := ["value"]
theorem scIsTree : FnScope NIsTree PIsTree (defScope sIsTree) := ⟨rfl, rfl, rfl, by decide +kernel, rfl, by decide +kernel, by decide +kernel⟩
def spIsPar (K : PySem.W.Frag) : Sp := fun vs H Q _ => ∃ (v : V) (p : Str × Bool), vs = [v] ∧ Dp K H v (prD p) ∧ okN1 p.1 ∧ ∀ H', Same H H' → Q (.bl true) H'
def spIsFun (K : PySem.W.Frag) (n : Nat) : Sp := fun vs H Q _ => ∃ (v : V) (p : Fn), vs = [v] ∧ Dp K H v (fnD p) ∧ okFn n p ∧ ∀ H', Same H H' → Q (.bl true) H'
def spIsTree (K : PySem.W.Frag) (n : Nat) : Sp := fun vs H Q _ => ∃ (v : V) (p : Tr), vs = [v] ∧ Dp K H v (trD p) ∧ okTr n p ∧ ∀ H', Same H H' → Q (.bl true) H'
theorem Dp.blInv {K : PySem.W.Frag} {H : Hp} {v : V} {z : Bool} (h : Dp K H v (.bool z)) : v = .bl z := by cases h; rfl
section
variable {P : Program} {w : World} {K : PySem.W.Frag} {mg : Str → Option Value} {base : Heap}
end

/-! ### k08: the form of a tree, over any data -/
def isTupD : PyData → Bool
  | .tuple _ => true
  | _ => false
def isLstD : PyData → Bool
  | .list _ => true
  | _ => false
def isStrD : PyData → Bool
  | .str _ => true
  | _ => false
def isBoolD : PyData → Bool
  | .bool _ => true
  | _ => false
def isIntD : PyData → Bool
  | .int _ => true
  | .bool _ => true
  | _ => false
def isNonD : PyData → Bool
  | .none => true
  | _ => false
def isNilD : PyData → Bool
  | .tuple [] => true
  | _ => false
def inD : PyData → Bool
  | .int _ => true
  | _ => false
def nameD : PyData → Bool
  | .str z => isName z
  | _ => false
def rowD : PyData → Bool
  | .tuple l => l.all nameD
  | _ => false
def pairD : PyData → Bool
  | .tuple l => decide (l.length = 2)
  | _ => false
def termD : PyData → Bool
  | .tuple [.str z, .int n] => isName z && !decide (n = 0)
  | _ => false
def nmOf : PyData → Str
  | .tuple (.str z :: _) => z
  | _ => ""
def ascL : List Str → Bool
  | x :: y :: r => decide (x.cps.toList < y.cps.toList) && ascL (y :: r)
  | _ => true
def exprD : PyData → Bool
  | .tuple [.int _, .tuple ts] => ts.all termD && ascL (ts.map nmOf)
  | _ => false
def argB : PyData → Bool
  | .tuple [.str w, x] => if w = "place" then nameD x else (decide (w = "value") && exprD x)
  | _ => false
def callB : PyData → Bool
  | .tuple [n, .tuple as] => nameD n && as.all argB
  | _ => false
def hdlB (f : PyData → Bool) : PyData → Bool
  | .tuple [ns, b] => !isNilD ns && (rowD ns && f b)
  | _ => false
def simB (w : Str) : List PyData → Bool
  | [a] => if w = "input" then nameD a else if w = "risk" then (!isNilD a && rowD a) else if w = "raise" then nameD a else if w = "return" then exprD a else false
  | [a, b] => if w = "set" then (nameD a && exprD b) else false
  | [a, b, c] => if w = "call" then ((isNonD a || nameD a) && callB (.tuple [b, c])) else false
  | _ => false
def hdsB (f : PyData → Bool) : PyData → Bool
  | .tuple l => l.all (hdlB f)
  | _ => false
def stmB (f : PyData → Bool) : PyData → Bool
  | .tuple (.str w :: [a]) => if w = "while" then f a else simB w [a]
  | .tuple (.str w :: [a, b]) => if w = "if" then (f a && f b) else if w = "undo" then (!isNilD a && (rowD a && f b)) else simB w [a, b]
  | .tuple (.str w :: [a, b, c]) => if w = "try" then (f a && (f c && hdsB f b)) else simB w [a, b, c]
  | .tuple (.str w :: [a, b, c, d]) => if w = "with" then (callB a && (callB b && (rowD c && f d))) else false
  | _ => false
def blkB : Nat → PyData → Bool
  | n + 1, .tuple l => l.all (stmB (blkB n))
  | _, _ => false
def parB : PyData → Bool
  | .tuple [n, b] => nameD n && isBoolD b
  | _ => false
def funB : PyData → Bool
  | .tuple [n, .tuple ps, b] => nameD n && (ps.all parB && blkB 30 b)
  | _ => false
def kpB : PyData → Bool
  | .tuple [.int c, ts] => exprD (.tuple [.int c, ts]) && decide (c = 0)
  | _ => false
def treeB : PyData → Bool
  | .tuple [ns, ks, .tuple es, .tuple fs] => rowD ns && (rowD ks && (es.all kpB && fs.all funB))
  | _ => false
/-- data whose texts are not too long, whose numbers are small -/
def bdD : PyData → Bool
  | .str z => PyData.strOk z && decide (z.length ≤ 100)
  | .int i => decide (i.natAbs ≤ 100)
  | .list l => bdL l
  | .tuple l => bdL l
  | .dict _ => false
  | _ => true
where bdL : List PyData → Bool
  | [] => true
  | d :: r => bdD d && bdL r
/-- how many parts there are -/
def ndD : PyData → Nat
  | .list l => 1 + ndL l
  | .tuple l => 1 + ndL l
  | _ => 1
where ndL : List PyData → Nat
  | [] => 0
  | d :: r => ndD d + ndL r
theorem bdL_all : ∀ {l : List PyData}, bdD.bdL l = true → ∀ d ∈ l, bdD d = true
  | x :: r, h, d, hd => by
    simp only [bdD.bdL, Bool.and_eq_true] at h
    rcases List.mem_cons.mp hd with z | z
    · rw [z]; exact h.1
    · exact bdL_all h.2 d z
theorem bdL_of : ∀ {l : List PyData}, (∀ d ∈ l, bdD d = true) → bdD.bdL l = true
  | [], _ => rfl
  | x :: r, h => by
    simp only [bdD.bdL, Bool.and_eq_true]
    exact ⟨h x List.mem_cons_self, bdL_of fun d hd => h d (List.mem_cons_of_mem _ hd)⟩
theorem nd_pos (d : PyData) : 1 ≤ ndD d := by cases d <;> simp [ndD]
theorem ndL_len : ∀ l : List PyData, l.length ≤ ndD.ndL l
  | [] => Nat.le_refl _
  | x :: r => by
    have := ndL_len r
    have := nd_pos x
    show r.length + 1 ≤ ndD x + ndD.ndL r
    omega
theorem ndL_mem : ∀ {l : List PyData} {d : PyData}, d ∈ l → ndD d ≤ ndD.ndL l
  | x :: r, d, h => by
    show ndD d ≤ ndD x + ndD.ndL r
    rcases List.mem_cons.mp h with z | z
    · rw [z]; omega
    · have := ndL_mem z; omega
theorem ndL_app : ∀ l r : List PyData, ndD.ndL (l ++ r) = ndD.ndL l + ndD.ndL r
  | [], r => by show _ = 0 + _; rw [Nat.zero_add]; rfl
  | x :: l, r => by
    show ndD x + ndD.ndL (l ++ r) = ndD x + ndD.ndL l + _
    rw [ndL_app l r]
    omega
/-- the data that the law handles: bounds, and not too deep -/
structure GD (n : Nat) (d : PyData) : Prop where
  b : bdD d = true
  h : d.depth ≤ n
  c : ndD d ≤ 20000
theorem GD.mono {n m : Nat} {d : PyData} (h : GD n d) (l : n ≤ m) : GD m d := ⟨h.b, Nat.le_trans h.h l, h.c⟩
theorem depthAll_le : ∀ {l : List PyData} {d : PyData}, d ∈ l → d.depth ≤ PyData.depthAll l
  | x :: r, d, h => by
    simp only [PyData.depthAll]
    rcases List.mem_cons.mp h with z | z
    · rw [z]; omega
    · have := depthAll_le z; omega
theorem GD.mem {n : Nat} {l : List PyData} (h : GD n (.tuple l)) {d : PyData} (hd : d ∈ l) : GD (n - 1) d := by
  have h1 : bdD.bdL l = true := h.b
  have h2 := h.h
  have h3 : 1 + ndD.ndL l ≤ 20000 := h.c
  simp only [PyData.depth] at h2
  have := depthAll_le hd
  have := ndL_mem hd
  exact ⟨bdL_all h1 d hd, by omega, by omega⟩
theorem GD.len {n : Nat} {l : List PyData} (h : GD n (.tuple l)) : l.length ≤ 20000 := by
  have h3 : 1 + ndD.ndL l ≤ 20000 := h.c
  have := ndL_len l
  omega
theorem GD.pos {n : Nat} {l : List PyData} (h : GD n (.tuple l)) : 1 ≤ n := by
  have h2 := h.h
  simp only [PyData.depth] at h2
  omega
theorem GD.strLen {n : Nat} {z : Str} (h : GD n (.str z)) : z.length ≤ 1000 := by
  have h1 := h.b
  simp only [bdD, Bool.and_eq_true, decide_eq_true_eq] at h1
  omega
mutual
theorem lay_bd : ∀ (d : PyData), bdD d = true → d.canLay0 = true
  | .none, _ => by simp [PyData.canLay0]
  | .bool _, _ => by simp [PyData.canLay0]
  | .int _, _ => by simp [PyData.canLay0]
  | .str z, h => by
    simp only [bdD, Bool.and_eq_true] at h
    simpa [PyData.canLay0] using h.1
  | .list l, h => by
    simp only [PyData.canLay0]
    exact lay_bdL l h
  | .tuple l, h => by
    simp only [PyData.canLay0]
    exact lay_bdL l h
  | .dict l, h => by simp [bdD] at h
theorem lay_bdL : ∀ (l : List PyData), bdD.bdL l = true → PyData.canLayAll0 l = true
  | [], _ => by simp [PyData.canLayAll0]
  | d :: r, h => by
    simp only [bdD.bdL, Bool.and_eq_true] at h
    simp only [PyData.canLayAll0, Bool.and_eq_true]
    exact ⟨lay_bd d h.1, lay_bdL r h.2⟩
end
theorem GD.sh {n : Nat} {d : PyData} (h : GD n d) (l : n ≤ 60) : SeqAt.shaped d = true := by
  unfold SeqAt.shaped
  rw [lay_bd d h.b, Bool.true_and]
  refine decide_eq_true ?_
  have := h.h
  omega
theorem eqv_nilD (d : PyData) : PyData.eqv d (.tuple []) = isNilD d := by
  cases d with
  | tuple l => cases l <;> simp [PyData.eqv, PyData.eqvAll, isNilD]
  | _ => simp [PyData.eqv, isNilD]
theorem ty_lst {K : PySem.W.Frag} {H : Hp} {a : Addr} {xs : List V} (h : SqL K H a xs) : TyX K H (.ref a) (.type "list") := by
  rcases h with (h | ⟨o, h⟩) | ⟨o, its, n, h, c, _⟩
  · exact .base (.lst h)
  · exact .base (.frz h)
  · exact .kList h c
/-- of what type the data is -/
theorem dpT {K : PySem.W.Frag} {H : Hp} {v : V} {d : PyData} (h : Dp K H v d) : ∃ t, TyX K H v t ∧ PySem.W.kitOne K t (.type "tuple") = some (isTupD d) ∧ PySem.W.kitOne K t (.type "str") = some (isStrD d) ∧ PySem.W.kitOne K t (.type "bool") = some (isBoolD d) ∧
    PySem.W.kitOne K t (.type "int") = some (isIntD d) := by
  cases h with
  | non => exact ⟨_, .base .non, kit_ty (r := false) (by decide +kernel), kit_ty (r := false) (by decide +kernel), kit_ty (r := false) (by decide +kernel), kit_ty (r := false) (by decide +kernel)⟩
  | bl b => exact ⟨_, .base (.bl b), kit_ty (r := false) (by decide +kernel), kit_ty (r := false) (by decide +kernel), kit_ty (r := true) (by decide +kernel), kit_ty (r := true) (by decide +kernel)⟩
  | int i => exact ⟨_, .base (.int i), kit_ty (r := false) (by decide +kernel), kit_ty (r := false) (by decide +kernel), kit_ty (r := false) (by decide +kernel), kit_ty (r := true) (by decide +kernel)⟩
  | str z => exact ⟨_, .base (.str z), kit_ty (r := false) (by decide +kernel), kit_ty (r := true) (by decide +kernel), kit_ty (r := false) (by decide +kernel), kit_ty (r := false) (by decide +kernel)⟩
  | lst h t => exact ⟨_, ty_lst h, kit_ty (r := false) (by decide +kernel), kit_ty (r := false) (by decide +kernel), kit_ty (r := false) (by decide +kernel), kit_ty (r := false) (by decide +kernel)⟩
  | tup h t => exact ⟨_, ty_tup h, kit_ty (r := true) (by decide +kernel), kit_ty (r := false) (by decide +kernel), kit_ty (r := false) (by decide +kernel), kit_ty (r := false) (by decide +kernel)⟩
theorem nm_ask {K : PySem.W.Frag} {H : Hp} {v : V} {d : PyData} {n : Nat} {Q : VK} {E : XK} (h : Dp K H v d) (b : GD n d) (q : Q (.bl (nameD d)) H) : spName K [v] H Q E := by
  obtain ⟨t, ty, k1, k2, k3, k4⟩ := dpT h
  cases h with
  | str z => exact ⟨_, rfl, .inl ⟨z, rfl, b.strLen, q⟩⟩
  | _ => exact ⟨_, rfl, .inr ⟨⟨t, ty, k2⟩, q⟩⟩
theorem int_ask {K : PySem.W.Frag} {H : Hp} {v : V} {d : PyData} {Q : VK} {E : XK} (h : Dp K H v d) (q : Q (.bl (inD d)) H) : spIsInt K [v] H Q E := by
  obtain ⟨t, ty, k1, k2, k3, k4⟩ := dpT h
  cases h with
  | int i => exact ⟨_, rfl, .inl ⟨i, rfl, q⟩⟩
  | bl b => exact ⟨_, rfl, .inr ⟨⟨t, _, ty, k4, fun _ => k3⟩, q⟩⟩
  | _ => exact ⟨_, rfl, .inr ⟨⟨t, _, ty, k4, fun z => (by cases z)⟩, q⟩⟩
theorem Dp.atD {K : PySem.W.Frag} {H : Hp} {xs : List V} {ds : List PyData} (h : DpAll K H xs ds) {i : Nat} {d : PyData} (hd : ds[i]? = some d) : ∃ v, xs[i]? = some v ∧ Dp K H v d := by
  have l := h.len
  obtain ⟨hi, _⟩ := List.getElem?_eq_some_iff.mp hd
  obtain ⟨v, hv⟩ : ∃ v, xs[i]? = some v := ⟨_, List.getElem?_eq_getElem (by omega)⟩
  obtain ⟨d', e, q⟩ := h.at hv
  rw [hd] at e
  cases e
  exact ⟨v, hv, q⟩
/-- what stands there is no tuple, or a tuple -/
theorem tupCases (d : PyData) : isTupD d = false ∨ ∃ l, d = .tuple l := by
  cases d with
  | tuple l => exact .inr ⟨l, rfl⟩
  | _ => exact .inl rfl
theorem len2D {α : Type} {l : List α} (h : l.length = 2) : ∃ a b, l = [a, b] := by
  match l, h with
  | [a, b], _ => exact ⟨_, _, rfl⟩
theorem len3D {α : Type} {l : List α} (h : l.length = 3) : ∃ a b c, l = [a, b, c] := by
  match l, h with
  | [a, b, c], _ => exact ⟨_, _, _, rfl⟩
theorem len4D {α : Type} {l : List α} (h : l.length = 4) : ∃ a b c d, l = [a, b, c, d] := by
  match l, h with
  | [a, b, c, d], _ => exact ⟨_, _, _, _, rfl⟩
theorem pair_ex {d : PyData} (h : pairD d = true) : ∃ a b, d = .tuple [a, b] := by
  cases d with
  | tuple l =>
    obtain ⟨a, b, rfl⟩ := len2D (of_decide_eq_true h)
    exact ⟨a, b, rfl⟩
  | _ => cases h
theorem pair_no {d : PyData} (h : pairD d = false) : (∀ a b, d ≠ .tuple [a, b]) := fun a b e => by rw [e] at h; cases h

/-! ### k08: the form of a tree, both answers: is_pair .. is_call -/
theorem tNil_go {σ : L2.St} {H : Hp} {k : List V → Hp → Prop} (h : k [] H) : tNil σ H k := h
def spPairB (K : PySem.W.Frag) : Sp := fun vs H Q _ => ∃ (v : V) (d : PyData), vs = [v] ∧ Dp K H v d ∧ Q (.bl (pairD d)) H
def spRowB (K : PySem.W.Frag) : Sp := fun vs H Q _ => ∃ (v : V) (d : PyData), vs = [v] ∧ Dp K H v d ∧ GD 60 d ∧ ∀ H', Same H H' → Q (.bl (rowD d)) H'
def spExpB (K : PySem.W.Frag) : Sp := fun vs H Q _ => ∃ (v : V) (d : PyData), vs = [v] ∧ Dp K H v d ∧ GD 60 d ∧ ∀ H', Same H H' → Q (.bl (exprD d)) H'
def spArgB (K : PySem.W.Frag) : Sp := fun vs H Q _ => ∃ (v : V) (d : PyData), vs = [v] ∧ Dp K H v d ∧ GD 60 d ∧ ∀ H', Same H H' → Q (.bl (argB d)) H'
def spCalB (K : PySem.W.Frag) : Sp := fun vs H Q _ => ∃ (v : V) (d : PyData), vs = [v] ∧ Dp K H v d ∧ GD 60 d ∧ ∀ H', Same H H' → Q (.bl (callB d)) H'
theorem all_map_id {α : Type} {l : List α} {f : α → Bool} : (l.map f).all id = l.all f := by rw [List.all_map]; rfl
theorem all_no {α : Type} {l : List α} {f : α → Bool} {x : α} (hx : x ∈ l) (h : f x = false) : l.all f = false := Bool.eq_false_iff.mpr fun z => by
  have := List.all_eq_true.mp z x hx
  rw [h] at this
  cases this
theorem expr_no {c : Int} {ts : List PyData} {x : PyData} (hx : x ∈ ts) (h : termD x = false) : exprD (.tuple [.int c, .tuple ts]) = false := by
  show (ts.all termD && ascL (ts.map nmOf)) = false
  rw [all_no hx h]
  rfl
theorem name_str {d : PyData} (h : nameD d = true) : ∃ z, d = .str z ∧ isName z = true := by
  cases d with
  | str z => exact ⟨z, rfl, h⟩
  | _ => cases h
theorem int_int {d : PyData} (h : inD d = true) : ∃ z, d = .int z := by
  cases d with
  | int z => exact ⟨z, rfl⟩
  | _ => cases h
theorem term_ex {d : PyData} (h : termD d = true) : ∃ z m, d = .tuple [.str z, .int m] ∧ isName z = true ∧ m ≠ 0 := by
  unfold termD at h
  split at h
  · rename_i z m
    simp only [Bool.and_eq_true, Bool.not_eq_true', decide_eq_false_iff_not] at h
    exact ⟨z, m, rfl, h.1, h.2⟩
  · cases h
theorem term_no1 {x y : PyData} (h : nameD x = false) : termD (.tuple [x, y]) = false := by
  cases x with
  | str z =>
    cases y with
    | int m => show (isName z && _) = false; rw [show isName z = false from h]; rfl
    | _ => rfl
  | _ => rfl
theorem term_no2 {x y : PyData} (h : inD y = false) : termD (.tuple [x, y]) = false := by
  cases y with
  | int m => cases h
  | _ => cases x <;> rfl
def ltsL : List Str → List Bool
  | x :: y :: r => decide (x.cps.toList < y.cps.toList) :: ltsL (y :: r)
  | _ => []
theorem lts_all : ∀ l : List Str, (ltsL l).all id = ascL l
  | [] => rfl
  | [x] => rfl
  | x :: y :: r => by
    show (decide _ && (ltsL (y :: r)).all id) = (decide _ && ascL (y :: r))
    rw [lts_all (y :: r)]
theorem lts_len : ∀ l : List Str, (ltsL l).length = l.length - 1
  | [] => rfl
  | [x] => rfl
  | x :: y :: r => by
    show (ltsL (y :: r)).length + 1 = _
    rw [lts_len (y :: r)]
    show r.length + 1 - 1 + 1 = r.length + 1 + 1 - 1
    omega
theorem lts_at : ∀ {l : List Str} {i : Nat} {x y : Str}, l[i]? = some x → l[i + 1]? = some y → (ltsL l)[i]? = some (decide (x.cps.toList < y.cps.toList))
  | a :: b :: r, 0, x, y, h1, h2 => by
    simp only [List.getElem?_cons_zero, Option.some.injEq, Nat.zero_add, List.getElem?_cons_succ] at h1 h2
    subst h1 h2
    rfl
  | a :: b :: r, i + 1, x, y, h1, h2 => by
    show (ltsL (b :: r))[i]? = _
    exact lts_at (l := b :: r) (by simpa using h1) (by simpa using h2)
  | [a], i, x, y, h1, h2 => by simp at h2
section
variable {P : Program} {w : World} {K : PySem.W.Frag} {mg : Str → Option Value} {base : Heap}
theorem ok_PairB {f : Addr} {fd : FuncData} (F : Fun K "is_pair" "is_pair" sIsPair f fd) (T : TxShape mg) : FnOk P w K mg base CX0 1 f fd PIsPair (spPairB K) := by
  refine F.ok scIsPair (fun vs H Q E h => ?_) (fun cdv A outer s H vs Q E hr h => ?_)
  · obtain ⟨a, xs, rfl, _⟩ := h
    rfl
  · obtain ⟨v, d, rfl, hv, k⟩ := h
    refine ⟨_, (pss_one (ps_ret (pe_and (pe_callB call_isi (by rfl) T.n_isinstance bb_isinstance (pa_cons (pv 0) (pa_cons (pe_bltn (v := .ty "tuple") (by rfl) T.n_tuple bb_tuple rfl) pa_nil))) (pe_one (pe_cmpR op_eq (pe_callB call_len_seq (by rfl) T.n_len bb_len (pa_cons (pv 0) pa_nil)) pe_int (nomark _)))))), ?_⟩
    obtain ⟨t, ty, k1, _⟩ := dpT hv
    refine ⟨_, rfl, _, _, _, _, _, rfl, .ty _, ty, k1, _, rfl, ?_⟩
    rcases tupCases d with e | ⟨l, rfl⟩
    · rw [e]
      have : pairD d = false := by cases d <;> first | rfl | cases e
      rw [this] at k
      exact iteE rfl k
    · obtain ⟨a, xs, rfl, hq, hd⟩ := hv.tupInv
      refine iteS rfl ⟨_, rfl, a, xs, rfl, .inr hq, rfl, ?_⟩
      have e : decide (V.int ((xs.length : Nat) : Int) = V.int 2) = pairD (.tuple l) := by
        rw [hd.len]
        exact decide_eq_decide.mpr ⟨fun h => by injection h with h; omega, fun h => by rw [h]; rfl⟩
      rw [e]
      exact k
theorem ok_RowB {f : Addr} {fd : FuncData} (F : Fun K "is_row_of_names" "is_row_of_names" sRowN f fd) (T : TxShape mg) (GN : Has P w K mg base CX0 1 "is_name" PIsName (spName K)) : FnOk P w K mg base CX0 2 f fd PRowN (spRowB K) := by
  refine F.ok scRowN (fun vs H Q E h => ?_) (fun cdv A outer s H vs Q E hr h => ?_)
  · obtain ⟨v, ns, rfl, _⟩ := h
    rfl
  · obtain ⟨v, d, rfl, hv, gd, k⟩ := h
    refine ⟨_, (pss_one (ps_ret (pe_and (pe_callB call_isi (by rfl) T.n_isinstance bb_isinstance (pa_cons (pv 0) (pa_cons (pe_bltn (v := .ty "tuple") (by rfl) T.n_tuple bb_tuple rfl) pa_nil))) (pe_one (pe_callB (cr_all rfl) (by rfl) T.n_all bb_all (pa_cons (pe_lc (own := [("one", 1)]) (g := gName 1) (tt := tYes) rfl scRowN.nd (pi_tup (pv 0)) (blkOk_by (own := [("one", 1)]) (N := NRowN) (sc := (defScope sRowN)) (by decide +kernel)) (fun _ _ _ _ _ => (pg_name (i := 1) scRowN.nd rfl (Or.inl rfl))) (fun _ _ _ _ _ => pts_nil) (fun _ _ _ _ _ => (pe_callH GN hr rfl pass0 (pa_cons (pv 1) pa_nil)))) pa_nil)))))), ?_⟩
    obtain ⟨t, ty, k1, _⟩ := dpT hv
    refine ⟨_, rfl, _, _, _, _, _, rfl, .ty _, ty, k1, _, rfl, ?_⟩
    rcases tupCases d with e | ⟨l, rfl⟩
    · rw [e]
      have : rowD d = false := by cases d <;> first | rfl | cases e
      rw [this] at k
      exact iteE rfl (k _ (Same.refl _))
    obtain ⟨a, xs, rfl, hq, hd⟩ := hv.tupInv
    have ll := gd.len
    have lx := hd.len
    refine iteS rfl ⟨_, rfl, a, rfl, ⟨_, hq⟩, fun D hD => ?_⟩
    refine lc_tup (K := K) (a := a) (xs := xs) (fun i H' => Same H H' ∧ H' D = some (.lst (((l.take i).map nameD).map V.bl))) ⟨same_new hD, upd_same⟩ (fun i H' _ h' => SqT.same h'.1 hq) ?_ ?_
    · rintro i v H1 hx ⟨s1, e1⟩
      obtain ⟨z, hz, hzd⟩ := hd.at hx
      have hi : i < xs.length := (List.getElem?_eq_some_iff.mp hx).1
      refine ⟨rfl, _, rfl, tNil_go ?_⟩
      show spName K [_] _ _ _
      refine nm_ask (hzd.same s1) (gd.mem (List.mem_of_getElem? hz)) ?_
      refine ⟨_, e1, smallX (by rw [List.length_map, List.length_map, List.length_take]; omega), fun c o e => ?_, ?_⟩
      · rw [upd_ne (ne_of_none e hD)]
        exact s1 _ _ e
      · rw [upd_same, take_snoc hz, List.map_append, List.map_append]
        rfl
    · rintro H1 ⟨s1, e1⟩
      rw [lx, List.take_length] at e1
      refine ⟨D, _, rfl, SqL.of e1, ?_⟩
      rw [all_map_id]
      exact k _ s1
theorem ok_ExpB {f : Addr} {fd : FuncData} (F : Fun K "is_expression" "is_expression" sIsExp f fd) (T : TxShape mg) (GN : Has P w K mg base CX0 1 "is_name" PIsName (spName K)) (GI : Has P w K mg base CX0 1 "is_integer" PIsInt (spIsInt K)) (GP : Has P w K mg base CX0 1 "is_pair" PIsPair (spPairB K)) : FnOk P w K mg base CX0 2 f fd PIsExp (spExpB K) := by
  refine F.ok scIsExp (fun vs H Q E h => ?_) (fun cdv A outer s H vs Q E hr h => ?_)
  · obtain ⟨v, e, rfl, _⟩ := h
    rfl
  · obtain ⟨v, d, rfl, hv, gd, k⟩ := h
    refine ⟨_, (pss_cons (ps_if (PW.pt (pw_or (pt_not (pt_val (pe_callH GP hr rfl pass0 (pa_cons (pv 0) pa_nil)))) (pw_or (pt_not (pt_val (pe_callH GI hr rfl pass0 (pa_cons (pe_ix (r := rIxT K) ix_tup (pv 0) pe_int (fun _ _ => rfl)) pa_nil)))) (pw_or1 (pt_not (pt_val (pe_callB call_isi (by rfl) T.n_isinstance bb_isinstance (pa_cons (pe_ix (r := rIxT K) ix_tup (pv 0) pe_int (fun _ _ => rfl)) (pa_cons (pe_bltn (v := .ty "tuple") (by rfl) T.n_tuple bb_tuple rfl) pa_nil)))))))))
  (pss_one (ps_ret pe_bl))
  pss_nil)
  (pss_cons (ps_for PassesOwn.never rfl (pi_tup (pe_ix (r := rIxT K) ix_tup (pv 0) pe_int (fun _ _ => rfl))) (pg_name (i := 1) scIsExp.nd rfl (Or.inl rfl))
  (pss_one (ps_if (PW.pt (pw_or (pt_not (pt_val (pe_callH GP hr rfl pass0 (pa_cons (pv 1) pa_nil)))) (pw_or (pt_not (pt_val (pe_callH GN hr rfl pass0 (pa_cons (pe_ix (r := rIxT K) ix_tup (pv 1) pe_int (fun _ _ => rfl)) pa_nil)))) (pw_or (pt_not (pt_val (pe_callH GI hr rfl pass0 (pa_cons (pe_ix (r := rIxT K) ix_tup (pv 1) pe_int (fun _ _ => rfl)) pa_nil)))) (pw_or1 (pt_cmpR op_eq (pe_ix (r := rIxT K) ix_tup (pv 1) pe_int (fun _ _ => rfl)) pe_int (nomark _)))))))
  (pss_one (ps_ret pe_bl))
  pss_nil)))
  (pss_cons (ps_setLc (i := 2) (own := [("name", 3), ("factor", 4)]) (g := gTup K 2 (gCons (gName 3) (gCons (gName 4) gNil))) (tt := tYes) rfl scIsExp.nd rfl rfl (sw_true rfl rfl rfl (by decide +kernel)) (pi_tup (pe_ix (r := rIxT K) ix_tup (pv 0) pe_int (fun _ _ => rfl))) (blkOk_by (own := [("name", 3), ("factor", 4)]) (N := NIsExp) (sc := (defScope sIsExp)) (by decide +kernel)) (fun _ _ _ _ _ => (pg_tup (by rfl) (pgs_cons (pg_name (i := 3) scIsExp.nd rfl (Or.inl rfl)) (pgs_cons (pg_name (i := 4) scIsExp.nd rfl (Or.inl rfl)) pgs_nil)))) (fun _ _ _ _ _ => pts_nil) (fun _ _ _ _ _ => (pv 3)))
  (pss_one (ps_ret (pe_callB (cr_all rfl) (by rfl) T.n_all bb_all (pa_cons (pe_lc (own := [("one", 5), ("other", 6)]) (g := gTup K 2 (gCons (gName 5) (gCons (gName 6) gNil))) (tt := tYes) rfl scIsExp.nd (pi_zip (by rfl) T.n_zip (pa_cons (pv 2) (pa_cons (pe_slice sl_list (pv 2) (po_some pe_int) po_none) pa_nil))) (blkOk_by (own := [("one", 5), ("other", 6)]) (N := NIsExp) (sc := (defScope sIsExp)) (by decide +kernel)) (fun _ _ _ _ _ => (pg_tup (by rfl) (pgs_cons (pg_name (i := 5) scIsExp.nd rfl (Or.inl rfl)) (pgs_cons (pg_name (i := 6) scIsExp.nd rfl (Or.inl rfl)) pgs_nil)))) (fun _ _ _ _ _ => pts_nil) (fun _ _ _ _ _ => (pe_cmpR op_lt_str (pv 5) (pv 6) (nomark _)))) pa_nil))))))), ?_⟩
    refine ⟨_, rfl, v, d, rfl, hv, _, rfl, ?_⟩
    cases hp : pairD d with
    | false =>
      have : exprD d = false := by
        unfold exprD
        split
        · cases hp
        · rfl
      rw [this] at k
      exact iteS rfl (iteS rfl (k _ (Same.refl _)))
    | true =>
    obtain ⟨x, y, rfl⟩ := pair_ex hp
    obtain ⟨a, xs, rfl, hq, hd⟩ := hv.tupInv
    obtain ⟨vx, vy, rfl, hx, hy⟩ := hd.two
    have gx : GD 59 x := gd.mem List.mem_cons_self
    have gy : GD 59 y := gd.mem (by simp)
    refine iteE rfl ?_
    refine ⟨_, rfl, a, _, _, _, rfl, rfl, hq, rfl, tNil_go ?_⟩
    show spIsInt K [_] _ _ _
    refine int_ask hx ⟨_, rfl, ?_⟩
    cases hix : inD x with
    | false =>
      have : exprD (.tuple [x, y]) = false := by cases x <;> first | rfl | cases hix
      rw [this] at k
      exact iteS rfl (iteS rfl (k _ (Same.refl _)))
    | true =>
    obtain ⟨c, rfl⟩ := int_int hix
    refine iteE rfl ?_
    obtain ⟨t, ty, k1, _⟩ := dpT hy
    refine ⟨_, rfl, a, _, _, _, rfl, rfl, hq, rfl, _, _, _, _, _, rfl, .ty _, ty, k1, _, rfl, ?_⟩
    rcases tupCases y with e | ⟨ts, rfl⟩
    · have : exprD (.tuple [.int c, y]) = false := by cases y <;> first | rfl | cases e
      rw [this] at k
      rw [e]
      exact iteS rfl (k _ (Same.refl _))
    refine iteE rfl ?_
    obtain ⟨b, ys, rfl, hb, hyd⟩ := hy.tupInv
    have lt := gy.len
    have ly := hyd.len
    refine ⟨_, rfl, a, _, _, _, rfl, rfl, hq, rfl, b, rfl, ⟨_, hb⟩, ?_⟩
    refine for_tup (K := K) (a := b) (xs := ys) (fun i σ H' => H' = H ∧ (∃ x2 : Option V, σ = [some (.ref a), x2, none, none, none, none, none]) ∧ ∀ t ∈ ts.take i, termD t = true) ⟨rfl, ⟨none, rfl⟩, fun _ z => by cases z⟩ (fun i σ H' _ h' => by rw [h'.1]; exact hb) ?_ ?_
    · rintro i z σ H1 hz ⟨rfl, ⟨x2, rfl⟩, al⟩
      obtain ⟨t, ht, htd⟩ := hyd.at hz
      have mt := List.mem_of_getElem? ht
      have gt : GD 58 t := gy.mem mt
      have no : termD t = false → Q (.bl false) H1 := fun e => by
        have := k _ (Same.refl _)
        rwa [expr_no mt e] at this
      refine ⟨_, rfl, z, t, rfl, htd, _, rfl, ?_⟩
      cases hpt : pairD t with
      | false => exact iteS rfl (iteS rfl (no (by
          unfold termD
          split
          · cases hpt
          · rfl)))
      | true =>
      obtain ⟨p, q, rfl⟩ := pair_ex hpt
      obtain ⟨e, zs, rfl, he, hed⟩ := htd.tupInv
      obtain ⟨vp, vq, rfl, dp, dq⟩ := hed.two
      have gp : GD 57 p := gt.mem List.mem_cons_self
      refine iteE rfl ?_
      refine ⟨_, rfl, e, _, _, _, rfl, rfl, he, rfl, tNil_go ?_⟩
      show spName K [_] _ _ _
      refine nm_ask dp gp ⟨_, rfl, ?_⟩
      cases hnp : nameD p with
      | false => exact iteS rfl (iteS rfl (no (term_no1 hnp)))
      | true =>
      obtain ⟨zn, rfl, hzn⟩ := name_str hnp
      refine iteE rfl ?_
      refine ⟨_, rfl, e, _, _, _, rfl, rfl, he, rfl, tNil_go ?_⟩
      show spIsInt K [_] _ _ _
      refine int_ask dq ⟨_, rfl, ?_⟩
      cases hiq : inD q with
      | false => exact iteS rfl (iteS rfl (no (term_no2 hiq)))
      | true =>
      obtain ⟨m, rfl⟩ := int_int hiq
      rw [dq.intInv] at he
      refine iteE rfl ?_
      refine ⟨_, rfl, e, _, _, _, rfl, rfl, he, rfl, rfl, _, rfl, ite2 (fun hc => ?_) (fun hc => ?_)⟩
      · have hm : m = 0 := V.int.inj (of_decide_eq_true hc)
        exact no (by show (isName zn && !decide (m = 0)) = false; rw [hm]; simp)
      · have hm : m ≠ 0 := fun z => hc (decide_eq_true (by rw [z]))
        refine ⟨rfl, ⟨_, rfl⟩, fun u hu => ?_⟩
        rw [take_snoc ht] at hu
        rcases List.mem_append.mp hu with z | z
        · exact al u z
        · rw [List.mem_singleton.mp z]
          show (isName zn && !decide (m = 0)) = true
          rw [hzn, decide_eq_false hm]
          rfl
    · rintro σ H1 ⟨rfl, ⟨x2, rfl⟩, al⟩
      rw [ly, List.take_length] at al
      have ea : exprD (.tuple [.int c, .tuple ts]) = ascL (ts.map nmOf) := by
        show (ts.all termD && ascL (ts.map nmOf)) = _
        rw [List.all_eq_true.mpr al]
        rfl
      rw [ea] at k
      refine ⟨_, rfl, a, _, _, _, rfl, rfl, hq, rfl, b, rfl, ⟨_, hb⟩, fun D hD => ?_⟩
      refine lc_tup (K := K) (a := b) (xs := ys) (fun i H' => Same H1 H' ∧ H' D = some (.lst (((ts.take i).map nmOf).map V.str))) ⟨same_new hD, upd_same⟩ (fun i H' _ h' => SqT.same h'.1 hb) ?_ ?_
      · rintro i z H2 hz ⟨s2, eD⟩
        obtain ⟨t, ht, htd⟩ := hyd.at hz
        obtain ⟨zn, m, rfl, _, _⟩ := term_ex (al t (List.mem_of_getElem? ht))
        obtain ⟨e, zs, rfl, he, hed⟩ := htd.tupInv
        obtain ⟨u, w, rfl, hu, hw⟩ := hed.two
        rw [hu.strInv, hw.intInv] at he
        have hi : i < ys.length := (List.getElem?_eq_some_iff.mp hz).1
        refine ⟨e, _, rfl, SqT.same s2 he, rfl, _, _, rfl, _, _, rfl, rfl, rfl, _, rfl, _, eD, smallX (by rw [List.length_map, List.length_map, List.length_take]; omega), fun c o z => ?_, ?_⟩
        · rw [upd_ne (ne_of_none z hD)]
          exact s2 _ _ z
        · rw [upd_same, take_snoc ht, List.map_append, List.map_append]
          rfl
      · rintro H2 ⟨s2, eD⟩
        rw [ly, List.take_length] at eD
        have lm : (ts.map nmOf).length = ts.length := List.length_map nmOf
        generalize ts.map nmOf = l at *
        have lz : ((l.drop 1).map V.str).length = l.length - 1 := by rw [List.length_map, List.length_drop]
        refine ⟨_, rfl, _, rfl, _, rfl, D, _, rfl, SqL.of eD, fun q hq2 => ?_⟩
        rw [cut_drop1, ← List.map_drop]
        have s3 := same_new (o := .lst ((l.drop 1).map V.str)) hq2
        refine ⟨D, q, _, _, rfl, SqL.of (s3 _ _ eD), SqL.of upd_same, fun M hM => ?_⟩
        refine lc_it (walk_zip (K := K) (n := l.length - 1) (by rw [lz, List.length_map]; omega)) (fun i H' => Same (upd H2 q (.lst ((l.drop 1).map V.str))) H' ∧ H' M = some (.lst (((ltsL l).take i).map V.bl))) ⟨same_new hM, upd_same⟩ (fun i H' _ h' => ⟨SqL.of (h'.1 _ _ (s3 _ _ eD)), SqL.of (h'.1 _ _ upd_same)⟩) ?_ ?_
        · rintro i z H4 H5 hi ⟨s4, eM⟩ ⟨T, x, y, rfl, hT, rfl, gx, gy⟩
          obtain ⟨t1, ht1⟩ : ∃ t, l[i]? = some t := ⟨_, List.getElem?_eq_getElem (by omega)⟩
          obtain ⟨t2, ht2⟩ : ∃ t, l[i + 1]? = some t := ⟨_, List.getElem?_eq_getElem (by omega)⟩
          simp only at gx gy
          rw [List.getElem?_map, ht1] at gx
          rw [List.getElem?_map, List.getElem?_drop, Nat.add_comm 1 i, ht2] at gy
          simp only [Option.map_some, Option.some.injEq] at gx gy
          subst gx gy
          refine ⟨T, _, rfl, SqT.of upd_same, rfl, _, _, rfl, _, _, rfl, rfl, rfl, _, rfl, _, rfl, _, _, rfl, rfl, ?_⟩
          have s5 := same_new (o := .tup [V.str t1, V.str t2]) hT
          refine ⟨_, s5 _ _ eM, smallX (by rw [List.length_map, List.length_take]; omega), fun c o z => ?_, ?_⟩
          · rw [upd_ne (ne_of_none z hM)]
            exact s5 _ _ (s4 _ _ z)
          · rw [upd_same, take_snoc (lts_at ht1 ht2), List.map_append]
            rfl
        · rintro H4 ⟨s4, eM⟩
          rw [show (ltsL l).take (l.length - 1) = ltsL l from List.take_of_length_le (by rw [lts_len]; exact Nat.le_refl _)] at eM
          refine ⟨M, _, rfl, SqL.of eM, ?_⟩
          rw [lts_all]
          exact k _ ((s2.trans s3).trans s4)
theorem ok_ArgB {f : Addr} {fd : FuncData} (F : Fun K "is_arg" "is_arg" sIsArg f fd) (T : TxShape mg) (GN : Has P w K mg base CX0 1 "is_name" PIsName (spName K)) (GE : Has P w K mg base CX0 2 "is_expression" PIsExp (spExpB K)) (GP : Has P w K mg base CX0 1 "is_pair" PIsPair (spPairB K)) : FnOk P w K mg base CX0 3 f fd PIsArg (spArgB K) := by
  refine F.ok scIsArg (fun vs H Q E h => ?_) (fun cdv A outer s H vs Q E hr h => ?_)
  · obtain ⟨v, e, rfl, _⟩ := h
    rfl
  · obtain ⟨v, d, rfl, hv, gd, k⟩ := h
    have hr1 := hr.mono (j := 1) (by decide)
    refine ⟨_, (pss_cons (ps_if (PW.pt (pw_or (pt_not (pt_val (pe_callH GP hr1 rfl pass0 (pa_cons (pv 0) pa_nil)))) (pw_or1 (pt_not (pt_val (pe_callB call_isi (by rfl) T.n_isinstance bb_isinstance (pa_cons (pe_ix (r := rIxT K) ix_tup (pv 0) pe_int (fun _ _ => rfl)) (pa_cons (pe_bltn (v := .ty "str") (by rfl) T.n_str bb_str rfl) pa_nil))))))))
  (pss_one (ps_ret pe_bl))
  pss_nil)
  (pss_cons (ps_if (pt_cmpR op_eq (pe_ix (r := rIxT K) ix_tup (pv 0) pe_int (fun _ _ => rfl)) pe_str (nomark _))
  (pss_one (ps_ret (pe_callH GN hr1 rfl pass0 (pa_cons (pe_ix (r := rIxT K) ix_tup (pv 0) pe_int (fun _ _ => rfl)) pa_nil))))
  pss_nil)
  (pss_one (ps_ret (pe_and (pe_cmpR op_eq (pe_ix (r := rIxT K) ix_tup (pv 0) pe_int (fun _ _ => rfl)) pe_str (nomark _)) (pe_one (pe_callH GE hr rfl pass0 (pa_cons (pe_ix (r := rIxT K) ix_tup (pv 0) pe_int (fun _ _ => rfl)) pa_nil)))))))), ?_⟩
    refine ⟨_, rfl, v, d, rfl, hv, _, rfl, ?_⟩
    cases hp : pairD d with
    | false =>
      have : argB d = false := by
        unfold argB
        split
        · cases hp
        · rfl
      rw [this] at k
      exact iteS rfl (iteS rfl (k _ (Same.refl _)))
    | true =>
    obtain ⟨x, y, rfl⟩ := pair_ex hp
    obtain ⟨a, xs, rfl, hq, hd⟩ := hv.tupInv
    obtain ⟨vx, vy, rfl, hx, hy⟩ := hd.two
    have gx : GD 59 x := gd.mem List.mem_cons_self
    have gy : GD 59 y := gd.mem (by simp)
    refine iteE rfl ?_
    obtain ⟨t, ty, _, k2, _⟩ := dpT hx
    refine ⟨_, rfl, a, _, _, _, rfl, rfl, hq, rfl, _, _, _, _, _, rfl, .ty _, ty, k2, _, rfl, ?_⟩
    cases hsx : isStrD x with
    | false =>
      have : argB (.tuple [x, y]) = false := by cases x <;> first | rfl | cases hsx
      rw [this] at k
      exact iteS rfl (k _ (Same.refl _))
    | true =>
    obtain ⟨z, rfl⟩ : ∃ z, x = .str z := by cases x <;> first | exact ⟨_, rfl⟩ | cases hsx
    rw [hx.strInv] at hq
    refine iteE rfl ?_
    have ea : argB (.tuple [.str z, y]) = if z = "place" then nameD y else (decide (z = "value") && exprD y) := rfl
    rw [ea] at k
    refine ⟨_, rfl, a, _, _, _, rfl, rfl, hq, rfl, rfl, _, rfl, ite2 (fun hc => ?_) (fun hc => ?_)⟩
    · have hz : z = "place" := V.str.inj (of_decide_eq_true hc)
      rw [if_pos hz] at k
      refine ⟨_, rfl, a, _, _, _, rfl, rfl, hq, rfl, tNil_go ?_⟩
      show spName K [_] _ _ _
      exact nm_ask hy gy (k _ (Same.refl _))
    · have hz : z ≠ "place" := fun e => hc (decide_eq_true (by rw [e]))
      rw [if_neg hz] at k
      refine ⟨_, rfl, a, _, _, _, rfl, rfl, hq, rfl, rfl, _, rfl, ite2 (fun hv => ?_) (fun hv => ?_)⟩
      · have hz : z = "value" := V.str.inj (of_decide_eq_true hv)
        rw [decide_eq_true hz, Bool.true_and] at k
        exact ⟨_, rfl, a, _, _, _, rfl, rfl, hq, rfl, _, y, rfl, hy, gy.mono (by decide), k⟩
      · have hz : z ≠ "value" := fun e => hv (decide_eq_true (by rw [e]))
        rw [decide_eq_false hz, Bool.false_and] at k
        exact k _ (Same.refl _)
theorem ok_CalB {f : Addr} {fd : FuncData} (F : Fun K "is_call" "is_call" sIsCal f fd) (T : TxShape mg) (GN : Has P w K mg base CX0 1 "is_name" PIsName (spName K)) (GA : Has P w K mg base CX0 3 "is_arg" PIsArg (spArgB K)) (GP : Has P w K mg base CX0 1 "is_pair" PIsPair (spPairB K)) : FnOk P w K mg base CX0 4 f fd PIsCal (spCalB K) := by
  refine F.ok scIsCal (fun vs H Q E h => ?_) (fun cdv A outer s H vs Q E hr h => ?_)
  · obtain ⟨v, e, rfl, _⟩ := h
    rfl
  · obtain ⟨v, d, rfl, hv, gd, k⟩ := h
    have hr1 := hr.mono (j := 1) (by decide)
    refine ⟨_, (pss_cons (ps_if (PW.pt (pw_or (pt_not (pt_val (pe_callH GP hr1 rfl pass0 (pa_cons (pv 0) pa_nil)))) (pw_or (pt_not (pt_val (pe_callH GN hr1 rfl pass0 (pa_cons (pe_ix (r := rIxT K) ix_tup (pv 0) pe_int (fun _ _ => rfl)) pa_nil)))) (pw_or1 (pt_not (pt_val (pe_callB call_isi (by rfl) T.n_isinstance bb_isinstance (pa_cons (pe_ix (r := rIxT K) ix_tup (pv 0) pe_int (fun _ _ => rfl)) (pa_cons (pe_bltn (v := .ty "tuple") (by rfl) T.n_tuple bb_tuple rfl) pa_nil)))))))))
  (pss_one (ps_ret pe_bl))
  pss_nil)
  (pss_one (ps_ret (pe_callB (cr_all rfl) (by rfl) T.n_all bb_all (pa_cons (pe_lc (own := [("one", 1)]) (g := gName 1) (tt := tYes) rfl scIsCal.nd (pi_tup (pe_ix (r := rIxT K) ix_tup (pv 0) pe_int (fun _ _ => rfl))) (blkOk_by (own := [("one", 1)]) (N := NIsCal) (sc := (defScope sIsCal)) (by decide +kernel)) (fun _ _ _ _ _ => (pg_name (i := 1) scIsCal.nd rfl (Or.inl rfl))) (fun _ _ _ _ _ => pts_nil) (fun _ _ _ _ _ => (pe_callH GA hr rfl pass0 (pa_cons (pv 1) pa_nil)))) pa_nil))))), ?_⟩
    refine ⟨_, rfl, v, d, rfl, hv, _, rfl, ?_⟩
    cases hp : pairD d with
    | false =>
      have : callB d = false := by
        unfold callB
        split
        · cases hp
        · rfl
      rw [this] at k
      exact iteS rfl (iteS rfl (k _ (Same.refl _)))
    | true =>
    obtain ⟨x, y, rfl⟩ := pair_ex hp
    obtain ⟨a, xs, rfl, hq, hd⟩ := hv.tupInv
    obtain ⟨vx, vy, rfl, hx, hy⟩ := hd.two
    have gx : GD 59 x := gd.mem List.mem_cons_self
    have gy : GD 59 y := gd.mem (by simp)
    refine iteE rfl ?_
    refine ⟨_, rfl, a, _, _, _, rfl, rfl, hq, rfl, tNil_go ?_⟩
    show spName K [_] _ _ _
    refine nm_ask hx gx ⟨_, rfl, ?_⟩
    cases hnx : nameD x with
    | false =>
      have : callB (.tuple [x, y]) = false := by
        cases y with
        | tuple as => show (nameD x && as.all argB) = false; rw [hnx]; rfl
        | _ => rfl
      rw [this] at k
      exact iteS rfl (iteS rfl (k _ (Same.refl _)))
    | true =>
    refine iteE rfl ?_
    obtain ⟨t, ty, k1, _⟩ := dpT hy
    refine ⟨_, rfl, a, _, _, _, rfl, rfl, hq, rfl, _, _, _, _, _, rfl, .ty _, ty, k1, _, rfl, ?_⟩
    rcases tupCases y with e | ⟨as, rfl⟩
    · have : callB (.tuple [x, y]) = false := by cases y <;> first | rfl | cases e
      rw [this] at k
      rw [e]
      exact iteS rfl (k _ (Same.refl _))
    refine iteE rfl ?_
    obtain ⟨b, ys, rfl, hb, hyd⟩ := hy.tupInv
    have lt := gy.len
    have ly := hyd.len
    have ec : callB (.tuple [x, .tuple as]) = as.all argB := by show (nameD x && as.all argB) = _; rw [hnx]; rfl
    rw [ec] at k
    refine ⟨_, rfl, a, _, _, _, rfl, rfl, hq, rfl, b, rfl, ⟨_, hb⟩, fun D hD => ?_⟩
    refine lc_tup (K := K) (a := b) (xs := ys) (fun i H' => Same H H' ∧ H' D = some (.lst (((as.take i).map argB).map V.bl))) ⟨same_new hD, upd_same⟩ (fun i H' _ h' => SqT.same h'.1 hb) ?_ ?_
    · rintro i v H1 hz ⟨s1, e1⟩
      obtain ⟨z, hza, hzd⟩ := hyd.at hz
      have hi : i < ys.length := (List.getElem?_eq_some_iff.mp hz).1
      refine ⟨rfl, _, rfl, v, z, rfl, hzd.same s1, (gy.mem (List.mem_of_getElem? hza)).mono (by decide), fun H2 s2 => ?_⟩
      refine ⟨_, s2 _ _ e1, smallX (by rw [List.length_map, List.length_map, List.length_take]; omega), fun c o e => ?_, ?_⟩
      · rw [upd_ne (ne_of_none e hD)]
        exact s2 _ _ (s1 _ _ e)
      · rw [upd_same, take_snoc hza, List.map_append, List.map_append]
        rfl
    · rintro H1 ⟨s1, e1⟩
      rw [ly, List.take_length] at e1
      refine ⟨D, _, rfl, SqL.of e1, ?_⟩
      rw [all_map_id]
      exact k _ s1
end

/-! ### k08: the form of a tree, both answers: is_simple .. is_tree -/
theorem GD.two {n : Nat} {x y : PyData} (hx : GD n x) (hy : GD n y) (hc : ndD x + ndD y + 1 ≤ 20000) : GD (n + 1) (.tuple [x, y]) := by
  refine ⟨?_, ?_, by show 1 + (ndD x + (ndD y + 0)) ≤ 20000; omega⟩
  · simp only [bdD, bdD.bdL, hx.b, hy.b]
    rfl
  · have := hx.h
    have := hy.h
    simp only [PyData.depth, PyData.depthAll]
    omega
theorem dp_non {K : PySem.W.Frag} {H : Hp} {v : V} {d : PyData} (h : Dp K H v d) : decide (v = .non) = isNonD d := by
  cases h <;> first | rfl | exact decide_eq_false fun z => by cases z
def spSimB (K : PySem.W.Frag) : Sp := fun vs H Q _ => ∃ (v : V) (w : Str) (r : List PyData), vs = [v] ∧ Dp K H v (.tuple (.str w :: r)) ∧ GD 60 (.tuple (.str w :: r)) ∧ ∀ H', Same H H' → Q (.bl (simB w r)) H'
def spHndB (K : PySem.W.Frag) (n : Nat) : Sp := fun vs H Q _ => ∃ (v : V) (d : PyData) (j : Nat), vs = [v, .int (j : Int)] ∧ Dp K H v d ∧ GD 60 d ∧ j < n ∧ ∀ H', Same H H' → Q (.bl (hdlB (blkB j) d)) H'
def spBlkB (K : PySem.W.Frag) (n : Nat) : Sp := fun vs H Q _ => ∃ (v : V) (d : PyData) (j : Nat), vs = [v, .int (j : Int)] ∧ Dp K H v d ∧ GD 60 d ∧ j < n ∧ ∀ H', Same H H' → Q (.bl (blkB j d)) H'
def spStaB (K : PySem.W.Frag) (n : Nat) : Sp := fun vs H Q _ => ∃ (v : V) (d : PyData) (j : Nat), vs = [v, .int ((j + 1 : Nat) : Int)] ∧ Dp K H v d ∧ GD 60 d ∧ j < n ∧ ∀ H', Same H H' → Q (.bl (stmB (blkB j) d)) H'
def spParB (K : PySem.W.Frag) : Sp := fun vs H Q _ => ∃ (v : V) (d : PyData), vs = [v] ∧ Dp K H v d ∧ GD 60 d ∧ ∀ H', Same H H' → Q (.bl (parB d)) H'
def spFunB (K : PySem.W.Frag) : Sp := fun vs H Q _ => ∃ (v : V) (d : PyData), vs = [v] ∧ Dp K H v d ∧ GD 60 d ∧ ∀ H', Same H H' → Q (.bl (funB d)) H'
def spTreB (K : PySem.W.Frag) : Sp := fun vs H Q _ => ∃ (v : V) (d : PyData), vs = [v] ∧ Dp K H v d ∧ GD 60 d ∧ ∀ H', Same H H' → Q (.bl (treeB d)) H'
section
variable {P : Program} {w : World} {K : PySem.W.Frag} {mg : Str → Option Value} {base : Heap}
theorem ok_SimB {f : Addr} {fd : FuncData} (F : Fun K "is_simple" "is_simple" sIsSim f fd) (GN : Has P w K mg base CX0 1 "is_name" PIsName (spName K)) (GE : Has P w K mg base CX0 2 "is_expression" PIsExp (spExpB K)) (GR : Has P w K mg base CX0 2 "is_row_of_names" PRowN (spRowB K)) (GC : Has P w K mg base CX0 4 "is_call" PIsCal (spCalB K)) : FnOk P w K mg base CX0 5 f fd PIsSim (spSimB K) := by
  refine F.ok scIsSim (fun vs H Q E h => ?_) (fun cdv A outer s H vs Q E hr h => ?_)
  · obtain ⟨v, _, _, rfl, _⟩ := h
    rfl
  · obtain ⟨v, wd, r, rfl, hv, gd, k⟩ := h
    have hr1 := hr.mono (j := 1) (by decide)
    have hr2 := hr.mono (j := 2) (by decide)
    refine ⟨_, (pss_one (ps_match (pv 0) (pcs_cons scIsSim.nd (pm_seq rfl (pms_cons pm_str (pms_cons (pm_as (i := 1) rfl (Or.inl rfl)) (pms_cons (pm_as (i := 2) rfl (Or.inl rfl)) pms_nil))))
  (pss_one (ps_ret (pe_and (pe_callH GN hr1 rfl pass0 (pa_cons (pv 1) pa_nil)) (pe_one (pe_callH GE hr2 rfl pass0 (pa_cons (pv 2) pa_nil))))))
  (pcs_cons scIsSim.nd (pm_seq rfl (pms_cons pm_str (pms_cons (pm_as (i := 1) rfl (Or.inl rfl)) pms_nil)))
  (pss_one (ps_ret (pe_callH GN hr1 rfl pass0 (pa_cons (pv 1) pa_nil))))
  (pcs_cons scIsSim.nd (pm_seq rfl (pms_cons pm_str (pms_cons (pm_as (i := 1) rfl (Or.inl rfl)) (pms_cons (pm_as (i := 3) rfl (Or.inl rfl)) (pms_cons (pm_as (i := 4) rfl (Or.inl rfl)) pms_nil)))))
  (pss_one (ps_ret (pe_and (pe_or (pe_cmpR op_isN (pv 1) pe_non (nomark _)) (pe_one (pe_callH GN hr1 rfl pass0 (pa_cons (pv 1) pa_nil)))) (pe_one (pe_callH GC hr rfl pass0 (pa_cons (pe_tup (pa_cons (pv 3) (pa_cons (pv 4) pa_nil))) pa_nil))))))
  (pcs_cons scIsSim.nd (pm_seq rfl (pms_cons pm_str (pms_cons (pm_as (i := 5) rfl (Or.inl rfl)) pms_nil)))
  (pss_one (ps_ret (pe_and (pe_cmpR (op_neD hr.units) (pv 5) (pe_tup pa_nil) (nomark _)) (pe_one (pe_callH GR hr2 rfl pass0 (pa_cons (pv 5) pa_nil))))))
  (pcs_cons scIsSim.nd (pm_seq rfl (pms_cons pm_str (pms_cons (pm_as (i := 6) rfl (Or.inl rfl)) pms_nil)))
  (pss_one (ps_ret (pe_callH GN hr1 rfl pass0 (pa_cons (pv 6) pa_nil))))
  (pcs_cons scIsSim.nd (pm_seq rfl (pms_cons pm_str (pms_cons (pm_as (i := 2) rfl (Or.inl rfl)) pms_nil)))
  (pss_one (ps_ret (pe_callH GE hr2 rfl pass0 (pa_cons (pv 2) pa_nil))))
  (pcs_cons scIsSim.nd pm_wild
  (pss_one (ps_ret pe_bl))
  pcs_nil))))))))), ?_⟩
    obtain ⟨a, xs0, rfl, hq, hd0⟩ := hv.tupInv
    obtain ⟨v0, xs, rfl, h0, hd⟩ := hd0.consInv
    rw [h0.strInv] at hq
    have lx := hd.len
    have gm : ∀ x ∈ r, GD 59 x := fun x hx => gd.mem (List.mem_cons_of_mem _ hx)
    refine ⟨_, rfl, ?_⟩
    match r, hd, gm, k, lx with
    | [], hd, gm, k, lx =>
      cases hd.nilInv
      repeat refine case_len hq (Nat.ne_of_beq_eq_false rfl) ?_
      exact k _ (Same.refl _)
    | [x], hd, gm, k, lx =>
      obtain ⟨vx, rfl, hx⟩ := hd.one
      have gx := gm x List.mem_cons_self
      refine case_len hq (Nat.ne_of_beq_eq_false rfl) ?_
      by_cases h1 : wd = "input"
      · subst h1
        refine case_hit hq rfl ⟨_, _, rfl, ?_⟩
        refine ⟨_, rfl, tNil_go ?_⟩
        show spName K [_] _ _ _
        exact nm_ask hx gx (k _ (Same.refl _))
      refine case_word hq rfl h1 ?_
      refine case_len hq (Nat.ne_of_beq_eq_false rfl) ?_
      have e1 : simB wd [x] = if wd = "risk" then (!isNilD x && rowD x) else if wd = "raise" then nameD x else if wd = "return" then exprD x else false := by
        show (if wd = "input" then _ else _) = _
        rw [if_neg h1]
      rw [e1] at k
      by_cases h2 : wd = "risk"
      · subst h2
        rw [if_pos rfl] at k
        refine case_hit hq rfl ⟨_, _, rfl, ?_⟩
        refine ⟨_, rfl, (by show 0 ≤ sizeLine; decide), fun q hq2 => ?_⟩
        have s1 := same_new (o := .tup []) hq2
        refine ⟨_, _, hx.same s1, .tup (SqT.of upd_same) .nil, gx.sh (by decide), rfl, ?_⟩
        rw [eqv_nilD]
        refine ⟨_, rfl, ?_⟩
        cases hn : isNilD x with
        | true =>
          rw [hn] at k
          exact iteE rfl (k _ s1)
        | false =>
          rw [hn] at k
          refine iteS rfl ?_
          exact ⟨_, rfl, _, x, rfl, hx.same s1, gx.mono (by decide), fun H' s' => k _ (s1.trans s')⟩
      refine case_word hq rfl h2 ?_
      rw [if_neg h2] at k
      by_cases h3 : wd = "raise"
      · subst h3
        rw [if_pos rfl] at k
        refine case_hit hq rfl ⟨_, _, rfl, ?_⟩
        refine ⟨_, rfl, tNil_go ?_⟩
        show spName K [_] _ _ _
        exact nm_ask hx gx (k _ (Same.refl _))
      refine case_word hq rfl h3 ?_
      rw [if_neg h3] at k
      by_cases h4 : wd = "return"
      · subst h4
        rw [if_pos rfl] at k
        refine case_hit hq rfl ⟨_, _, rfl, ?_⟩
        exact ⟨_, rfl, _, x, rfl, hx, gx.mono (by decide), k⟩
      refine case_word hq rfl h4 ?_
      rw [if_neg h4] at k
      exact k _ (Same.refl _)
    | [x, y], hd, gm, k, lx =>
      obtain ⟨vx, vy, rfl, hx, hy⟩ := hd.two
      have gx := gm x List.mem_cons_self
      have gy := gm y (by simp)
      by_cases h1 : wd = "set"
      · subst h1
        refine case_hit hq rfl ⟨_, _, rfl, _, _, rfl, ?_⟩
        refine ⟨_, rfl, tNil_go ?_⟩
        show spName K [_] _ _ _
        refine nm_ask hx gx ⟨_, rfl, ?_⟩
        have e1 : simB "set" [x, y] = (nameD x && exprD y) := by
          show (if ("set" : Str) = "set" then (nameD x && exprD y) else false) = _
          rw [if_pos rfl]
        rw [e1] at k
        cases hn : nameD x with
        | false =>
          rw [hn] at k
          exact iteE rfl (k _ (Same.refl _))
        | true =>
          rw [hn] at k
          exact iteS rfl ⟨_, rfl, _, y, rfl, hy, gy.mono (by decide), k⟩
      refine case_word hq rfl h1 ?_
      have e1 : simB wd [x, y] = false := by
        show (if wd = "set" then _ else _) = _
        rw [if_neg h1]
      rw [e1] at k
      repeat refine case_len hq (Nat.ne_of_beq_eq_false rfl) ?_
      exact k _ (Same.refl _)
    | [x, y, z], hd, gm, k, lx =>
      obtain ⟨vx, vy, vz, rfl, hx, hy, hz⟩ := hd.three
      have gx := gm x List.mem_cons_self
      have gy := gm y (by simp)
      have gz := gm z (by simp)
      refine case_len hq (Nat.ne_of_beq_eq_false rfl) ?_
      refine case_len hq (Nat.ne_of_beq_eq_false rfl) ?_
      by_cases h1 : wd = "call"
      · subst h1
        refine case_hit hq rfl ⟨_, _, rfl, _, _, rfl, _, _, rfl, ?_⟩
        have e1 : simB "call" [x, y, z] = ((isNonD x || nameD x) && callB (.tuple [y, z])) := by
          show (if ("call" : Str) = "call" then ((isNonD x || nameD x) && callB (.tuple [y, z])) else false) = _
          rw [if_pos rfl]
        rw [e1] at k
        have dn : ∀ {q : Addr} {H' : Hp}, Same H H' → H' q = some (.tup [vy, vz]) → Dp K H' (.ref q) (.tuple [y, z]) := fun s' e => .tup (SqT.of e) (.cons (hy.same s') (.cons (hz.same s') .nil))
        have g2 : GD 60 (.tuple [y, z]) := gy.two gz (by have h3 : 1 + (1 + (ndD x + (ndD y + (ndD z + 0)))) ≤ 20000 := gd.c; omega)
        refine ⟨_, rfl, rfl, _, rfl, ?_⟩
        rw [dp_non hx]
        cases hn : isNonD x with
        | true =>
          rw [hn] at k
          refine iteS rfl ⟨_, rfl, iteS rfl ?_⟩
          refine ⟨_, rfl, _, rfl, (by show 2 ≤ sizeLine; decide), fun q hq2 => ?_⟩
          have s1 := same_new (o := .tup [vy, vz]) hq2
          exact ⟨_, _, rfl, dn s1 upd_same, g2, fun H' s' => k _ (s1.trans s')⟩
        | false =>
          rw [hn, Bool.false_or] at k
          refine iteE rfl ⟨_, rfl, tNil_go ?_⟩
          show spName K [_] _ _ _
          refine nm_ask hx gx ⟨_, rfl, ?_⟩
          cases hnm : nameD x with
          | false =>
            rw [hnm] at k
            exact iteE rfl (k _ (Same.refl _))
          | true =>
            rw [hnm] at k
            refine iteS rfl ?_
            refine ⟨_, rfl, _, rfl, (by show 2 ≤ sizeLine; decide), fun q hq2 => ?_⟩
            have s1 := same_new (o := .tup [vy, vz]) hq2
            exact ⟨_, _, rfl, dn s1 upd_same, g2, fun H' s' => k _ (s1.trans s')⟩
      refine case_word hq rfl h1 ?_
      have e1 : simB wd [x, y, z] = false := by
        show (if wd = "call" then _ else _) = _
        rw [if_neg h1]
      rw [e1] at k
      repeat refine case_len hq (Nat.ne_of_beq_eq_false rfl) ?_
      exact k _ (Same.refl _)
    | x :: y :: z :: u :: r', hd, gm, k, lx =>
      obtain ⟨_, _, rfl, _, hd⟩ := hd.consInv
      obtain ⟨_, _, rfl, _, hd⟩ := hd.consInv
      obtain ⟨_, _, rfl, _, hd⟩ := hd.consInv
      obtain ⟨_, _, rfl, _, hd⟩ := hd.consInv
      repeat refine case_len hq (Nat.ne_of_beq_eq_false rfl) ?_
      exact k _ (Same.refl _)
theorem ok_HndB {n : Nat} {f : Addr} {fd : FuncData} (F : Fun K "is_handler" "is_handler" sIsHnd f fd) (GP : Has P w K mg base CX0 1 "is_pair" PIsPair (spPairB K)) (GR : Has P w K mg base CX0 2 "is_row_of_names" PRowN (spRowB K)) (GB : Has P w K mg base CX0 (5 + 3 * n) "is_block" PIsBlk (spBlkB K n)) : FnOk P w K mg base CX0 (5 + 3 * n + 1) f fd PIsHnd (spHndB K n) := by
  refine F.ok scIsHnd (fun vs H Q E h => ?_) (fun cdv A outer s H vs Q E hr h => ?_)
  · obtain ⟨v, b, d, rfl, _⟩ := h
    rfl
  · obtain ⟨v, d, j, rfl, hv, gd, hj, k⟩ := h
    have hr1 := hr.mono (j := 1) (by omega)
    have hr2 := hr.mono (j := 2) (by omega)
    refine ⟨_, (pss_one (ps_ret (pe_and (pe_callH GP hr1 rfl pass0 (pa_cons (pv 0) pa_nil)) (pe_and (pe_cmpR (op_neD hr.units) (pe_ix (r := rIxT K) ix_tup (pv 0) pe_int (fun _ _ => rfl)) (pe_tup pa_nil) (nomark _)) (pe_and (pe_callH GR hr2 rfl pass0 (pa_cons (pe_ix (r := rIxT K) ix_tup (pv 0) pe_int (fun _ _ => rfl)) pa_nil)) (pe_one (pe_callH GB hr rfl pass0 (pa_cons (pe_ix (r := rIxT K) ix_tup (pv 0) pe_int (fun _ _ => rfl)) (pa_cons (pv 1) pa_nil))))))))), ?_⟩
    refine ⟨_, rfl, v, d, rfl, hv, _, rfl, ?_⟩
    cases hp : pairD d with
    | false =>
      have : hdlB (blkB j) d = false := by
        unfold hdlB
        split
        · cases hp
        · rfl
      rw [this] at k
      exact iteE rfl (k _ (Same.refl _))
    | true =>
    obtain ⟨x, y, rfl⟩ := pair_ex hp
    obtain ⟨a, xs, rfl, hq, hd⟩ := hv.tupInv
    obtain ⟨vx, vy, rfl, hx, hy⟩ := hd.two
    have gx : GD 59 x := gd.mem List.mem_cons_self
    have gy : GD 59 y := gd.mem (by simp)
    have k : ∀ H', Same H H' → Q (.bl (!isNilD x && (rowD x && blkB j y))) H' := k
    refine iteS rfl ?_
    refine ⟨_, rfl, a, _, _, _, rfl, rfl, hq, rfl, (by show 0 ≤ sizeLine; decide), fun q hq2 => ?_⟩
    have s1 := same_new (o := .tup []) hq2
    refine ⟨_, _, hx.same s1, .tup (SqT.of upd_same) .nil, gx.sh (by decide), rfl, ?_⟩
    rw [eqv_nilD]
    refine ⟨_, rfl, ?_⟩
    cases hn : isNilD x with
    | true =>
      rw [hn] at k
      exact iteE rfl (k _ s1)
    | false =>
    rw [hn] at k
    refine iteS rfl ?_
    refine ⟨_, rfl, a, _, _, _, rfl, rfl, SqT.same s1 hq, rfl, _, x, rfl, hx.same s1, gx.mono (by decide), fun H2 s2 => ⟨_, rfl, ?_⟩⟩
    have s3 := s1.trans s2
    cases hw : rowD x with
    | false =>
      rw [hw] at k
      exact iteE rfl (k _ s3)
    | true =>
    rw [hw] at k
    refine iteS rfl ?_
    exact ⟨_, rfl, a, _, _, _, rfl, rfl, SqT.same s3 hq, rfl, _, rfl, _, y, j, rfl, hy.same s3, gy.mono (by decide), hj, fun H' s' => k _ (s3.trans s')⟩
theorem ok_BlkB {n : Nat} {f : Addr} {fd : FuncData} (F : Fun K "is_block" "is_block" sIsBlk f fd) (T : TxShape mg) (GS : Has P w K mg base CX0 (7 + 3 * n) "is_statement" PIsSta (spStaB K n)) : FnOk P w K mg base CX0 (7 + 3 * n + 1) f fd PIsBlk (spBlkB K (n + 1)) := by
  refine F.ok scIsBlk (fun vs H Q E h => ?_) (fun cdv A outer s H vs Q E hr h => ?_)
  · obtain ⟨v, b, d, rfl, _⟩ := h
    rfl
  · obtain ⟨v, d, j, rfl, hv, gd, hj, k⟩ := h
    refine ⟨_, (pss_one (ps_ret (pe_and (pe_cmpR op_gt (pv 1) pe_int (nomark _)) (pe_and (pe_callB call_isi (by rfl) T.n_isinstance bb_isinstance (pa_cons (pv 0) (pa_cons (pe_bltn (v := .ty "tuple") (by rfl) T.n_tuple bb_tuple rfl) pa_nil))) (pe_one (pe_callB (cr_all rfl) (by rfl) T.n_all bb_all (pa_cons (pe_lc (own := [("one", 2)]) (g := gName 2) (tt := tYes) rfl scIsBlk.nd (pi_tup (pv 0)) (blkOk_by (own := [("one", 2)]) (N := NIsBlk) (sc := (defScope sIsBlk)) (by decide +kernel)) (fun _ _ _ _ _ => (pg_name (i := 2) scIsBlk.nd rfl (Or.inl rfl))) (fun _ _ _ _ _ => pts_nil) (fun _ _ _ _ _ => (pe_callH GS hr rfl pass0 (pa_cons (pv 2) (pa_cons (pv 1) pa_nil))))) pa_nil))))))), ?_⟩
    refine ⟨_, rfl, _, _, rfl, rfl, _, rfl, ?_⟩
    cases j with
    | zero => exact iteE (decide_eq_false (by omega)) (k _ (Same.refl _))
    | succ j =>
    refine iteS (decide_eq_true (by omega)) ?_
    obtain ⟨t, ty, k1, _⟩ := dpT hv
    refine ⟨_, rfl, _, _, _, _, _, rfl, .ty _, ty, k1, _, rfl, ?_⟩
    rcases tupCases d with e | ⟨l, rfl⟩
    · rw [e]
      have : blkB (j + 1) d = false := by cases d <;> first | rfl | cases e
      rw [this] at k
      exact iteE rfl (k _ (Same.refl _))
    obtain ⟨a, xs, rfl, hq, hd⟩ := hv.tupInv
    have ll := gd.len
    have lx := hd.len
    have k : ∀ H', Same H H' → Q (.bl (l.all (stmB (blkB j)))) H' := k
    refine iteS rfl ⟨_, rfl, a, rfl, ⟨_, hq⟩, fun D hD => ?_⟩
    refine lc_tup (K := K) (a := a) (xs := xs) (fun i H' => Same H H' ∧ H' D = some (.lst (((l.take i).map (stmB (blkB j))).map V.bl))) ⟨same_new hD, upd_same⟩ (fun i H' _ h' => SqT.same h'.1 hq) ?_ ?_
    · rintro i v H1 hz ⟨s1, e1⟩
      obtain ⟨z, hza, hzd⟩ := hd.at hz
      have hi : i < xs.length := (List.getElem?_eq_some_iff.mp hz).1
      refine ⟨rfl, _, rfl, _, rfl, v, z, j, rfl, hzd.same s1, (gd.mem (List.mem_of_getElem? hza)).mono (by decide), by omega, fun H2 s2 => ?_⟩
      refine ⟨_, s2 _ _ e1, smallX (by rw [List.length_map, List.length_map, List.length_take]; omega), fun c o e => ?_, ?_⟩
      · rw [upd_ne (ne_of_none e hD)]
        exact s2 _ _ (s1 _ _ e)
      · rw [upd_same, take_snoc hza, List.map_append, List.map_append]
        rfl
    · rintro H1 ⟨s1, e1⟩
      rw [lx, List.take_length] at e1
      refine ⟨D, _, rfl, SqL.of e1, ?_⟩
      rw [all_map_id]
      exact k _ s1
theorem sta_no0 {f : PyData → Bool} {d : PyData} (h : isTupD d = false) : stmB f d = false := by cases d <;> first | rfl | cases h
theorem sta_no1 {f : PyData → Bool} {x : PyData} {r : List PyData} (h : isStrD x = false) : stmB f (.tuple (x :: r)) = false := by
  unfold stmB
  split <;> first | rfl | (rename_i e; cases e; cases h)
theorem ok_StaB {n : Nat} {f : Addr} {fd : FuncData} (F : Fun K "is_statement" "is_statement" sIsSta f fd) (T : TxShape mg) (GM : Has P w K mg base CX0 5 "is_simple" PIsSim (spSimB K)) (GC : Has P w K mg base CX0 4 "is_call" PIsCal (spCalB K)) (GR : Has P w K mg base CX0 2 "is_row_of_names" PRowN (spRowB K)) (GB : Has P w K mg base CX0 (5 + 3 * n) "is_block" PIsBlk (spBlkB K n)) (GH : Has P w K mg base CX0 (6 + 3 * n) "is_handler" PIsHnd (spHndB K n)) : FnOk P w K mg base CX0 (6 + 3 * n + 1) f fd PIsSta (spStaB K n) := by
  refine F.ok scIsSta (fun vs H Q E h => ?_) (fun cdv A outer s H vs Q E hr h => ?_)
  · obtain ⟨v, b, d, rfl, _⟩ := h
    rfl
  · obtain ⟨v, d, j, rfl, hv, gd, hj, k⟩ := h
    have hr2 := hr.mono (j := 2) (by omega)
    have hr4 := hr.mono (j := 4) (by omega)
    have hr5 := hr.mono (j := 5) (by omega)
    have hrb := hr.mono (j := 5 + 3 * n) (by omega)
    refine ⟨_, (pss_cons (ps_if (PW.pt (pw_or (pt_not (pt_val (pe_callB call_isi (by rfl) T.n_isinstance bb_isinstance (pa_cons (pv 0) (pa_cons (pe_bltn (v := .ty "tuple") (by rfl) T.n_tuple bb_tuple rfl) pa_nil))))) (pw_or (pt_cmpR (op_eqE hr.units0) (pv 0) (pe_tup pa_nil) (nomark _)) (pw_or1 (pt_not (pt_val (pe_callB call_isi (by rfl) T.n_isinstance bb_isinstance (pa_cons (pe_ix (r := rIxT K) ix_tup (pv 0) pe_int (fun _ _ => rfl)) (pa_cons (pe_bltn (v := .ty "str") (by rfl) T.n_str bb_str rfl) pa_nil)))))))))
  (pss_one (ps_ret pe_bl))
  pss_nil)
  (pss_one (ps_match (pv 0) (pcs_cons scIsSta.nd (pm_seq rfl (pms_cons pm_str (pms_cons (pm_as (i := 2) rfl (Or.inl rfl)) (pms_cons (pm_as (i := 3) rfl (Or.inl rfl)) pms_nil))))
  (pss_one (ps_ret (pe_and (pe_callH GB hrb rfl pass0 (pa_cons (pv 2) (pa_cons (pe_op op_sub (pv 1) pe_int) pa_nil))) (pe_one (pe_callH GB hrb rfl pass0 (pa_cons (pv 3) (pa_cons (pe_op op_sub (pv 1) pe_int) pa_nil)))))))
  (pcs_cons scIsSta.nd (pm_seq rfl (pms_cons pm_str (pms_cons (pm_as (i := 4) rfl (Or.inl rfl)) pms_nil)))
  (pss_one (ps_ret (pe_callH GB hrb rfl pass0 (pa_cons (pv 4) (pa_cons (pe_op op_sub (pv 1) pe_int) pa_nil)))))
  (pcs_cons scIsSta.nd (pm_seq rfl (pms_cons pm_str (pms_cons (pm_as (i := 4) rfl (Or.inl rfl)) (pms_cons (pm_as (i := 5) rfl (Or.inl rfl)) (pms_cons (pm_as (i := 6) rfl (Or.inl rfl)) pms_nil)))))
  (pss_cons (ps_if (PW.pt (pw_or (pt_not (pt_val (pe_callB call_isi (by rfl) T.n_isinstance bb_isinstance (pa_cons (pv 5) (pa_cons (pe_bltn (v := .ty "tuple") (by rfl) T.n_tuple bb_tuple rfl) pa_nil))))) (pw_or (pt_not (pt_val (pe_callH GB hrb rfl pass0 (pa_cons (pv 4) (pa_cons (pe_op op_sub (pv 1) pe_int) pa_nil))))) (pw_or1 (pt_not (pt_val (pe_callH GB hrb rfl pass0 (pa_cons (pv 6) (pa_cons (pe_op op_sub (pv 1) pe_int) pa_nil)))))))))
  (pss_one (ps_ret pe_bl))
  pss_nil)
  (pss_one (ps_ret (pe_callB (cr_all rfl) (by rfl) T.n_all bb_all (pa_cons (pe_lc (own := [("one", 7)]) (g := gName 7) (tt := tYes) rfl scIsSta.nd (pi_tup (pv 5)) (blkOk_by (own := [("one", 7)]) (N := NIsSta) (sc := (defScope sIsSta)) (by decide +kernel)) (fun _ _ _ _ _ => (pg_name (i := 7) scIsSta.nd rfl (Or.inl rfl))) (fun _ _ _ _ _ => pts_nil) (fun _ _ _ _ _ => (pe_callH GH hr rfl pass0 (pa_cons (pv 7) (pa_cons (pe_op op_sub (pv 1) pe_int) pa_nil))))) pa_nil)))))
  (pcs_cons scIsSta.nd (pm_seq rfl (pms_cons pm_str (pms_cons (pm_as (i := 8) rfl (Or.inl rfl)) (pms_cons (pm_as (i := 4) rfl (Or.inl rfl)) pms_nil))))
  (pss_one (ps_ret (pe_and (pe_cmpR (op_neD hr.units) (pv 8) (pe_tup pa_nil) (nomark _)) (pe_and (pe_callH GR hr2 rfl pass0 (pa_cons (pv 8) pa_nil)) (pe_one (pe_callH GB hrb rfl pass0 (pa_cons (pv 4) (pa_cons (pe_op op_sub (pv 1) pe_int) pa_nil))))))))
  (pcs_cons scIsSta.nd (pm_seq rfl (pms_cons pm_str (pms_cons (pm_as (i := 9) rfl (Or.inl rfl)) (pms_cons (pm_as (i := 10) rfl (Or.inl rfl)) (pms_cons (pm_as (i := 11) rfl (Or.inl rfl)) (pms_cons (pm_as (i := 4) rfl (Or.inl rfl)) pms_nil))))))
  (pss_one (ps_ret (pe_and (pe_callH GC hr4 rfl pass0 (pa_cons (pv 9) pa_nil)) (pe_and (pe_callH GC hr4 rfl pass0 (pa_cons (pv 10) pa_nil)) (pe_and (pe_callH GR hr2 rfl pass0 (pa_cons (pv 11) pa_nil)) (pe_one (pe_callH GB hrb rfl pass0 (pa_cons (pv 4) (pa_cons (pe_op op_sub (pv 1) pe_int) pa_nil)))))))))
  (pcs_cons scIsSta.nd pm_wild
  (pss_one (ps_ret (pe_callH GM hr5 rfl pass0 (pa_cons (pv 0) pa_nil))))
  pcs_nil))))))))), ?_⟩
    obtain ⟨t, ty, k1, _⟩ := dpT hv
    refine ⟨_, rfl, _, _, _, _, _, rfl, .ty _, ty, k1, _, rfl, ?_⟩
    rcases tupCases d with e | ⟨l, rfl⟩
    · rw [sta_no0 e] at k
      rw [e]
      exact iteS rfl (iteS rfl (k _ (Same.refl _)))
    refine iteE rfl ?_
    have hv0 := hv
    obtain ⟨a, xs0, rfl, hq, hd0⟩ := hv.tupInv
    refine ⟨_, rfl, (by show 0 ≤ sizeLine; decide), fun q hq2 => ?_⟩
    have s1 := same_new (o := .tup []) hq2
    refine ⟨a, q, _, rfl, rfl, SqT.same s1 hq, SqT.of upd_same, _, rfl, ?_⟩
    cases l with
    | nil =>
      rw [hd0.nilInv]
      exact iteS rfl (iteS rfl (k _ s1))
    | cons x r =>
    obtain ⟨v0, xs, rfl, h0, hd⟩ := hd0.consInv
    have hv3 := hv0.same s1
    have hq3 := SqT.same s1 hq
    have h03 := h0.same s1
    have hd3 := DpAll.same s1 hd
    have k3 : ∀ H', Same (upd H q (.tup [])) H' → Q (.bl (stmB (blkB j) (.tuple (x :: r)))) H' := fun H' s' => k _ (s1.trans s')
    clear hq hd hv0 hv k h0 hd0
    generalize upd H q (.tup []) = H1 at hq3 h03 hd3 hv3 k3 ⊢
    refine iteE rfl ?_
    obtain ⟨t0, ty0, _, k20, _⟩ := dpT h03
    refine ⟨_, rfl, a, _, _, _, rfl, rfl, hq3, atI_nat (j := 0) rfl, _, _, _, _, _, rfl, .ty _, ty0, k20, _, rfl, ?_⟩
    cases hsx : isStrD x with
    | false =>
      rw [sta_no1 hsx] at k3
      exact iteS rfl (k3 _ (Same.refl _))
    | true =>
    obtain ⟨wd, rfl⟩ : ∃ z, x = .str z := by cases x <;> first | exact ⟨_, rfl⟩ | cases hsx
    rw [h03.strInv] at hq3
    refine iteE rfl ?_
    have lx := hd3.len
    have gm : ∀ x ∈ r, GD 59 x := fun x hx => gd.mem (List.mem_cons_of_mem _ hx)
    have em2 : ∀ x : V, [x, V.int ((((j + 1 : Nat) : Int)) - 1)] = [x, V.int (j : Int)] := fun x => by rw [show (((j + 1 : Nat) : Int)) - 1 = ((j : Nat) : Int) by omega]
    refine ⟨_, rfl, ?_⟩
    match r, hd3, gm, k3, lx, gd, hv3 with
    | [], hd3, gm, k3, lx, gd, hv3 =>
      cases hd3.nilInv
      repeat refine case_len hq3 (Nat.ne_of_beq_eq_false rfl) ?_
      exact ⟨_, rfl, _, wd, [], rfl, hv3, gd, k3⟩
    | [x], hd3, gm, k3, lx, gd, hv3 =>
      obtain ⟨vx, rfl, hx⟩ := hd3.one
      have gx := gm x List.mem_cons_self
      refine case_len hq3 (Nat.ne_of_beq_eq_false rfl) ?_
      have k3 : ∀ H', Same H1 H' → Q (.bl (if wd = "while" then blkB j x else simB wd [x])) H' := k3
      by_cases h1 : wd = "while"
      · subst h1
        rw [if_pos rfl] at k3
        refine case_hit hq3 rfl ⟨_, _, rfl, ?_⟩
        exact ⟨_, rfl, _, rfl, _, _, rfl, rfl, vx, x, j, em2 vx, hx, gx.mono (by decide), hj, k3⟩
      refine case_word hq3 rfl h1 ?_
      rw [if_neg h1] at k3
      repeat refine case_len hq3 (Nat.ne_of_beq_eq_false rfl) ?_
      exact ⟨_, rfl, _, wd, [x], rfl, hv3, gd, k3⟩
    | [x, y], hd3, gm, k3, lx, gd, hv3 =>
      obtain ⟨vx, vy, rfl, hx, hy⟩ := hd3.two
      have gx := gm x List.mem_cons_self
      have gy := gm y (by simp)
      have k3 : ∀ H', Same H1 H' → Q (.bl (if wd = "if" then (blkB j x && blkB j y) else if wd = "undo" then (!isNilD x && (rowD x && blkB j y)) else simB wd [x, y])) H' := k3
      by_cases h1 : wd = "if"
      · subst h1
        rw [if_pos rfl] at k3
        refine case_hit hq3 rfl ⟨_, _, rfl, _, _, rfl, ?_⟩
        refine ⟨_, rfl, _, rfl, _, _, rfl, rfl, vx, x, j, em2 vx, hx, gx.mono (by decide), hj, fun H2 s2 => ⟨_, rfl, ?_⟩⟩
        cases hb : blkB j x with
        | false =>
          rw [hb] at k3
          exact iteE rfl (k3 _ s2)
        | true =>
          rw [hb] at k3
          exact iteS rfl ⟨_, rfl, _, rfl, _, _, rfl, rfl, vy, y, j, em2 vy, hy.same s2, gy.mono (by decide), hj, fun H' s' => k3 _ (s2.trans s')⟩
      refine case_word hq3 rfl h1 ?_
      rw [if_neg h1] at k3
      refine case_len hq3 (Nat.ne_of_beq_eq_false rfl) ?_
      refine case_len hq3 (Nat.ne_of_beq_eq_false rfl) ?_
      by_cases h2 : wd = "undo"
      · subst h2
        rw [if_pos rfl] at k3
        refine case_hit hq3 rfl ⟨_, _, rfl, _, _, rfl, ?_⟩
        refine ⟨_, rfl, (by show 0 ≤ sizeLine; decide), fun q hq2 => ?_⟩
        have s1 := same_new (o := .tup []) hq2
        refine ⟨_, _, hx.same s1, .tup (SqT.of upd_same) .nil, gx.sh (by decide), rfl, ?_⟩
        rw [eqv_nilD]
        refine ⟨_, rfl, ?_⟩
        cases hn : isNilD x with
        | true =>
          rw [hn] at k3
          exact iteE rfl (k3 _ s1)
        | false =>
        rw [hn] at k3
        refine iteS rfl ?_
        refine ⟨_, rfl, _, x, rfl, hx.same s1, gx.mono (by decide), fun H2 s2 => ⟨_, rfl, ?_⟩⟩
        have s3 := s1.trans s2
        cases hw : rowD x with
        | false =>
          rw [hw] at k3
          exact iteE rfl (k3 _ s3)
        | true =>
        rw [hw] at k3
        exact iteS rfl ⟨_, rfl, _, rfl, _, _, rfl, rfl, vy, y, j, em2 vy, hy.same s3, gy.mono (by decide), hj, fun H' s' => k3 _ (s3.trans s')⟩
      refine case_word hq3 rfl h2 ?_
      rw [if_neg h2] at k3
      refine case_len hq3 (Nat.ne_of_beq_eq_false rfl) ?_
      exact ⟨_, rfl, _, wd, [x, y], rfl, hv3, gd, k3⟩
    | [x, y, z], hd3, gm, k3, lx, gd, hv3 =>
      obtain ⟨vx, vy, vz, rfl, hx, hy, hz⟩ := hd3.three
      have gx := gm x List.mem_cons_self
      have gy := gm y (by simp)
      have gz := gm z (by simp)
      have k3 : ∀ H', Same H1 H' → Q (.bl (if wd = "try" then (blkB j x && (blkB j z && hdsB (blkB j) y)) else simB wd [x, y, z])) H' := k3
      refine case_len hq3 (Nat.ne_of_beq_eq_false rfl) ?_
      refine case_len hq3 (Nat.ne_of_beq_eq_false rfl) ?_
      by_cases h1 : wd = "try"
      · subst h1
        rw [if_pos rfl] at k3
        refine case_hit hq3 rfl ⟨_, _, rfl, _, _, rfl, _, _, rfl, ?_⟩
        obtain ⟨t1, ty1, k11, _⟩ := dpT hy
        refine ⟨_, rfl, _, _, _, _, _, rfl, .ty _, ty1, k11, _, rfl, ?_⟩
        rcases tupCases y with e | ⟨hs, rfl⟩
        · have : hdsB (blkB j) y = false := by cases y <;> first | rfl | cases e
          rw [this, Bool.and_false, Bool.and_false] at k3
          rw [e]
          exact iteS rfl (iteS rfl (k3 _ (Same.refl _)))
        refine iteE rfl ?_
        refine ⟨_, rfl, _, rfl, _, _, rfl, rfl, vx, x, j, em2 vx, hx, gx.mono (by decide), hj, fun H2 s2 => ⟨_, rfl, ?_⟩⟩
        cases hb : blkB j x with
        | false =>
          rw [hb] at k3
          exact iteS rfl (iteS rfl (k3 _ s2))
        | true =>
        rw [hb] at k3
        refine iteE rfl ?_
        refine ⟨_, rfl, _, rfl, _, _, rfl, rfl, vz, z, j, em2 vz, hz.same s2, gz.mono (by decide), hj, fun H3 s3 => ⟨_, rfl, ?_⟩⟩
        have s4 := s2.trans s3
        cases hb2 : blkB j z with
        | false =>
          rw [hb2] at k3
          exact iteS rfl (k3 _ s4)
        | true =>
        rw [hb2] at k3
        refine iteE rfl ?_
        have k3 : ∀ H', Same H1 H' → Q (.bl (hs.all (hdlB (blkB j)))) H' := k3
        obtain ⟨b, ys, rfl, hb, hyd⟩ := hy.tupInv
        have lt := gy.len
        have ly := hyd.len
        refine ⟨_, rfl, b, rfl, ⟨_, SqT.same s4 hb⟩, fun D hD => ?_⟩
        refine lc_tup (K := K) (a := b) (xs := ys) (fun i H' => Same H3 H' ∧ H' D = some (.lst (((hs.take i).map (hdlB (blkB j))).map V.bl))) ⟨same_new hD, upd_same⟩ (fun i H' _ h' => SqT.same (s4.trans h'.1) hb) ?_ ?_
        · rintro i v H4 hz ⟨s5, e1⟩
          obtain ⟨z, hza, hzd⟩ := hyd.at hz
          have hi : i < ys.length := (List.getElem?_eq_some_iff.mp hz).1
          refine ⟨rfl, _, rfl, _, rfl, _, _, rfl, rfl, v, z, j, em2 v, hzd.same (s4.trans s5), (gy.mem (List.mem_of_getElem? hza)).mono (by decide), hj, fun H5 s6 => ?_⟩
          refine ⟨_, s6 _ _ e1, smallX (by rw [List.length_map, List.length_map, List.length_take]; omega), fun c o e => ?_, ?_⟩
          · rw [upd_ne (ne_of_none e hD)]
            exact s6 _ _ (s5 _ _ e)
          · rw [upd_same, take_snoc hza, List.map_append, List.map_append]
            rfl
        · rintro H4 ⟨s5, e1⟩
          rw [ly, List.take_length] at e1
          refine ⟨D, _, rfl, SqL.of e1, ?_⟩
          rw [all_map_id]
          exact k3 _ (s4.trans s5)
      refine case_word hq3 rfl h1 ?_
      rw [if_neg h1] at k3
      repeat refine case_len hq3 (Nat.ne_of_beq_eq_false rfl) ?_
      exact ⟨_, rfl, _, wd, [x, y, z], rfl, hv3, gd, k3⟩
    | [x, y, z, u], hd3, gm, k3, lx, gd, hv3 =>
      obtain ⟨vx, vy, vz, vu, rfl, hx, hy, hz, hu⟩ := hd3.four
      have gx := gm x List.mem_cons_self
      have gy := gm y (by simp)
      have gz := gm z (by simp)
      have gu := gm u (by simp)
      have k3 : ∀ H', Same H1 H' → Q (.bl (if wd = "with" then (callB x && (callB y && (rowD z && blkB j u))) else false)) H' := k3
      repeat refine case_len hq3 (Nat.ne_of_beq_eq_false rfl) ?_
      by_cases h1 : wd = "with"
      · subst h1
        rw [if_pos rfl] at k3
        refine case_hit hq3 rfl ⟨_, _, rfl, _, _, rfl, _, _, rfl, _, _, rfl, ?_⟩
        refine ⟨_, rfl, vx, x, rfl, hx, gx.mono (by decide), fun H2 s2 => ⟨_, rfl, ?_⟩⟩
        cases hc : callB x with
        | false =>
          rw [hc] at k3
          exact iteE rfl (k3 _ s2)
        | true =>
        rw [hc] at k3
        refine iteS rfl ?_
        refine ⟨_, rfl, vy, y, rfl, hy.same s2, gy.mono (by decide), fun H3 s3 => ⟨_, rfl, ?_⟩⟩
        have s4 := s2.trans s3
        cases hc2 : callB y with
        | false =>
          rw [hc2] at k3
          exact iteE rfl (k3 _ s4)
        | true =>
        rw [hc2] at k3
        refine iteS rfl ?_
        refine ⟨_, rfl, vz, z, rfl, hz.same s4, gz.mono (by decide), fun H4 s5 => ⟨_, rfl, ?_⟩⟩
        have s6 := s4.trans s5
        cases hc3 : rowD z with
        | false =>
          rw [hc3] at k3
          exact iteE rfl (k3 _ s6)
        | true =>
        rw [hc3] at k3
        exact iteS rfl ⟨_, rfl, _, rfl, _, _, rfl, rfl, vu, u, j, em2 vu, hu.same s6, gu.mono (by decide), hj, fun H' s' => k3 _ (s6.trans s')⟩
      refine case_word hq3 rfl h1 ?_
      rw [if_neg h1] at k3
      exact ⟨_, rfl, _, wd, [x, y, z, u], rfl, hv3, gd, k3⟩
    | x :: y :: z :: u :: t :: r', hd3, gm, k3, lx, gd, hv3 =>
      obtain ⟨_, _, rfl, _, hd3⟩ := hd3.consInv
      obtain ⟨_, _, rfl, _, hd3⟩ := hd3.consInv
      obtain ⟨_, _, rfl, _, hd3⟩ := hd3.consInv
      obtain ⟨_, _, rfl, _, hd3⟩ := hd3.consInv
      obtain ⟨_, _, rfl, _, hd3⟩ := hd3.consInv
      repeat refine case_len hq3 (Nat.ne_of_beq_eq_false rfl) ?_
      exact ⟨_, rfl, _, wd, x :: y :: z :: u :: t :: r', rfl, hv3, gd, k3⟩
theorem ok_blocksB {fb fh fs : Addr} {db dh ds : FuncData} (FB : Fun K "is_block" "is_block" sIsBlk fb db) (FH : Fun K "is_handler" "is_handler" sIsHnd fh dh) (FS : Fun K "is_statement" "is_statement" sIsSta fs ds) (T : TxShape mg)
    (mb : mg "is_block" = some (.ref fb)) (kb : PySem.W.keepIn K (.ref fb) = true) (bb : Binds K db PIsBlk [])
    (mh : mg "is_handler" = some (.ref fh)) (kh : PySem.W.keepIn K (.ref fh) = true) (bh : Binds K dh PIsHnd [])
    (ms : mg "is_statement" = some (.ref fs)) (ks : PySem.W.keepIn K (.ref fs) = true) (bs : Binds K ds PIsSta [])
    (GP : Has P w K mg base CX0 1 "is_pair" PIsPair (spPairB K)) (GM : Has P w K mg base CX0 5 "is_simple" PIsSim (spSimB K)) (GC : Has P w K mg base CX0 4 "is_call" PIsCal (spCalB K)) (GR : Has P w K mg base CX0 2 "is_row_of_names" PRowN (spRowB K)) : ∀ n, FnOk P w K mg base CX0 (5 + 3 * n) fb db PIsBlk (spBlkB K n) := by
  intro n
  induction n with
  | zero => exact ⟨fun vs H Q E h => by obtain ⟨_, _, _, _, _, _, h, _⟩ := h; exact absurd h (Nat.not_lt_zero _), fun _ _ _ _ _ _ _ _ _ _ _ _ _ h => by obtain ⟨_, _, _, _, _, _, h, _⟩ := h; exact absurd h (Nat.not_lt_zero _)⟩
  | succ n ih =>
    have GB : Has P w K mg base CX0 (5 + 3 * n) "is_block" PIsBlk (spBlkB K n) := ⟨fb, db, ih, mb, kb, bb⟩
    have GH : Has P w K mg base CX0 (5 + 3 * n + 1) "is_handler" PIsHnd (spHndB K n) := ⟨fh, dh, ok_HndB FH GP GR GB, mh, kh, bh⟩
    rw [show 5 + 3 * n + 1 = 6 + 3 * n by omega] at GH
    have GS : Has P w K mg base CX0 (6 + 3 * n + 1) "is_statement" PIsSta (spStaB K n) := ⟨fs, ds, ok_StaB FS T GM GC GR GB GH, ms, ks, bs⟩
    rw [show 6 + 3 * n + 1 = 7 + 3 * n by omega] at GS
    have r := ok_BlkB FB T GS
    rw [show 7 + 3 * n + 1 = 5 + 3 * (n + 1) by omega] at r
    exact r
theorem ok_ParB {f : Addr} {fd : FuncData} (F : Fun K "is_param" "is_param" sIsPar f fd) (T : TxShape mg) (GN : Has P w K mg base CX0 1 "is_name" PIsName (spName K)) (GP : Has P w K mg base CX0 1 "is_pair" PIsPair (spPairB K)) : FnOk P w K mg base CX0 2 f fd PIsPar (spParB K) := by
  refine F.ok scIsPar (fun vs H Q E h => ?_) (fun cdv A outer s H vs Q E hr h => ?_)
  · obtain ⟨v, e, rfl, _⟩ := h
    rfl
  · obtain ⟨v, d, rfl, hv, gd, k⟩ := h
    refine ⟨_, (pss_one (ps_ret (pe_and (pe_callH GP hr rfl pass0 (pa_cons (pv 0) pa_nil)) (pe_and (pe_callH GN hr rfl pass0 (pa_cons (pe_ix (r := rIxT K) ix_tup (pv 0) pe_int (fun _ _ => rfl)) pa_nil)) (pe_one (pe_callB call_isi (by rfl) T.n_isinstance bb_isinstance (pa_cons (pe_ix (r := rIxT K) ix_tup (pv 0) pe_int (fun _ _ => rfl)) (pa_cons (pe_bltn (v := .ty "bool") (by rfl) T.n_bool bb_bool rfl) pa_nil)))))))), ?_⟩
    refine ⟨_, rfl, v, d, rfl, hv, _, rfl, ?_⟩
    cases hp : pairD d with
    | false =>
      have : parB d = false := by
        unfold parB
        split
        · cases hp
        · rfl
      rw [this] at k
      exact iteE rfl (k _ (Same.refl _))
    | true =>
    obtain ⟨x, y, rfl⟩ := pair_ex hp
    obtain ⟨a, xs, rfl, hq, hd⟩ := hv.tupInv
    obtain ⟨vx, vy, rfl, hx, hy⟩ := hd.two
    have gx : GD 59 x := gd.mem List.mem_cons_self
    have k : ∀ H', Same H H' → Q (.bl (nameD x && isBoolD y)) H' := k
    refine iteS rfl ?_
    refine ⟨_, rfl, a, _, _, _, rfl, rfl, hq, rfl, tNil_go ?_⟩
    show spName K [_] _ _ _
    refine nm_ask hx gx ⟨_, rfl, ?_⟩
    cases hn : nameD x with
    | false =>
      rw [hn] at k
      exact iteE rfl (k _ (Same.refl _))
    | true =>
    rw [hn] at k
    obtain ⟨t, ty, _, _, k3, _⟩ := dpT hy
    exact iteS rfl ⟨_, rfl, a, _, _, _, rfl, rfl, hq, rfl, _, _, _, _, _, rfl, .ty _, ty, k3, k _ (Same.refl _)⟩
theorem ok_FunB {f : Addr} {fd : FuncData} (F : Fun K "is_function" "is_function" sIsFun f fd) (T : TxShape mg) (cD : ∃ u, mg "DEEPEST" = some u ∧ RelV (.int 30) u) (GN : Has P w K mg base CX0 1 "is_name" PIsName (spName K)) (GP : Has P w K mg base CX0 2 "is_param" PIsPar (spParB K)) (GB : Has P w K mg base CX0 (5 + 3 * 31) "is_block" PIsBlk (spBlkB K 31)) : FnOk P w K mg base CX0 (5 + 3 * 31 + 1) f fd PIsFun (spFunB K) := by
  refine F.ok scIsFun (fun vs H Q E h => ?_) (fun cdv A outer s H vs Q E hr h => ?_)
  · obtain ⟨v, e, rfl, _⟩ := h
    rfl
  · obtain ⟨v, d, rfl, hv, gd, k⟩ := h
    have hr1 := hr.mono (j := 1) (by omega)
    have hr2 := hr.mono (j := 2) (by omega)
    refine ⟨_, (pss_cons (ps_if (PW.pt (pw_or (pt_not (pt_val (pe_callB call_isi (by rfl) T.n_isinstance bb_isinstance (pa_cons (pv 0) (pa_cons (pe_bltn (v := .ty "tuple") (by rfl) T.n_tuple bb_tuple rfl) pa_nil))))) (pw_or (pt_cmpR op_ne (pe_callB call_len_seq (by rfl) T.n_len bb_len (pa_cons (pv 0) pa_nil)) pe_int (nomark _)) (pw_or (pt_not (pt_val (pe_callH GN hr1 rfl pass0 (pa_cons (pe_ix (r := rIxT K) ix_tup (pv 0) pe_int (fun _ _ => rfl)) pa_nil)))) (pw_or1 (pt_not (pt_val (pe_callB call_isi (by rfl) T.n_isinstance bb_isinstance (pa_cons (pe_ix (r := rIxT K) ix_tup (pv 0) pe_int (fun _ _ => rfl)) (pa_cons (pe_bltn (v := .ty "tuple") (by rfl) T.n_tuple bb_tuple rfl) pa_nil))))))))))
  (pss_one (ps_ret pe_bl))
  pss_nil)
  (pss_one (ps_ret (pe_and (pe_callB (cr_all rfl) (by rfl) T.n_all bb_all (pa_cons (pe_lc (own := [("one", 1)]) (g := gName 1) (tt := tYes) rfl scIsFun.nd (pi_tup (pe_ix (r := rIxT K) ix_tup (pv 0) pe_int (fun _ _ => rfl))) (blkOk_by (own := [("one", 1)]) (N := NIsFun) (sc := (defScope sIsFun)) (by decide +kernel)) (fun _ _ _ _ _ => (pg_name (i := 1) scIsFun.nd rfl (Or.inl rfl))) (fun _ _ _ _ _ => pts_nil) (fun _ _ _ _ _ => (pe_callH GP hr2 rfl pass0 (pa_cons (pv 1) pa_nil)))) pa_nil)) (pe_one (pe_callH GB hr rfl pass0 (pa_cons (pe_ix (r := rIxT K) ix_tup (pv 0) pe_int (fun _ _ => rfl)) (pa_cons (pe_globE rfl cD) pa_nil)))))))), ?_⟩
    obtain ⟨t, ty, k1, _⟩ := dpT hv
    refine ⟨_, rfl, _, _, _, _, _, rfl, .ty _, ty, k1, _, rfl, ?_⟩
    rcases tupCases d with e | ⟨l, rfl⟩
    · have : funB d = false := by cases d <;> first | rfl | cases e
      rw [this] at k
      rw [e]
      exact iteS rfl (iteS rfl (k _ (Same.refl _)))
    refine iteE rfl ?_
    obtain ⟨a, xs, rfl, hq, hd⟩ := hv.tupInv
    have lx := hd.len
    refine ⟨_, rfl, a, _, rfl, .inr hq, rfl, _, rfl, ite2 (fun hc => ?_) (fun hc => ?_)⟩
    · have : funB (.tuple l) = false := by
        unfold funB
        split
        · rename_i e
          cases e
          rw [lx] at hc
          cases hc
        · rfl
      rw [this] at k
      exact iteS rfl (k _ (Same.refl _))
    have ll : l.length = 3 := by
      by_cases e : l.length = 3
      · exact e
      · exact absurd (by
          refine Bool.not_eq_true' _ |>.mpr (decide_eq_false fun z => e ?_)
          have := V.int.inj z
          omega) hc
    obtain ⟨x, y, z, rfl⟩ := len3D ll
    obtain ⟨vx, vy, vz, rfl, hx, hy, hz⟩ := hd.three
    have gx : GD 59 x := gd.mem List.mem_cons_self
    have gy : GD 59 y := gd.mem (by simp)
    have gz : GD 59 z := gd.mem (by simp)
    refine ⟨_, rfl, a, _, _, _, rfl, rfl, hq, rfl, tNil_go ?_⟩
    show spName K [_] _ _ _
    refine nm_ask hx gx ⟨_, rfl, ?_⟩
    cases hn : nameD x with
    | false =>
      have : funB (.tuple [x, y, z]) = false := by
        cases y with
        | tuple ps => show (nameD x && _) = false; rw [hn]; rfl
        | _ => rfl
      rw [this] at k
      exact iteS rfl (iteS rfl (k _ (Same.refl _)))
    | true =>
    refine iteE rfl ?_
    obtain ⟨t1, ty1, k11, _⟩ := dpT hy
    refine ⟨_, rfl, a, _, _, _, rfl, rfl, hq, rfl, _, _, _, _, _, rfl, .ty _, ty1, k11, _, rfl, ?_⟩
    rcases tupCases y with e | ⟨ps, rfl⟩
    · have : funB (.tuple [x, y, z]) = false := by cases y <;> first | rfl | cases e
      rw [this] at k
      rw [e]
      exact iteS rfl (k _ (Same.refl _))
    refine iteE rfl ?_
    have ef : funB (.tuple [x, .tuple ps, z]) = (ps.all parB && blkB 30 z) := by show (nameD x && (ps.all parB && blkB 30 z)) = _; rw [hn]; rfl
    rw [ef] at k
    obtain ⟨b, ys, rfl, hb, hyd⟩ := hy.tupInv
    have lt := gy.len
    have ly := hyd.len
    refine ⟨_, rfl, a, _, _, _, rfl, rfl, hq, rfl, b, rfl, ⟨_, hb⟩, fun D hD => ?_⟩
    refine lc_tup (K := K) (a := b) (xs := ys) (fun i H' => Same H H' ∧ H' D = some (.lst (((ps.take i).map parB).map V.bl))) ⟨same_new hD, upd_same⟩ (fun i H' _ h' => SqT.same h'.1 hb) ?_ ?_
    · rintro i v H1 hz ⟨s1, e1⟩
      obtain ⟨z, hza, hzd⟩ := hyd.at hz
      have hi : i < ys.length := (List.getElem?_eq_some_iff.mp hz).1
      refine ⟨rfl, _, rfl, v, z, rfl, hzd.same s1, (gy.mem (List.mem_of_getElem? hza)).mono (by decide), fun H2 s2 => ?_⟩
      refine ⟨_, s2 _ _ e1, smallX (by rw [List.length_map, List.length_map, List.length_take]; omega), fun c o e => ?_, ?_⟩
      · rw [upd_ne (ne_of_none e hD)]
        exact s2 _ _ (s1 _ _ e)
      · rw [upd_same, take_snoc hza, List.map_append, List.map_append]
        rfl
    · rintro H1 ⟨s1, e1⟩
      rw [ly, List.take_length] at e1
      refine ⟨D, _, rfl, SqL.of e1, ?_⟩
      rw [all_map_id]
      refine ⟨_, rfl, ?_⟩
      cases hp : ps.all parB with
      | false =>
        rw [hp] at k
        exact iteE rfl (k _ s1)
      | true =>
        rw [hp] at k
        exact iteS rfl ⟨_, rfl, a, _, _, _, rfl, rfl, SqT.same s1 hq, rfl, _, z, 30, rfl, hz.same s1, gz.mono (by decide), by decide, fun H' s' => k _ (s1.trans s')⟩
theorem kp_no {e : PyData} (h : exprD e = false) : kpB e = false := by
  unfold kpB
  split
  · rw [h]; rfl
  · rfl
theorem expr_ex {e : PyData} (h : exprD e = true) : ∃ c ts, e = .tuple [.int c, .tuple ts] := by
  unfold exprD at h
  split at h
  · exact ⟨_, _, rfl⟩
  · cases h
theorem ok_TreB {f : Addr} {fd : FuncData} (F : Fun K "is_tree" "is_tree" sIsTree f fd) (T : TxShape mg) (GR : Has P w K mg base CX0 2 "is_row_of_names" PRowN (spRowB K)) (GE : Has P w K mg base CX0 2 "is_expression" PIsExp (spExpB K)) (GF : Has P w K mg base CX0 (5 + 3 * 31 + 1) "is_function" PIsFun (spFunB K)) : FnOk P w K mg base CX0 (5 + 3 * 31 + 1 + 1) f fd PIsTree (spTreB K) := by
  refine F.ok scIsTree (fun vs H Q E h => ?_) (fun cdv A outer s H vs Q E hr h => ?_)
  · obtain ⟨v, e, rfl, _⟩ := h
    rfl
  · obtain ⟨v, d, rfl, hv, gd, k⟩ := h
    have hr2 := hr.mono (j := 2) (by omega)
    refine ⟨_, (pss_cons (ps_if (PW.pt (pw_or (pt_not (pt_val (pe_callB call_isi (by rfl) T.n_isinstance bb_isinstance (pa_cons (pv 0) (pa_cons (pe_bltn (v := .ty "tuple") (by rfl) T.n_tuple bb_tuple rfl) pa_nil))))) (pw_or1 (pt_cmpR op_ne (pe_callB call_len_seq (by rfl) T.n_len bb_len (pa_cons (pv 0) pa_nil)) pe_int (nomark _)))))
  (pss_one (ps_ret pe_bl))
  pss_nil)
  (pss_cons (ps_asg (pv 0) (pg_tup (by rfl) (pgs_cons (pg_name (i := 1) scIsTree.nd rfl (Or.inl rfl)) (pgs_cons (pg_name (i := 2) scIsTree.nd rfl (Or.inl rfl)) (pgs_cons (pg_name (i := 3) scIsTree.nd rfl (Or.inl rfl)) (pgs_cons (pg_name (i := 4) scIsTree.nd rfl (Or.inl rfl)) pgs_nil))))))
  (pss_cons (ps_if (PW.pt (pw_or (pt_not (pt_val (pe_callH GR hr2 rfl pass0 (pa_cons (pv 1) pa_nil)))) (pw_or1 (pt_not (pt_val (pe_callH GR hr2 rfl pass0 (pa_cons (pv 2) pa_nil)))))))
  (pss_one (ps_ret pe_bl))
  pss_nil)
  (pss_cons (ps_if (PW.pt (pw_or (pt_not (pt_val (pe_callB call_isi (by rfl) T.n_isinstance bb_isinstance (pa_cons (pv 3) (pa_cons (pe_bltn (v := .ty "tuple") (by rfl) T.n_tuple bb_tuple rfl) pa_nil))))) (pw_or1 (pt_not (pt_val (pe_callB (cr_all rfl) (by rfl) T.n_all bb_all (pa_cons (pe_lc (own := [("one", 5)]) (g := gName 5) (tt := tYes) rfl scIsTree.nd (pi_tup (pv 3)) (blkOk_by (own := [("one", 5)]) (N := NIsTree) (sc := (defScope sIsTree)) (by decide +kernel)) (fun _ _ _ _ _ => (pg_name (i := 5) scIsTree.nd rfl (Or.inl rfl))) (fun _ _ _ _ _ => pts_nil) (fun _ _ _ _ _ => (pe_and (pe_callH GE hr2 rfl pass0 (pa_cons (pv 5) pa_nil)) (pe_one (pe_cmpR op_eq (pe_ix (r := rIxT K) ix_tup (pv 5) pe_int (fun _ _ => rfl)) pe_int (nomark _)))))) pa_nil)))))))
  (pss_one (ps_ret pe_bl))
  pss_nil)
  (pss_one (ps_ret (pe_and (pe_callB call_isi (by rfl) T.n_isinstance bb_isinstance (pa_cons (pv 4) (pa_cons (pe_bltn (v := .ty "tuple") (by rfl) T.n_tuple bb_tuple rfl) pa_nil))) (pe_one (pe_callB (cr_all rfl) (by rfl) T.n_all bb_all (pa_cons (pe_lc (own := [("one", 5)]) (g := gName 5) (tt := tYes) rfl scIsTree.nd (pi_tup (pv 4)) (blkOk_by (own := [("one", 5)]) (N := NIsTree) (sc := (defScope sIsTree)) (by decide +kernel)) (fun _ _ _ _ _ => (pg_name (i := 5) scIsTree.nd rfl (Or.inl rfl))) (fun _ _ _ _ _ => pts_nil) (fun _ _ _ _ _ => (pe_callH GF hr rfl pass0 (pa_cons (pv 5) pa_nil)))) pa_nil)))))))))), ?_⟩
    obtain ⟨t, ty, k1, _⟩ := dpT hv
    refine ⟨_, rfl, _, _, _, _, _, rfl, .ty _, ty, k1, _, rfl, ?_⟩
    rcases tupCases d with e | ⟨l, rfl⟩
    · have : treeB d = false := by cases d <;> first | rfl | cases e
      rw [this] at k
      rw [e]
      exact iteS rfl (iteS rfl (k _ (Same.refl _)))
    refine iteE rfl ?_
    obtain ⟨a, xs, rfl, hq, hd⟩ := hv.tupInv
    have lx := hd.len
    refine ⟨_, rfl, a, _, rfl, .inr hq, rfl, _, rfl, ite2 (fun hc => ?_) (fun hc => ?_)⟩
    · have : treeB (.tuple l) = false := by
        unfold treeB
        split
        · rename_i e
          cases e
          rw [lx] at hc
          cases hc
        · rfl
      rw [this] at k
      exact k _ (Same.refl _)
    have ll : l.length = 4 := by
      by_cases e : l.length = 4
      · exact e
      · exact absurd (by
          refine Bool.not_eq_true' _ |>.mpr (decide_eq_false fun z => e ?_)
          have := V.int.inj z
          omega) hc
    obtain ⟨x, y, z, u, rfl⟩ := len4D ll
    obtain ⟨vx, vy, vz, vu, rfl, hx, hy, hz, hu⟩ := hd.four
    have gx : GD 59 x := gd.mem List.mem_cons_self
    have gy : GD 59 y := gd.mem (by simp)
    have gz : GD 59 z := gd.mem (by simp)
    have gu : GD 59 u := gd.mem (by simp)
    have no1 : (rowD x && rowD y) = false → treeB (.tuple [x, y, z, u]) = false := fun h => by
      cases z with
      | tuple es =>
        cases u with
        | tuple fs =>
          show (rowD x && (rowD y && _)) = false
          rw [← Bool.and_assoc, h]
          rfl
        | _ => rfl
      | _ => rfl
    refine ⟨_, rfl, a, _, rfl, hq, rfl, _, _, rfl, _, _, rfl, _, _, rfl, _, _, rfl, rfl, ?_⟩
    refine ⟨_, rfl, vx, x, rfl, hx, gx.mono (by decide), fun H1 s1 => ⟨_, rfl, ?_⟩⟩
    cases hrx : rowD x with
    | false =>
      rw [no1 (by rw [hrx]; rfl)] at k
      exact iteS rfl (iteS rfl (k _ s1))
    | true =>
    refine iteE rfl ?_
    refine ⟨_, rfl, vy, y, rfl, hy.same s1, gy.mono (by decide), fun H2 s2 => ⟨_, rfl, ?_⟩⟩
    have s3 := s1.trans s2
    cases hry : rowD y with
    | false =>
      rw [no1 (by rw [hry, Bool.and_false])] at k
      exact iteS rfl (k _ s3)
    | true =>
    refine iteE rfl ?_
    obtain ⟨t1, ty1, k11, _⟩ := dpT (hz.same s3)
    refine ⟨_, rfl, _, _, _, _, _, rfl, .ty _, ty1, k11, _, rfl, ?_⟩
    rcases tupCases z with e | ⟨es, rfl⟩
    · have : treeB (.tuple [x, y, z, u]) = false := by cases z <;> first | rfl | cases e
      rw [this] at k
      rw [e]
      exact iteS rfl (iteS rfl (k _ s3))
    refine iteE rfl ?_
    obtain ⟨b, ys, rfl, hb, hyd⟩ := hz.tupInv
    have lt := gz.len
    have ly := hyd.len
    refine ⟨_, rfl, b, rfl, ⟨_, SqT.same s3 hb⟩, fun D hD => ?_⟩
    refine lc_tup (K := K) (a := b) (xs := ys) (fun i H' => Same H2 H' ∧ H' D = some (.lst (((es.take i).map kpB).map V.bl))) ⟨same_new hD, upd_same⟩ (fun i H' _ h' => SqT.same (s3.trans h'.1) hb) ?_ ?_
    · rintro i v H4 hz ⟨s5, e1⟩
      obtain ⟨e, hza, hzd⟩ := hyd.at hz
      have hi : i < ys.length := (List.getElem?_eq_some_iff.mp hz).1
      have lD : ∀ b : Bool, ((((es.take i).map kpB) ++ [b]).map V.bl).length ≤ 20001 := fun b => by
        rw [List.length_map, List.length_append, List.length_map, List.length_take]
        show _ + 1 ≤ _
        omega
      have fin : ∀ H5, Same H4 H5 → ∃ acc, H5 D = some (.lst acc) ∧ acc.length < sizeLine ∧ (Same H2 (upd H5 D (.lst (acc ++ [.bl (kpB e)]))) ∧ (upd H5 D (.lst (acc ++ [.bl (kpB e)]))) D = some (.lst (((es.take (i + 1)).map kpB).map V.bl))) := fun H5 s6 => by
        refine ⟨_, s6 _ _ e1, smallX (by rw [List.length_map, List.length_map, List.length_take]; omega), fun c o e => ?_, ?_⟩
        · rw [upd_ne (ne_of_none e hD)]
          exact s6 _ _ (s5 _ _ e)
        · rw [upd_same, take_snoc hza, List.map_append, List.map_append]
          rfl
      refine ⟨rfl, _, rfl, v, e, rfl, hzd.same (s3.trans s5), (gz.mem (List.mem_of_getElem? hza)).mono (by decide), fun H5 s6 => ⟨_, rfl, ?_⟩⟩
      cases hx : exprD e with
      | false =>
        have f2 := fin H5 s6
        rw [kp_no hx] at f2
        exact iteE rfl f2
      | true =>
      refine iteS rfl ?_
      obtain ⟨c, ts, rfl⟩ := expr_ex hx
      obtain ⟨d, us, rfl, hd5, hdd⟩ := Dp.tupInv (hzd.same ((s3.trans s5).trans s6))
      obtain ⟨q, r, rfl, hq5, _⟩ := hdd.two
      rw [hq5.intInv] at hd5
      have f2 := fin H5 s6
      have ek : kpB (.tuple [.int c, .tuple ts]) = decide (V.int c = V.int 0) := by
        show (exprD _ && decide (c = 0)) = _
        rw [hx, Bool.true_and]
        exact decide_eq_decide.mpr ⟨fun h => by rw [h], fun h => V.int.inj h⟩
      rw [ek] at f2
      exact ⟨_, rfl, d, _, _, _, rfl, rfl, hd5, rfl, rfl, f2⟩
    · rintro H4 ⟨s5, e1⟩
      rw [ly, List.take_length] at e1
      have s6 := s3.trans s5
      refine ⟨D, _, rfl, SqL.of e1, ?_⟩
      rw [all_map_id]
      refine ⟨_, rfl, ?_⟩
      cases hk : es.all kpB with
      | false =>
        have : treeB (.tuple [x, y, .tuple es, u]) = false := by
          cases u with
          | tuple fs =>
            show (rowD x && (rowD y && (es.all kpB && _))) = false
            rw [hk, Bool.false_and, Bool.and_false, Bool.and_false]
          | _ => rfl
        rw [this] at k
        exact iteS rfl (k _ s6)
      | true =>
      refine iteE rfl ?_
      obtain ⟨t2, ty2, k12, _⟩ := dpT (hu.same s6)
      refine ⟨_, rfl, _, _, _, _, _, rfl, .ty _, ty2, k12, _, rfl, ?_⟩
      rcases tupCases u with e | ⟨fs, rfl⟩
      · have : treeB (.tuple [x, y, .tuple es, u]) = false := by cases u <;> first | rfl | cases e
        rw [this] at k
        rw [e]
        exact iteE rfl (k _ s6)
      obtain ⟨c, zs, rfl, hc, hzd⟩ := hu.tupInv
      have lu := gu.len
      have lz := hzd.len
      have et : treeB (.tuple [x, y, .tuple es, .tuple fs]) = fs.all funB := by
        show (rowD x && (rowD y && (es.all kpB && fs.all funB))) = _
        rw [hrx, hry, hk]
        rfl
      rw [et] at k
      refine iteS rfl ⟨_, rfl, c, rfl, ⟨_, SqT.same s6 hc⟩, fun D hD => ?_⟩
      refine lc_tup (K := K) (a := c) (xs := zs) (fun i H' => Same H4 H' ∧ H' D = some (.lst (((fs.take i).map funB).map V.bl))) ⟨same_new hD, upd_same⟩ (fun i H' _ h' => SqT.same (s6.trans h'.1) hc) ?_ ?_
      · rintro i v H5 hz ⟨s7, e1⟩
        obtain ⟨z, hza, hzd⟩ := hzd.at hz
        have hi : i < zs.length := (List.getElem?_eq_some_iff.mp hz).1
        refine ⟨rfl, _, rfl, v, z, rfl, hzd.same (s6.trans s7), (gu.mem (List.mem_of_getElem? hza)).mono (by decide), fun H6 s8 => ?_⟩
        refine ⟨_, s8 _ _ e1, smallX (by rw [List.length_map, List.length_map, List.length_take]; omega), fun c o e => ?_, ?_⟩
        · rw [upd_ne (ne_of_none e hD)]
          exact s8 _ _ (s7 _ _ e)
        · rw [upd_same, take_snoc hza, List.map_append, List.map_append]
          rfl
      · rintro H5 ⟨s7, e1⟩
        rw [lz, List.take_length] at e1
        refine ⟨D, _, rfl, SqL.of e1, ?_⟩
        rw [all_map_id]
        exact k _ (s6.trans s7)
end

/-! ### assigned_names, own_names -/
abbrev sAsg : Stmt := topS 19
abbrev NAsg : List Str := ["block", "found", "number", "statement"]
abbrev PAsg : List Str := ["block"]
theorem scAsg : FnScope NAsg PAsg (defScope sAsg) := ⟨rfl, rfl, rfl, by decide +kernel, rfl, by decide +kernel, by decide +kernel⟩
def asgS : St → Option Str
  | .set t _ => some t
  | .input t => some t
  | .call t _ _ => t
  | _ => none
def asgB (b : List St) : List Str := (allB b 0).filterMap fun p => asgS p.2
def spAsg (K : PySem.W.Frag) (n : Nat) : Sp := fun vs H Q _ => ∃ (v : V) (b : List St), vs = [v] ∧ Dp K H v (blD b) ∧ dpB b ≤ n ∧ okB b ∧ szB b ≤ 20000 ∧ ∀ (q : Addr) (H' : Hp), Same H H' → H q = none → H' q = some (.lst ((asgB b).map V.str)) → Q (.ref q) H'
theorem filterMap_snoc {α β : Type} {f : α → Option β} {l : List α} {j : Nat} {x : α} (h : l[j]? = some x) : (l.take (j + 1)).filterMap f = (l.take j).filterMap f ++ (f x).toList := by
  rw [take_snoc h, List.filterMap_append]
  congr 1
section
variable {P : Program} {w : World} {K : PySem.W.Frag} {mg : Str → Option Value} {base : Heap}
theorem ok_Asg {n : Nat} {f : Addr} {fd : FuncData} (F : Fun K "assigned_names" "assigned_names" sAsg f fd) (GA : Has P w K mg base CX0 (4 + n) "all_numbered" PAllN (spAllN K n)) : FnOk P w K mg base CX0 (4 + n + 1) f fd PAsg (spAsg K n) := by
  refine F.ok scAsg (fun vs H Q E h => ?_) (fun cdv A outer s H vs Q E hr h => ?_)
  · obtain ⟨v, e, rfl, _⟩ := h
    rfl
  · obtain ⟨v, b, rfl, hv, hn, ok, sz, k⟩ := h
    refine ⟨_, (pss_cons (ps_set (i := 1) scAsg.nd rfl (Or.inl rfl) (pe_lst pa_nil))
  (pss_cons (ps_for PassesOwn.never rfl (pi_list (pe_callH GA hr rfl pass0 (pa_cons (pv 0) (pa_cons pe_int pa_nil)))) (pg_tup (by rfl) (pgs_cons (pg_name (i := 2) scAsg.nd rfl (Or.inl rfl)) (pgs_cons (pg_name (i := 3) scAsg.nd rfl (Or.inl rfl)) pgs_nil)))
  (pss_one (ps_if (PW.pt (pw_and (pt_cmpR op_in_seq (pe_ix (r := rIxT K) ix_tup (pv 3) pe_int (fun _ _ => rfl)) (pe_tup (pa_cons pe_str (pa_cons pe_str (pa_cons pe_str pa_nil)))) (by rfl)) (pw_and1 (pt_cmpR op_notN (pe_ix (r := rIxT K) ix_tup (pv 3) pe_int (fun _ _ => rfl)) pe_non (nomark _)))))
  (pss_one (ps_expr (pe_bm PySem.F.plainAttrs_list PySem.F.slot_list_append PySem.F.type_list_append mt_append (pv 1) (pa_cons (pe_ix (r := rIxT K) ix_tup (pv 3) pe_int (fun _ _ => rfl)) pa_nil))))
  pss_nil)))
  (pss_one (ps_ret (pv 1))))), ?_⟩
    refine ⟨(by show 0 ≤ sizeLine; decide), fun q hq => ?_⟩
    have s1 := same_new (o := .lst []) hq
    refine ⟨_, rfl, v, b, 0, rfl, hv.same s1, hn, ok, sz, fun L xs H2 s2 fL eL pL => ?_⟩
    have t2 := s1.trans s2
    have qL : q ≠ L := ne_of_none upd_same fL
    have tot : (allB b 0).length ≤ 20000 := by rw [allB_len]; exact sz
    refine ⟨L, rfl, ⟨_, SqL.of eL⟩, ?_⟩
    refine for_list (K := K) (a := L) (xs := xs) (fun j σ H' => ∃ x2 x3 : Option V, σ = [some v, some (.ref q), x2, x3] ∧ Same H H' ∧ Tps H2 H' ∧ H' L = some (.lst xs) ∧ H' q = some (.lst ((((allB b 0).take j).filterMap fun p => asgS p.2).map V.str))) ⟨_, _, rfl, t2, Tps.refl, eL, s2 _ _ upd_same⟩ (fun j σ H' _ h' => by obtain ⟨_, _, _, _, _, z, _⟩ := h'; exact SqL.of z) ?_ ?_
    · rintro j x σ H3 hx ⟨x2, x3, rfl, s3, t3, eL3, eq⟩
      obtain ⟨⟨num, st⟩, hp, hpd⟩ := Paired.at pL hx
      have hj : j < xs.length := (List.getElem?_eq_some_iff.mp hx).1
      obtain ⟨a, u, rfl, hqa, hd⟩ := hpd.tps t3
      obtain ⟨c, ys, rfl, hc, hcd⟩ := stInv hd
      refine ⟨a, _, rfl, hqa, rfl, _, _, rfl, _, _, rfl, rfl, ?_⟩
      refine ⟨_, rfl, c, _, _, _, rfl, rfl, hc, atI_nat (j := 0) rfl, (by show 3 ≤ sizeLine; decide), fun t ht => ?_⟩
      have s4 := same_new (o := .tup [.str "set", .str "input", .str "call"]) ht
      have hc4 := SqT.same s4 hc
      have eq4 := s4 _ _ eq
      have hcd4 := DpAll.same s4 hcd
      have hpre : ((allB b 0).take (j + 1)).filterMap (fun p => asgS p.2) = ((allB b 0).take j).filterMap (fun p => asgS p.2) ++ (asgS st).toList := filterMap_snoc (f := fun p : Nat × St => asgS p.2) hp
      have lq : ((((allB b 0).take j).filterMap fun p => asgS p.2).map V.str).length < 100000 := by
        rw [List.length_map]
        have l1 := List.length_filterMap_le (fun p : Nat × St => asgS p.2) ((allB b 0).take j)
        rw [List.length_take] at l1
        omega
      have finN : asgS st = none → Same H (upd H3 t (.tup [.str "set", .str "input", .str "call"])) ∧ Tps H2 (upd H3 t (.tup [.str "set", .str "input", .str "call"])) ∧ upd H3 t (.tup [.str "set", .str "input", .str "call"]) L = some (.lst xs) ∧ upd H3 t (.tup [.str "set", .str "input", .str "call"]) q = some (.lst ((((allB b 0).take (j + 1)).filterMap fun p => asgS p.2).map V.str)) := fun e => by
        rw [hpre, e]
        refine ⟨s3.trans s4, t3.trans (Tps.of s4), s4 _ _ eL3, ?_⟩
        rw [Option.toList_none, List.append_nil]
        exact eq4
      have et : upd H3 t (.tup [.str "set", .str "input", .str "call"]) t = some (.tup [.str "set", .str "input", .str "call"]) := upd_same
      generalize upd H3 t (.tup [.str "set", .str "input", .str "call"]) = H4 at *
      have fin : ∀ nm, asgS st = some nm → Same H (upd H4 q (.lst ((((allB b 0).take j).filterMap fun p => asgS p.2).map V.str ++ [.str nm]))) ∧ Tps H2 (upd H4 q (.lst ((((allB b 0).take j).filterMap fun p => asgS p.2).map V.str ++ [.str nm]))) ∧ (upd H4 q (.lst ((((allB b 0).take j).filterMap fun p => asgS p.2).map V.str ++ [.str nm]))) L = some (.lst xs) ∧ (upd H4 q (.lst ((((allB b 0).take j).filterMap fun p => asgS p.2).map V.str ++ [.str nm]))) q = some (.lst ((((allB b 0).take (j + 1)).filterMap fun p => asgS p.2).map V.str)) := fun nm e => by
        refine ⟨fun c o z => ?_, t3.trans ((Tps.of s4).trans (Tps.lst eq4)), ?_, ?_⟩
        · rw [upd_ne (ne_of_none z hq)]
          exact s4 _ _ (s3 _ _ z)
        · rw [upd_ne qL.symm]
          exact s4 _ _ eL3
        · rw [upd_same, hpre, e, List.map_append]
          rfl
      clear hpre hp hpd hd hc hcd hqa
      cases st <;> simp only [wordS] at hc4
      case set g e =>
        obtain ⟨x, y, rfl, h1, h2⟩ := hcd4.two
        rw [h1.strInv] at hc4
        refine ⟨t, _, rfl, .inr (SqT.of et), rfl, rfl, _, rfl, iteS (by simp only [wordS]; decide +kernel) ?_⟩
        refine ⟨_, rfl, c, _, _, _, rfl, rfl, hc4, atI_nat (j := 1) rfl, rfl, _, rfl, iteS (by rw [decide_eq_false (fun z => by cases z)]; rfl) ?_⟩
        refine ⟨_, rfl, .inl ⟨rfl, _, SqL.of eq4⟩, _, rfl, c, _, _, _, rfl, rfl, hc4, atI_nat (j := 1) rfl, q, _, _, rfl, rfl, eq4, smallX (Nat.le_of_lt lq), ?_⟩
        exact ⟨_, _, rfl, fin g rfl⟩
      case input g =>
        obtain ⟨x, rfl, h1⟩ := hcd4.one
        rw [h1.strInv] at hc4
        refine ⟨t, _, rfl, .inr (SqT.of et), rfl, rfl, _, rfl, iteS (by simp only [wordS]; decide +kernel) ?_⟩
        refine ⟨_, rfl, c, _, _, _, rfl, rfl, hc4, atI_nat (j := 1) rfl, rfl, _, rfl, iteS (by rw [decide_eq_false (fun z => by cases z)]; rfl) ?_⟩
        refine ⟨_, rfl, .inl ⟨rfl, _, SqL.of eq4⟩, _, rfl, c, _, _, _, rfl, rfl, hc4, atI_nat (j := 1) rfl, q, _, _, rfl, rfl, eq4, smallX (Nat.le_of_lt lq), ?_⟩
        exact ⟨_, _, rfl, fin g rfl⟩
      case call g gg as =>
        obtain ⟨x, y, z, rfl, h1, h2, h3⟩ := hcd4.three
        refine ⟨t, _, rfl, .inr (SqT.of et), rfl, rfl, _, rfl, iteS (by simp only [wordS]; decide +kernel) ?_⟩
        cases g with
        | none =>
          cases h1
          refine ⟨_, rfl, c, _, _, _, rfl, rfl, hc4, atI_nat (j := 1) rfl, rfl, _, rfl, iteE (by rw [decide_eq_true rfl]; rfl) ?_⟩
          exact ⟨_, _, rfl, finN rfl⟩
        | some g =>
          rw [show optD (some g) = .str g from rfl] at h1
          rw [h1.strInv] at hc4
          refine ⟨_, rfl, c, _, _, _, rfl, rfl, hc4, atI_nat (j := 1) rfl, rfl, _, rfl, iteS (by rw [decide_eq_false (fun z => by cases z)]; rfl) ?_⟩
          refine ⟨_, rfl, .inl ⟨rfl, _, SqL.of eq4⟩, _, rfl, c, _, _, _, rfl, rfl, hc4, atI_nat (j := 1) rfl, q, _, _, rfl, rfl, eq4, smallX (Nat.le_of_lt lq), ?_⟩
          exact ⟨_, _, rfl, fin g rfl⟩
      all_goals
        refine ⟨t, _, rfl, .inr (SqT.of et), rfl, rfl, _, rfl, iteE (by simp only [wordS]; decide +kernel) ?_⟩
        exact ⟨_, _, rfl, finN rfl⟩
    · rintro σ H3 ⟨x2, x3, rfl, s3, t3, eL3, eq⟩
      rw [Paired.length pL, List.take_length] at eq
      exact ⟨_, rfl, k q H3 s3 hq eq⟩
end

/-! ### own_names -/
abbrev sOwn : Stmt := topS 50
abbrev NOwn : List Str := ["tree", "function", "name", "params", "block", "found", "one", "by_place", "size"]
abbrev POwn : List Str := ["tree", "function"]
theorem scOwn : FnScope NOwn POwn (defScope sOwn) := ⟨rfl, rfl, rfl, by decide +kernel, rfl, by decide +kernel, by decide +kernel⟩
theorem inV_mem {n : Str} {l : List Str} : inV (.str n) (l.map V.str) = decide (n ∈ l) := by
  rw [Bool.eq_iff_iff, decide_eq_true_eq]
  unfold inV
  rw [List.any_eq_true]
  constructor
  · rintro ⟨v, hv, e⟩
    obtain ⟨o, ho, rfl⟩ := List.mem_map.mp hv
    have e : o = n := by unfold eqV at e; simpa using e
    exact e ▸ ho
  · intro h
    exact ⟨.str n, List.mem_map.mpr ⟨n, h, rfl⟩, by unfold eqV; simp⟩
theorem dp_strs {K : PySem.W.Frag} {H : Hp} : ∀ {gs : List V} {l : List Str}, DpAll K H gs (l.map PyData.str) → gs = l.map V.str
  | _, [], h => DpAll.nilInv h
  | _, x :: r, h => by
    obtain ⟨v, vr, rfl, h1, h2⟩ := DpAll.consInv h
    rw [h1.strInv, dp_strs h2]
    rfl
theorem flat_strs (l : List Str) : (l.map V.str).all flatV = true := by
  rw [List.all_map, List.all_eq_true]
  intro x _
  rfl
theorem cut_take {xs : List V} {k : Nat} : cutV xs none (some (k : Int)) = xs.take k := by
  unfold cutV
  rw [HT.sIx_none, HT.sIx_nat, List.drop_zero]
  rw [Nat.sub_zero, List.take_eq_take_iff]
  omega
theorem cut_drop {xs : List V} {k : Nat} : cutV xs (some (k : Int)) none = xs.drop k := by
  unfold cutV
  rw [HT.sIx_none, HT.sIx_nat]
  rcases Nat.le_or_ge k xs.length with h | h
  · rw [Nat.min_eq_left h, List.take_of_length_le]
    rw [List.length_drop]
    exact Nat.le_refl _
  · rw [Nat.min_eq_right h, List.drop_of_length_le (Nat.le_refl _), List.drop_of_length_le h]
    simp
theorem none_same {H H' : Hp} {q : Addr} (s : Same H H') (h : H' q = none) : H q = none := by
  cases e : H q with
  | none => rfl
  | some o => rw [s _ _ e] at h; cases h
/-- a name joins those found -/
def stepO (gl acc : List Str) (x : Str) : List Str := if x ∈ acc ∨ x ∈ gl then acc else acc ++ [x]
def ownF (gl ps : List Str) (b : List St) : List Str := (asgB b).foldl (stepO gl) ps
theorem ownF_len {gl : List Str} : ∀ {l acc : List Str}, acc.length ≤ (l.foldl (stepO gl) acc).length ∧ (l.foldl (stepO gl) acc).length ≤ acc.length + l.length
  | [], acc => ⟨Nat.le_refl _, Nat.le_refl _⟩
  | x :: r, acc => by
    have ih := ownF_len (gl := gl) (l := r) (acc := stepO gl acc x)
    have e : (stepO gl acc x).length = acc.length ∨ (stepO gl acc x).length = acc.length + 1 := by
      unfold stepO
      split
      · exact .inl rfl
      · exact .inr (by rw [List.length_append]; rfl)
    rw [List.foldl_cons, List.length_cons]
    omega
theorem ownF_pre {gl : List Str} : ∀ {l acc : List Str}, (l.foldl (stepO gl) acc).take acc.length = acc
  | [], acc => List.take_length
  | x :: r, acc => by
    have ih := ownF_pre (gl := gl) (l := r) (acc := stepO gl acc x)
    rw [List.foldl_cons]
    have e : stepO gl acc x = acc ∨ stepO gl acc x = acc ++ [x] := by
      unfold stepO
      split
      · exact .inl rfl
      · exact .inr rfl
    rcases e with e | e
    · rw [e] at ih ⊢
      exact ih
    · rw [e] at ih ⊢
      have h2 := congrArg (List.take acc.length) ih
      rw [List.take_take, List.length_append, Nat.min_eq_left (Nat.le_add_right _ _)] at h2
      rw [h2, List.take_append_of_le_length (Nat.le_refl _), List.take_length]
def innerF (gl ps : List Str) (b : List St) : List Str := (ownF gl ps b).drop ps.length
def prs (f : Fn) : List Str := f.ps.map Prod.fst
def spOwn (K : PySem.W.Frag) (n : Nat) : Sp := fun vs H Q _ => ∃ (v u : V) (t : Tr) (f : Fn), vs = [v, u] ∧ Dp K H v (trD t) ∧ t.names.length ≤ 20000 ∧ Dp K H u (fnD f) ∧ okFn n f ∧ szB f.b ≤ 20000 ∧ f.ps.length ≤ 20000 ∧ ∀ (r a c : Addr) (H' : Hp), Same H H' → H r = none → H a = none → H c = none → a ≠ c → H' r = some (.tup [.ref a, .ref c]) → H' a = some (.lst ((prs f).map V.str)) → H' c = some (.lst ((innerF t.names (prs f) f.b).map V.str)) → Q (.ref r) H'
section
variable {P : Program} {w : World} {K : PySem.W.Frag} {mg : Str → Option Value} {base : Heap}
theorem ok_Own {n : Nat} {f : Addr} {fd : FuncData} (F : Fun K "own_names" "own_names" sOwn f fd) (T : TxShape mg) (GA : Has P w K mg base CX0 (4 + n + 1) "assigned_names" PAsg (spAsg K n)) : FnOk P w K mg base CX0 (4 + n + 1 + 1) f fd POwn (spOwn K n) := by
  refine F.ok scOwn (fun vs H Q E h => ?_) (fun cdv A outer s H vs Q E hr h => ?_)
  · obtain ⟨v, u, t, e, rfl, _⟩ := h
    rfl
  · obtain ⟨v, u, t, e, rfl, hv, ln, hu, ok, sz, lps, k⟩ := h
    refine ⟨_, (pss_cons (ps_asg (pv 1) (pg_tup (by rfl) (pgs_cons (pg_name (i := 2) scOwn.nd rfl (Or.inl rfl)) (pgs_cons (pg_name (i := 3) scOwn.nd rfl (Or.inl rfl)) (pgs_cons (pg_name (i := 4) scOwn.nd rfl (Or.inl rfl)) pgs_nil)))))
  (pss_cons (ps_setLc (i := 5) (own := [("one", 6), ("by_place", 7)]) (g := gTup K 2 (gCons (gName 6) (gCons (gName 7) gNil))) (tt := tYes) rfl scOwn.nd rfl rfl (sw_true rfl rfl rfl (by decide +kernel)) (pi_tup (pv 3)) (blkOk_by (own := [("one", 6), ("by_place", 7)]) (N := NOwn) (sc := (defScope sOwn)) (by decide +kernel)) (fun _ _ _ _ _ => (pg_tup (by rfl) (pgs_cons (pg_name (i := 6) scOwn.nd rfl (Or.inl rfl)) (pgs_cons (pg_name (i := 7) scOwn.nd rfl (Or.inl rfl)) pgs_nil)))) (fun _ _ _ _ _ => pts_nil) (fun _ _ _ _ _ => (pv 6)))
  (pss_cons (ps_set (i := 8) scOwn.nd rfl (Or.inl rfl) (pe_callB call_len_seq (by rfl) T.n_len bb_len (pa_cons (pv 5) pa_nil)))
  (pss_cons (ps_for PassesOwn.never rfl (pi_list (pe_callH GA hr rfl pass0 (pa_cons (pv 4) pa_nil))) (pg_name (i := 6) scOwn.nd rfl (Or.inl rfl))
  (pss_one (ps_if (PW.pt (pw_and (pt_cmpR op_notIn_seq (pv 6) (pv 5) (by rfl)) (pw_and1 (pt_cmpR op_notIn_seq (pv 6) (pe_ix (r := rIxT K) ix_tup (pv 0) pe_int (fun _ _ => rfl)) (by rfl)))))
  (pss_one (ps_expr (pe_bm PySem.F.plainAttrs_list PySem.F.slot_list_append PySem.F.type_list_append mt_append (pv 5) (pa_cons (pv 6) pa_nil))))
  pss_nil)))
  (pss_one (ps_ret (pe_tup (pa_cons (pe_slice sl_list (pv 5) po_none (po_some (pv 8))) (pa_cons (pe_slice sl_list (pv 5) (po_some (pv 8)) po_none) pa_nil))))))))), ?_⟩
    have hv : Dp K H v (.tuple [nmD t.names, nmD t.kinds, .tuple (t.keeps.map exD), .tuple (t.fns.map fnD)]) := hv
    have hu : Dp K H u (.tuple [.str e.name, .tuple (e.ps.map prD), blD e.b]) := hu
    obtain ⟨a, xs, rfl, hq, hd⟩ := hv.tupInv
    obtain ⟨x, y, z, uu, rfl, hx, _, _, _⟩ := hd.four
    obtain ⟨g, gs, rfl, hg, hgd⟩ := hx.tupInv
    obtain ⟨c, ys, rfl, hc, hcd⟩ := hu.tupInv
    obtain ⟨x1, x2, x3, rfl, h1, h2, h3⟩ := hcd.three
    obtain ⟨p, ps, rfl, hp, hpd⟩ := h2.tupInv
    have pp := DpAll.map hpd
    have lp : ps.length = e.ps.length := Paired.length pp
    have egs : gs = t.names.map V.str := dp_strs hgd
    subst egs
    refine ⟨_, rfl, c, _, rfl, hc, rfl, _, _, rfl, _, _, rfl, _, _, rfl, rfl, ?_⟩
    refine ⟨_, rfl, p, rfl, ⟨_, hp⟩, fun D hD => ?_⟩
    refine lc_tup (K := K) (a := p) (xs := ps) (fun i H' => Same H H' ∧ H' D = some (.lst ((e.ps.take i).map fun p => V.str p.1))) ⟨same_new hD, upd_same⟩ (fun i H' _ h' => SqT.same h'.1 hp) ?_ ?_
    · rintro i z H2 hz ⟨s2, eD⟩
      obtain ⟨pr, ht, htd⟩ := Paired.at pp hz
      have htd : Dp K H z (.tuple [.str pr.1, .bool pr.2]) := htd
      obtain ⟨c, zs, rfl, hc, hcd⟩ := htd.tupInv
      obtain ⟨u, w, rfl, hu, hw⟩ := hcd.two
      rw [hu.strInv] at hc
      have hi : i < ps.length := (List.getElem?_eq_some_iff.mp hz).1
      refine ⟨c, _, rfl, SqT.same s2 hc, rfl, _, _, rfl, _, _, rfl, rfl, rfl, _, rfl, _, eD, smallX (by rw [List.length_map, List.length_take]; omega), fun c o z => ?_, ?_⟩
      · rw [upd_ne (ne_of_none z hD)]
        exact s2 _ _ z
      · rw [upd_same, take_snoc ht, List.map_append]
        rfl
    · rintro H2 ⟨s2, eD⟩
      rw [lp, List.take_length] at eD
      have eD : H2 D = some (.lst ((prs e).map V.str)) := by rw [eD]; unfold prs; rw [List.map_map]; rfl
      refine ⟨_, rfl, D, _, rfl, .inl (SqL.of eD), ?_⟩
      refine ⟨_, rfl, x3, e.b, rfl, h3.same s2, ok.2.2.2.1, ok.2.2.1, sz, fun L H3 s3 fL eL => ?_⟩
      have DL : D ≠ L := ne_of_none eD fL
      have s4 := s2.trans s3
      have la : (asgB e.b).length ≤ 20000 := by
        have l1 := List.length_filterMap_le (fun p : Nat × St => asgS p.2) (allB e.b 0)
        rw [allB_len] at l1
        exact Nat.le_trans l1 sz
      have lpr : (prs e).length = e.ps.length := by unfold prs; rw [List.length_map]
      refine ⟨L, rfl, ⟨_, SqL.of eL⟩, ?_⟩
      refine for_list (K := K) (a := L) (xs := (asgB e.b).map V.str) (fun j σ H' => ∃ x6 : Option V, σ = [some (.ref a), some (.ref c), some x1, some (.ref p), some x3, some (.ref D), x6, none, some (.int (((prs e).map V.str).length : Nat))] ∧ Same H H' ∧ H' L = some (.lst ((asgB e.b).map V.str)) ∧ H' D = some (.lst ((((asgB e.b).take j).foldl (stepO t.names) (prs e)).map V.str))) ⟨_, rfl, s4, eL, s3 _ _ eD⟩ (fun j σ H' _ h' => by obtain ⟨_, _, _, z, _⟩ := h'; exact SqL.of z) ?_ ?_
      · rintro j x σ H4 hx ⟨x6, rfl, s5, eL4, eD4⟩
        have hj : j < (asgB e.b).length := by
          have := (List.getElem?_eq_some_iff.mp hx).1
          rwa [List.length_map] at this
        obtain ⟨nm, hnm⟩ : ∃ nm, (asgB e.b)[j]? = some nm := ⟨_, List.getElem?_eq_getElem hj⟩
        rw [List.getElem?_map, hnm] at hx
        simp only [Option.map_some, Option.some.injEq] at hx
        subst hx
        have step : ((asgB e.b).take (j + 1)).foldl (stepO t.names) (prs e) = stepO t.names (((asgB e.b).take j).foldl (stepO t.names) (prs e)) nm := by
          rw [take_snoc hnm, List.foldl_append]
          rfl
        have lacc := (ownF_len (gl := t.names) (l := (asgB e.b).take j) (acc := prs e)).2
        rw [List.length_take, lpr] at lacc
        generalize ((asgB e.b).take j).foldl (stepO t.names) (prs e) = acc at *
        refine ⟨_, rfl, _, rfl, D, _, rfl, .inl (SqL.of eD4), rfl, flat_strs _, _, rfl, ?_⟩
        by_cases h1 : nm ∈ acc
        · refine iteE (by rw [if_pos rfl, inV_mem, decide_eq_true h1]; rfl) ?_
          exact ⟨_, rfl, s5, eL4, by rw [step]; unfold stepO; rw [if_pos (.inl h1)]; exact eD4⟩
        · refine iteS (by rw [if_pos rfl, inV_mem, decide_eq_false h1]; rfl) ?_
          refine ⟨_, rfl, _, rfl, a, _, _, _, rfl, rfl, SqT.same s5 hq, rfl, g, _, rfl, .inr (SqT.same s5 hg), rfl, flat_strs _, _, rfl, ?_⟩
          by_cases h2 : nm ∈ t.names
          · refine iteE (by rw [if_pos rfl, inV_mem, decide_eq_true h2]; rfl) ?_
            exact ⟨_, rfl, s5, eL4, by rw [step]; unfold stepO; rw [if_pos (.inr h2)]; exact eD4⟩
          · refine iteS (by rw [if_pos rfl, inV_mem, decide_eq_false h2]; rfl) ?_
            refine ⟨_, rfl, .inl ⟨rfl, _, SqL.of eD4⟩, _, rfl, D, _, _, rfl, rfl, eD4, smallX (by rw [List.length_map]; omega), ?_⟩
            refine ⟨_, rfl, fun c o z => ?_, ?_, ?_⟩
            · rw [upd_ne (ne_of_none z hD)]
              exact s5 _ _ z
            · rw [upd_ne DL.symm]
              exact eL4
            · rw [upd_same, step]
              unfold stepO
              rw [if_neg (fun z => z.elim h1 h2), List.map_append]
              rfl
      · rintro σ H4 ⟨x6, rfl, s5, eL4, eD4⟩
        rw [List.length_map, List.take_length] at eD4
        refine ⟨_, rfl, _, rfl, _, rfl, D, _, rfl, SqL.of eD4, fun q1 h1 => ?_⟩
        rw [cut_take]
        have s6 := same_new (o := .lst ((((asgB e.b).foldl (stepO t.names) (prs e)).map V.str).take ((prs e).map V.str).length)) h1
        have eD5 := s6 _ _ eD4
        have e1 : (((asgB e.b).foldl (stepO t.names) (prs e)).map V.str).take ((prs e).map V.str).length = (prs e).map V.str := by rw [← List.map_take, List.length_map, ownF_pre]
        have eq1 : upd H4 q1 (.lst ((((asgB e.b).foldl (stepO t.names) (prs e)).map V.str).take ((prs e).map V.str).length)) q1 = some (.lst ((prs e).map V.str)) := by rw [upd_same, e1]
        have n1 : H q1 = none := none_same s5 h1
        have s7 := s5.trans s6
        clear s6
        generalize upd H4 q1 (.lst ((((asgB e.b).foldl (stepO t.names) (prs e)).map V.str).take ((prs e).map V.str).length)) = H5 at *
        refine ⟨_, rfl, _, rfl, _, rfl, D, _, rfl, SqL.of eD5, fun q2 h2 => ?_⟩
        rw [cut_drop]
        have s8 := same_new (o := .lst ((((asgB e.b).foldl (stepO t.names) (prs e)).map V.str).drop ((prs e).map V.str).length)) h2
        have eq2 : upd H5 q2 (.lst ((((asgB e.b).foldl (stepO t.names) (prs e)).map V.str).drop ((prs e).map V.str).length)) q2 = some (.lst ((innerF t.names (prs e) e.b).map V.str)) := by
          rw [upd_same, ← List.map_drop, List.length_map]
          rfl
        have eq18 := s8 _ _ eq1
        have n2 : H q2 = none := none_same s7 h2
        have ne : q1 ≠ q2 := ne_of_none eq1 h2
        have s9 := s7.trans s8
        clear s8
        generalize upd H5 q2 (.lst ((((asgB e.b).foldl (stepO t.names) (prs e)).map V.str).drop ((prs e).map V.str).length)) = H6 at *
        refine ⟨(by show 2 ≤ sizeLine; decide), fun r hr => ?_⟩
        have s10 := same_new (o := .tup [.ref q1, .ref q2]) hr
        exact k r q1 q2 _ (s9.trans s10) (none_same s9 hr) n1 n2 ne upd_same (s10 _ _ eq18) (s10 _ _ eq2)
end

/-! ### check_unlike, names_of_args, fits -/
abbrev sUnl : Stmt := topS 55
abbrev NUnl : List Str := ["names", "at", "one"]
abbrev PUnl : List Str := ["names"]
theorem scUnl : FnScope NUnl PUnl (defScope sUnl) := ⟨rfl, rfl, rfl, by decide +kernel, rfl, by decide +kernel, by decide +kernel⟩
def spUnl (K : PySem.W.Frag) : Sp := fun vs H Q _ => ∃ (q : Addr) (l : List Str), vs = [.ref q] ∧ SqL K H q (l.map V.str) ∧ l.Nodup ∧ ∀ H', Same H H' → Q .non H'
structure TxChk (mg : Str → Option Value) : Prop where
  n_enumerate : mg "enumerate" = none
  n_sum : mg "sum" = none
  n_max : mg "max" = none
  n_len : mg "len" = none
  n_any : mg "any" = none
  n_list : mg "list" = none
  n_abs : mg "abs" = none
theorem nodup_take : ∀ {l : List Str}, l.Nodup → ∀ {i : Nat} {x : Str}, l[i]? = some x → x ∉ l.take i
  | a :: r, h, 0, x, hx => by simp
  | a :: r, h, i + 1, x, hx => by
    have hx : r[i]? = some x := by simpa using hx
    rw [List.nodup_cons] at h
    rw [List.take_succ_cons, List.mem_cons]
    rintro (z | z)
    · exact h.1 (z ▸ List.mem_of_getElem? hx)
    · exact nodup_take h.2 hx z
section
variable {P : Program} {w : World} {K : PySem.W.Frag} {mg : Str → Option Value} {base : Heap}
theorem ok_Unl {f : Addr} {fd : FuncData} (F : Fun K "check_unlike" "check_unlike" sUnl f fd) (T : TxChk mg) : FnOk P w K mg base CX0 1 f fd PUnl (spUnl K) := by
  refine F.ok scUnl (fun vs H Q E h => ?_) (fun cdv A outer s H vs Q E hr h => ?_)
  · obtain ⟨q, l, rfl, _⟩ := h
    rfl
  · obtain ⟨q, l, rfl, hq, nd, k⟩ := h
    refine ⟨_, (pss_one (ps_for PassesOwn.never rfl (pi_enum (by rfl) T.n_enumerate (pa_cons (pv 0) pa_nil)) (pg_tup (by rfl) (pgs_cons (pg_name (i := 1) scUnl.nd rfl (Or.inl rfl)) (pgs_cons (pg_name (i := 2) scUnl.nd rfl (Or.inl rfl)) pgs_nil)))
  (pss_one (ps_if (pt_cmpR op_in_seq (pv 2) (pe_slice sl_list (pv 0) po_none (po_some (pv 1))) (by rfl))
  (pss_one ps_never)
  pss_nil)))), ?_⟩
    refine ⟨_, rfl, q, _, rfl, hq, ?_⟩
    refine for_it (walk_enum (K := K) (a := q) (xs := l.map V.str)) (fun j σ H' => ∃ x1 x2 : Option V, σ = [some (.ref q), x1, x2] ∧ Same H H') ⟨_, _, rfl, Same.refl _⟩ (fun j σ H' _ h' => by obtain ⟨_, _, _, s'⟩ := h'; exact s'.seq hq) ?_ ?_
    · rintro j x σ H1 H2 hj ⟨x1, x2, rfl, s1⟩ ⟨T, x, y, rfl, hT, rfl, gx, gy⟩
      have hj : j < l.length := by rwa [List.length_map] at hj
      obtain ⟨nm, hnm⟩ : ∃ nm, l[j]? = some nm := ⟨_, List.getElem?_eq_getElem hj⟩
      simp only at gx gy
      rw [List.getElem?_map, hnm] at gy
      simp only [Option.map_some, Option.some.injEq] at gx gy
      subst gx gy
      have s2 := s1.trans (same_new (o := .tup [V.int (j : Nat), V.str nm]) hT)
      refine ⟨T, _, rfl, SqT.of upd_same, rfl, _, _, rfl, _, _, rfl, rfl, ?_⟩
      refine ⟨_, rfl, _, rfl, _, rfl, _, rfl, q, _, rfl, s2.seq hq, fun p hp => ?_⟩
      rw [cut_take]
      have s3 := s2.trans (same_new (o := .lst ((l.map V.str).take j)) hp)
      refine ⟨p, _, rfl, .inl (SqL.of upd_same), rfl, by rw [← List.map_take]; exact flat_strs _, _, rfl, iteE (by rw [← List.map_take, inV_mem]; exact decide_eq_false (nodup_take nd hnm)) ?_⟩
      exact ⟨_, _, rfl, s3⟩
    · rintro σ H1 ⟨x1, x2, rfl, s1⟩
      exact k _ s1
end

/-! ### names_of_args -/
abbrev sNoA : Stmt := topS 56
abbrev NNoA : List Str := ["args", "found", "word", "one", "name", "factor"]
abbrev PNoA : List Str := ["args"]
theorem scNoA : FnScope NNoA PNoA (defScope sNoA) := ⟨rfl, rfl, rfl, by decide +kernel, rfl, by decide +kernel, by decide +kernel⟩
def argN : Arg → List Str
  | .place n => [n]
  | .value e => e.ts.map Prod.fst
def argsN (as : List Arg) : List Str := as.flatMap argN
def spNoA (K : PySem.W.Frag) : Sp := fun vs H Q _ => ∃ (v : V) (as : List Arg), vs = [v] ∧ Dp K H v (.tuple (as.map argD)) ∧ (argsN as).length ≤ 20000 ∧ ∀ (q : Addr) (H' : Hp), Same H H' → H q = none → H' q = some (.lst ((argsN as).map V.str)) → Q (.ref q) H'
section
variable {P : Program} {w : World} {K : PySem.W.Frag} {mg : Str → Option Value} {base : Heap}
theorem ok_NoA {f : Addr} {fd : FuncData} (F : Fun K "names_of_args" "names_of_args" sNoA f fd) : FnOk P w K mg base CX0 1 f fd PNoA (spNoA K) := by
  refine F.ok scNoA (fun vs H Q E h => ?_) (fun cdv A outer s H vs Q E hr h => ?_)
  · obtain ⟨q, l, rfl, _⟩ := h
    rfl
  · obtain ⟨v, as, rfl, hv, tot, k⟩ := h
    refine ⟨_, (pss_cons (ps_set (i := 1) scNoA.nd rfl (Or.inl rfl) (pe_lst pa_nil))
  (pss_cons (ps_for PassesOwn.never rfl (pi_tup (pv 0)) (pg_tup (by rfl) (pgs_cons (pg_name (i := 2) scNoA.nd rfl (Or.inl rfl)) (pgs_cons (pg_name (i := 3) scNoA.nd rfl (Or.inl rfl)) pgs_nil)))
  (pss_one (ps_expr (pe_bm PySem.F.plainAttrs_list PySem.F.slot_list_extend PySem.F.type_list_extend mt_extend (pv 1) (pa_cons (pe_ifExp (pt_cmpR op_eq (pv 2) pe_str (nomark _)) (pe_lst (pa_cons (pv 3) pa_nil)) (pe_lc (own := [("name", 4), ("factor", 5)]) (g := gTup K 2 (gCons (gName 4) (gCons (gName 5) gNil))) (tt := tYes) rfl scNoA.nd (pi_tup (pe_ix (r := rIxT K) ix_tup (pv 3) pe_int (fun _ _ => rfl))) (blkOk_by (own := [("name", 4), ("factor", 5)]) (N := NNoA) (sc := (defScope sNoA)) (by decide +kernel)) (fun _ _ _ _ _ => (pg_tup (by rfl) (pgs_cons (pg_name (i := 4) scNoA.nd rfl (Or.inl rfl)) (pgs_cons (pg_name (i := 5) scNoA.nd rfl (Or.inl rfl)) pgs_nil)))) (fun _ _ _ _ _ => pts_nil) (fun _ _ _ _ _ => (pv 4)))) pa_nil)))))
  (pss_one (ps_ret (pv 1))))), ?_⟩
    obtain ⟨a, xs, rfl, hq, hd⟩ := hv.tupInv
    have pa := DpAll.map hd
    refine ⟨(by show 0 ≤ sizeLine; decide), fun q hq1 => ?_⟩
    have s1 := same_new (o := .lst []) hq1
    refine ⟨_, rfl, a, rfl, ⟨_, SqT.same s1 hq⟩, ?_⟩
    refine for_tup (K := K) (a := a) (xs := xs) (fun j σ H' => ∃ x2 x3 : Option V, σ = [some (.ref a), some (.ref q), x2, x3, none, none] ∧ Same H H' ∧ H' q = some (.lst (((as.take j).flatMap argN).map V.str))) ⟨_, _, rfl, s1, upd_same⟩ (fun j σ H' _ h' => by obtain ⟨_, _, _, z, _⟩ := h'; exact SqT.same z hq) ?_ ?_
    · rintro j x σ H3 hx ⟨x2, x3, rfl, s3, eq⟩
      obtain ⟨g, hg, hgd⟩ := Paired.at pa hx
      have lall := flat_len (f := argN) (l := as) (j + 1)
      have st := flat_snoc (f := argN) hg
      have lall : (((as.take (j + 1)).flatMap argN)).length ≤ 20000 := Nat.le_trans lall tot
      rw [st, List.length_append] at lall
      have fin : ∀ H4 p, Same H3 H4 → H3 p = none → H4 p = some (.lst ((argN g).map V.str)) → p ≠ q ∧ H4 q = some (.lst (((as.take j).flatMap argN).map V.str)) ∧ (((as.take j).flatMap argN).map V.str ++ (argN g).map V.str).length < sizeLine ∧ Same H (upd H4 q (.lst (((as.take j).flatMap argN).map V.str ++ (argN g).map V.str))) ∧ upd H4 q (.lst (((as.take j).flatMap argN).map V.str ++ (argN g).map V.str)) q = some (.lst (((as.take (j + 1)).flatMap argN).map V.str)) := fun H4 p s4 hp e4 => by
        refine ⟨fun z => ?_, s4 _ _ eq, smallX ?_, fun c o z => ?_, ?_⟩
        · rw [z, eq] at hp; cases hp
        · rw [List.length_append, List.length_map, List.length_map]; omega
        · rw [upd_ne (ne_of_none z hq1)]
          exact s4 _ _ (s3 _ _ z)
        · rw [upd_same, st, List.map_append]
      cases g with
      | place n =>
        have hgd : Dp K H x (.tuple [.str "place", .str n]) := hgd
        obtain ⟨c, ys, rfl, hc, hcd⟩ := hgd.tupInv
        obtain ⟨y, z, rfl, h1, h2⟩ := hcd.two
        rw [h1.strInv, h2.strInv] at hc
        refine ⟨c, _, rfl, SqT.same s3 hc, rfl, _, _, rfl, _, _, rfl, rfl, ?_⟩
        refine ⟨_, rfl, .inl ⟨rfl, _, SqL.of eq⟩, ?_⟩
        refine ⟨_, rfl, rfl, _, rfl, iteS rfl ⟨_, rfl, (by show 1 ≤ sizeLine; decide), fun p hp => ?_⟩⟩
        obtain ⟨f1, f2, f3, f4, f5⟩ := fin _ p (same_new (o := .lst [.str n]) hp) hp upd_same
        refine ⟨q, p, _, _, rfl, rfl, f2, upd_same, Nat.le_of_lt (by rw [List.length_append] at f3; exact f3), ?_⟩
        exact ⟨_, _, rfl, f4, f5⟩
      | value e =>
        have hgd : Dp K H x (.tuple [.str "value", exD e]) := hgd
        obtain ⟨c, ys, rfl, hc, hcd⟩ := hgd.tupInv
        obtain ⟨y, z, rfl, h1, h2⟩ := hcd.two
        rw [h1.strInv] at hc
        refine ⟨c, _, rfl, SqT.same s3 hc, rfl, _, _, rfl, _, _, rfl, rfl, ?_⟩
        refine ⟨_, rfl, .inl ⟨rfl, _, SqL.of eq⟩, ?_⟩
        refine ⟨_, rfl, rfl, _, rfl, iteE (by decide +kernel) ?_⟩
        obtain ⟨z1, zs, rfl, hz, hzd⟩ := h2.tupInv
        obtain ⟨w1, w2, rfl, h4, h5⟩ := hzd.two
        obtain ⟨b, ts, rfl, hb, hbd⟩ := h5.tupInv
        have pt := DpAll.map hbd
        have lt : ts.length = e.ts.length := Paired.length pt
        have le : e.ts.length ≤ 20000 := by
          have : (argN (.value e)).length = e.ts.length := by show (e.ts.map Prod.fst).length = _; rw [List.length_map]
          omega
        refine ⟨_, rfl, z1, _, _, _, rfl, rfl, SqT.same s3 hz, rfl, b, rfl, ⟨_, SqT.same s3 hb⟩, fun D hD => ?_⟩
        refine lc_tup (K := K) (a := b) (xs := ts) (fun i H' => Same H3 H' ∧ H' D = some (.lst ((e.ts.take i).map fun p => V.str p.1))) ⟨same_new hD, upd_same⟩ (fun i H' _ h' => SqT.same (s3.trans h'.1) hb) ?_ ?_
        · rintro i z H2 hz ⟨s2, eD⟩
          obtain ⟨pr, ht, htd⟩ := Paired.at pt hz
          obtain ⟨c, zs, rfl, hc, hcd⟩ := htd.tupInv
          obtain ⟨u, w, rfl, hu, hw⟩ := hcd.two
          rw [hu.strInv] at hc
          have hi : i < ts.length := (List.getElem?_eq_some_iff.mp hz).1
          refine ⟨c, _, rfl, SqT.same (s3.trans s2) hc, rfl, _, _, rfl, _, _, rfl, rfl, rfl, _, rfl, _, eD, smallX (by rw [List.length_map, List.length_take]; omega), fun c o z => ?_, ?_⟩
          · rw [upd_ne (ne_of_none z hD)]
            exact s2 _ _ z
          · rw [upd_same, take_snoc ht, List.map_append]
            rfl
        · rintro H2 ⟨s2, eD⟩
          rw [lt, List.take_length] at eD
          have eD : H2 D = some (.lst ((argN (.value e)).map V.str)) := by rw [eD]; show _ = some (HO.lst ((e.ts.map Prod.fst).map V.str)); rw [List.map_map]; rfl
          obtain ⟨f1, f2, f3, f4, f5⟩ := fin _ D s2 hD eD
          refine ⟨q, D, _, _, rfl, rfl, f2, eD, Nat.le_of_lt (by rw [List.length_append] at f3; exact f3), ?_⟩
          exact ⟨_, _, rfl, f4, f5⟩
    · rintro σ H3 ⟨x2, x3, rfl, s3, eq⟩
      rw [Paired.length pa, List.take_length] at eq
      exact ⟨_, rfl, k q H3 s3 hq1 eq⟩
end

/-! ### expressions_of -/
abbrev sExs : Stmt := topS 52
abbrev NExs : List Str := ["statement", "target", "expression", "name", "args", "word", "one", "enter", "leave", "kinds", "block"]
abbrev PExs : List Str := ["statement"]
theorem scExs : FnScope NExs PExs (defScope sExs) := ⟨rfl, rfl, rfl, by decide +kernel, rfl, by decide +kernel, by decide +kernel⟩
def valE : Arg → Option Ex
  | .value e => some e
  | _ => none
def exprS : St → List Ex
  | .set _ e => [e]
  | .ret e => [e]
  | .call _ _ as => as.filterMap valE
  | .with_ e l _ _ => (e.2 ++ l.2).filterMap valE
  | _ => []
def spExs (K : PySem.W.Frag) : Sp := fun vs H Q _ => ∃ (v : V) (s : St), vs = [v] ∧ Dp K H v (stD s) ∧ okS s ∧ ∀ (q : Addr) (xs : List V) (H' : Hp), Same H H' → H q = none → H' q = some (.lst xs) → Paired (fun x e => Dp K H' x (exD e)) xs (exprS s) → Q (.ref q) H'
section
variable {P : Program} {w : World} {K : PySem.W.Frag} {mg : Str → Option Value} {base : Heap}
theorem sizeBig {n : Nat} (h : n ≤ 90000) : n < sizeLine := Nat.lt_of_le_of_lt h (by decide)
/-- the reading of [one for word, one in args if word == 'value'] -/
theorem filterMap_snoc2 {α β : Type} {f : α → Option β} {l : List α} {j : Nat} {x : α} (h : l[j]? = some x) : (l.take (j + 1)).filterMap f = (l.take j).filterMap f ++ (f x).toList := filterMap_snoc h
theorem ok_Exs {f : Addr} {fd : FuncData} (F : Fun K "expressions_of" "expressions_of" sExs f fd) : FnOk P w K mg base CX0 1 f fd PExs (spExs K) := by
  refine F.ok scExs (fun vs H Q E h => ?_) (fun cdv A outer s H vs Q E hr h => ?_)
  · obtain ⟨q, l, rfl, _⟩ := h
    rfl
  · obtain ⟨v, st, rfl, hv, ok, k⟩ := h
    refine ⟨_, (pss_one (ps_match (pv 0) (pcs_cons scExs.nd (pm_seq rfl (pms_cons pm_str (pms_cons (pm_as (i := 1) rfl (Or.inl rfl)) (pms_cons (pm_as (i := 2) rfl (Or.inl rfl)) pms_nil))))
  (pss_one (ps_ret (pe_lst (pa_cons (pv 2) pa_nil))))
  (pcs_cons scExs.nd (pm_seq rfl (pms_cons pm_str (pms_cons (pm_as (i := 2) rfl (Or.inl rfl)) pms_nil)))
  (pss_one (ps_ret (pe_lst (pa_cons (pv 2) pa_nil))))
  (pcs_cons scExs.nd (pm_seq rfl (pms_cons pm_str (pms_cons (pm_as (i := 1) rfl (Or.inl rfl)) (pms_cons (pm_as (i := 3) rfl (Or.inl rfl)) (pms_cons (pm_as (i := 4) rfl (Or.inl rfl)) pms_nil)))))
  (pss_one (ps_ret (pe_lc (own := [("word", 5), ("one", 6)]) (g := gTup K 2 (gCons (gName 5) (gCons (gName 6) gNil))) rfl scExs.nd (pi_tup (pv 4)) (blkOk_by (own := [("word", 5), ("one", 6)]) (N := NExs) (sc := (defScope sExs)) (by decide +kernel)) (fun _ _ _ _ _ => (pg_tup (by rfl) (pgs_cons (pg_name (i := 5) scExs.nd rfl (Or.inl rfl)) (pgs_cons (pg_name (i := 6) scExs.nd rfl (Or.inl rfl)) pgs_nil)))) (fun _ _ _ _ _ => (pts_one (pt_cmpR op_eq (pv 5) pe_str (nomark _)))) (fun _ _ _ _ _ => (pv 6)))))
  (pcs_cons scExs.nd (pm_seq rfl (pms_cons pm_str (pms_cons (pm_as (i := 7) rfl (Or.inl rfl)) (pms_cons (pm_as (i := 8) rfl (Or.inl rfl)) (pms_cons (pm_as (i := 9) rfl (Or.inl rfl)) (pms_cons (pm_as (i := 10) rfl (Or.inl rfl)) pms_nil))))))
  (pss_one (ps_ret (pe_lc (own := [("word", 5), ("one", 6)]) (g := gTup K 2 (gCons (gName 5) (gCons (gName 6) gNil))) rfl scExs.nd (pi_tup (pe_op op_catA (pe_ix (r := rIxT K) ix_tup (pv 7) pe_int (fun _ _ => rfl)) (pe_ix (r := rIxT K) ix_tup (pv 8) pe_int (fun _ _ => rfl)))) (blkOk_by (own := [("word", 5), ("one", 6)]) (N := NExs) (sc := (defScope sExs)) (by decide +kernel)) (fun _ _ _ _ _ => (pg_tup (by rfl) (pgs_cons (pg_name (i := 5) scExs.nd rfl (Or.inl rfl)) (pgs_cons (pg_name (i := 6) scExs.nd rfl (Or.inl rfl)) pgs_nil)))) (fun _ _ _ _ _ => (pts_one (pt_cmpR op_eq (pv 5) pe_str (nomark _)))) (fun _ _ _ _ _ => (pv 6)))))
  (pcs_cons scExs.nd pm_wild
  (pss_one (ps_ret (pe_lst pa_nil)))
  pcs_nil))))))), ?_⟩
    obtain ⟨a, xs, rfl, hq, hd⟩ := stInv hv
    refine ⟨_, rfl, ?_⟩
    cases st <;> simp only [wordS] at hq
    case set t e =>
      obtain ⟨x, y, rfl, h1, h2⟩ := DpAll.two hd
      refine case_hit hq rfl ⟨_, _, rfl, _, _, rfl, ?_⟩
      refine ⟨_, rfl, (by show 1 ≤ sizeLine; decide), fun q hq1 => ?_⟩
      have s1 := same_new (o := .lst [y]) hq1
      exact k q _ _ s1 hq1 upd_same (.cons (h2.same s1) .nil)
    case ret e =>
      obtain ⟨y, rfl, h2⟩ := DpAll.one hd
      repeat (first | refine case_len hq (Nat.ne_of_beq_eq_false rfl) ?_ | refine case_word hq rfl (by decide +kernel) ?_)
      refine case_hit hq rfl ⟨_, _, rfl, ?_⟩
      refine ⟨_, rfl, (by show 1 ≤ sizeLine; decide), fun q hq1 => ?_⟩
      have s1 := same_new (o := .lst [y]) hq1
      exact k q _ _ s1 hq1 upd_same (.cons (h2.same s1) .nil)
    case call t g as =>
      have ok : (∀ x, t = some x → okN1 x) ∧ okN1 g ∧ okAs as := ok
      obtain ⟨x, y, z, rfl, h1, h2, h3⟩ := DpAll.three hd
      obtain ⟨b, ys, rfl, hb, hbd⟩ := h3.tupInv
      have pa := DpAll.map hbd
      have la : ys.length = as.length := Paired.length pa
      have l9 : as.length ≤ 20000 := ok.2.2.1
      repeat (first | refine case_len hq (Nat.ne_of_beq_eq_false rfl) ?_ | refine case_word hq rfl (by decide +kernel) ?_)
      refine case_hit hq rfl ⟨_, _, rfl, _, _, rfl, _, _, rfl, ?_⟩
      refine ⟨_, rfl, b, rfl, ⟨_, hb⟩, fun D hD => ?_⟩
      refine lc_tup (K := K) (a := b) (xs := ys) (fun i H' => Same H H' ∧ ∃ us, H' D = some (.lst us) ∧ us.length ≤ i ∧ Paired (fun x e => Dp K H x (exD e)) us ((as.take i).filterMap valE)) ⟨same_new hD, [], upd_same, Nat.le_refl _, .nil⟩ (fun i H' _ h' => SqT.same h'.1 hb) ?_ ?_
      · rintro i z H2 hz ⟨s2, us, eD, lu, pu⟩
        obtain ⟨g2, hg, hgd⟩ := Paired.at pa hz
        have hi : i < ys.length := (List.getElem?_eq_some_iff.mp hz).1
        have fm := filterMap_snoc (f := valE) hg
        cases g2 with
        | place n =>
          have hgd : Dp K H z (.tuple [.str "place", .str n]) := hgd
          obtain ⟨c, zs, rfl, hc, hcd⟩ := hgd.tupInv
          obtain ⟨u, w, rfl, hu, hw⟩ := hcd.two
          rw [hu.strInv] at hc
          refine ⟨c, _, rfl, SqT.same s2 hc, rfl, _, _, rfl, _, _, rfl, rfl, rfl, ?_⟩
          refine ⟨_, rfl, rfl, _, rfl, iteE (by decide +kernel) ?_⟩
          exact ⟨s2, us, eD, by omega, by rw [fm]; show Paired _ us (_ ++ []); rw [List.append_nil]; exact pu⟩
        | value e =>
          have hgd : Dp K H z (.tuple [.str "value", exD e]) := hgd
          obtain ⟨c, zs, rfl, hc, hcd⟩ := hgd.tupInv
          obtain ⟨u, w, rfl, hu, hw⟩ := hcd.two
          rw [hu.strInv] at hc
          refine ⟨c, _, rfl, SqT.same s2 hc, rfl, _, _, rfl, _, _, rfl, rfl, rfl, ?_⟩
          refine ⟨_, rfl, rfl, _, rfl, iteS rfl ?_⟩
          refine ⟨_, rfl, _, eD, smallX (by omega), fun c o z => ?_, _, upd_same, by rw [List.length_append]; show us.length + 1 ≤ _; omega, ?_⟩
          · rw [upd_ne (ne_of_none z hD)]
            exact s2 _ _ z
          · rw [fm]
            exact Paired.snoc pu hw
      · rintro H2 ⟨s2, us, eD, lu, pu⟩
        rw [la, List.take_length] at pu
        exact k D us H2 s2 hD eD (Paired.mapP pu fun _ _ z => z.same s2)
    case with_ e l ks p =>
      have ok : (okCal e ∧ okCal l ∧ okNs ks) ∧ (p.length ≤ 20000 ∧ okL p) := ok
      obtain ⟨x, y, z, u, rfl, h1, h2, h3, h4⟩ := DpAll.four hd
      have h1 : Dp K H x (.tuple [.str e.1, .tuple (e.2.map argD)]) := h1
      have h2 : Dp K H y (.tuple [.str l.1, .tuple (l.2.map argD)]) := h2
      obtain ⟨x0, ex, rfl, hx0, hxd⟩ := h1.tupInv
      obtain ⟨e1, e2, rfl, _, he2⟩ := hxd.two
      obtain ⟨y0, ey, rfl, hy0, hyd⟩ := h2.tupInv
      obtain ⟨l1, l2, rfl, _, hl2⟩ := hyd.two
      obtain ⟨b1, ys1, rfl, hb1, hbd1⟩ := he2.tupInv
      obtain ⟨b2, ys2, rfl, hb2, hbd2⟩ := hl2.tupInv
      have pa1 := DpAll.map hbd1
      have pa2 := DpAll.map hbd2
      have m1 : ys1.length = e.2.length := Paired.length pa1
      have m2 : ys2.length = l.2.length := Paired.length pa2
      have n1 : e.2.length ≤ 20000 := ok.1.1.2.1
      have n2 : l.2.length ≤ 20000 := ok.1.2.1.2.1
      have pal := Paired.app pa1 pa2
      have ll : (ys1 ++ ys2).length = (e.2 ++ l.2).length := Paired.length pal
      have s0 := Same.refl H
      repeat (first | refine case_len hq (Nat.ne_of_beq_eq_false rfl) ?_ | refine case_word hq rfl (by decide +kernel) ?_)
      refine case_hit hq rfl ⟨_, _, rfl, _, _, rfl, _, _, rfl, _, _, rfl, ?_⟩
      refine ⟨_, rfl, x0, _, _, _, rfl, rfl, hx0, rfl, _, rfl, y0, _, _, _, rfl, rfl, hy0, rfl, ?_⟩
      refine ⟨b1, b2, ys1, ys2, rfl, rfl, hb1, hb2, Nat.le_of_lt (sizeBig (by omega)), fun en => ?_, fun _ en => ?_, fun _ _ q hq1 => ?_⟩
      · have hbb : SqT K H b2 (ys1 ++ ys2) := by rw [en]; exact hb2
        refine ⟨_, rfl, ⟨_, hbb⟩, fun D hD => ?_⟩
        refine lc_tup (K := K) (a := b2) (xs := ys1 ++ ys2) (fun i H' => Same H H' ∧ ∃ us, H' D = some (.lst us) ∧ us.length ≤ i ∧ Paired (fun x e => Dp K H x (exD e)) us (((e.2 ++ l.2).take i).filterMap valE)) ⟨same_new hD, [], upd_same, Nat.le_refl _, .nil⟩ (fun i H' _ h' => SqT.same h'.1 hbb) ?_ ?_
        · rintro i z H2 hz ⟨s2, us, eD, lu, pu⟩
          obtain ⟨g2, hg, hgd⟩ := Paired.at pal hz
          have hi : i < (ys1 ++ ys2).length := (List.getElem?_eq_some_iff.mp hz).1
          rw [List.length_append] at hi
          have fm := filterMap_snoc (f := valE) hg
          cases g2 with
          | place n =>
            have hgd : Dp K H z (.tuple [.str "place", .str n]) := hgd
            obtain ⟨c, zs, rfl, hc, hcd⟩ := hgd.tupInv
            obtain ⟨u, w, rfl, hu, hw⟩ := hcd.two
            rw [hu.strInv] at hc
            refine ⟨c, _, rfl, SqT.same (s0.trans s2) hc, rfl, _, _, rfl, _, _, rfl, rfl, rfl, ?_⟩
            refine ⟨_, rfl, rfl, _, rfl, iteE (by decide +kernel) ?_⟩
            exact ⟨s2, us, eD, by omega, by rw [fm]; show Paired _ us (_ ++ []); rw [List.append_nil]; exact pu⟩
          | value e =>
            have hgd : Dp K H z (.tuple [.str "value", exD e]) := hgd
            obtain ⟨c, zs, rfl, hc, hcd⟩ := hgd.tupInv
            obtain ⟨u, w, rfl, hu, hw⟩ := hcd.two
            rw [hu.strInv] at hc
            refine ⟨c, _, rfl, SqT.same (s0.trans s2) hc, rfl, _, _, rfl, _, _, rfl, rfl, rfl, ?_⟩
            refine ⟨_, rfl, rfl, _, rfl, iteS rfl ?_⟩
            refine ⟨_, rfl, _, eD, sizeBig (by omega), fun c o z => ?_, _, upd_same, by rw [List.length_append]; show us.length + 1 ≤ _; omega, ?_⟩
            · rw [upd_ne (ne_of_none z hD)]
              exact s2 _ _ z
            · rw [fm]
              exact Paired.snoc pu hw
        · rintro H2 ⟨s2, us, eD, lu, pu⟩
          rw [ll, List.take_length] at pu
          exact k D us H2 (s0.trans s2) (none_same s0 hD) eD (Paired.mapP pu fun _ _ z => z.same (s0.trans s2))
      · have hbb : SqT K H b1 (ys1 ++ ys2) := by rw [en, List.append_nil]; exact hb1
        refine ⟨_, rfl, ⟨_, hbb⟩, fun D hD => ?_⟩
        refine lc_tup (K := K) (a := b1) (xs := ys1 ++ ys2) (fun i H' => Same H H' ∧ ∃ us, H' D = some (.lst us) ∧ us.length ≤ i ∧ Paired (fun x e => Dp K H x (exD e)) us (((e.2 ++ l.2).take i).filterMap valE)) ⟨same_new hD, [], upd_same, Nat.le_refl _, .nil⟩ (fun i H' _ h' => SqT.same h'.1 hbb) ?_ ?_
        · rintro i z H2 hz ⟨s2, us, eD, lu, pu⟩
          obtain ⟨g2, hg, hgd⟩ := Paired.at pal hz
          have hi : i < (ys1 ++ ys2).length := (List.getElem?_eq_some_iff.mp hz).1
          rw [List.length_append] at hi
          have fm := filterMap_snoc (f := valE) hg
          cases g2 with
          | place n =>
            have hgd : Dp K H z (.tuple [.str "place", .str n]) := hgd
            obtain ⟨c, zs, rfl, hc, hcd⟩ := hgd.tupInv
            obtain ⟨u, w, rfl, hu, hw⟩ := hcd.two
            rw [hu.strInv] at hc
            refine ⟨c, _, rfl, SqT.same (s0.trans s2) hc, rfl, _, _, rfl, _, _, rfl, rfl, rfl, ?_⟩
            refine ⟨_, rfl, rfl, _, rfl, iteE (by decide +kernel) ?_⟩
            exact ⟨s2, us, eD, by omega, by rw [fm]; show Paired _ us (_ ++ []); rw [List.append_nil]; exact pu⟩
          | value e =>
            have hgd : Dp K H z (.tuple [.str "value", exD e]) := hgd
            obtain ⟨c, zs, rfl, hc, hcd⟩ := hgd.tupInv
            obtain ⟨u, w, rfl, hu, hw⟩ := hcd.two
            rw [hu.strInv] at hc
            refine ⟨c, _, rfl, SqT.same (s0.trans s2) hc, rfl, _, _, rfl, _, _, rfl, rfl, rfl, ?_⟩
            refine ⟨_, rfl, rfl, _, rfl, iteS rfl ?_⟩
            refine ⟨_, rfl, _, eD, sizeBig (by omega), fun c o z => ?_, _, upd_same, by rw [List.length_append]; show us.length + 1 ≤ _; omega, ?_⟩
            · rw [upd_ne (ne_of_none z hD)]
              exact s2 _ _ z
            · rw [fm]
              exact Paired.snoc pu hw
        · rintro H2 ⟨s2, us, eD, lu, pu⟩
          rw [ll, List.take_length] at pu
          exact k D us H2 (s0.trans s2) (none_same s0 hD) eD (Paired.mapP pu fun _ _ z => z.same (s0.trans s2))
      · have s1 := same_new (o := .tup (ys1 ++ ys2)) hq1
        have hbb : SqT K (upd H q (.tup (ys1 ++ ys2))) q (ys1 ++ ys2) := SqT.of upd_same
        refine ⟨_, rfl, ⟨_, hbb⟩, fun D hD => ?_⟩
        refine lc_tup (K := K) (a := q) (xs := ys1 ++ ys2) (fun i H' => Same (upd H q (.tup (ys1 ++ ys2))) H' ∧ ∃ us, H' D = some (.lst us) ∧ us.length ≤ i ∧ Paired (fun x e => Dp K H x (exD e)) us (((e.2 ++ l.2).take i).filterMap valE)) ⟨same_new hD, [], upd_same, Nat.le_refl _, .nil⟩ (fun i H' _ h' => SqT.same h'.1 hbb) ?_ ?_
        · rintro i z H2 hz ⟨s2, us, eD, lu, pu⟩
          obtain ⟨g2, hg, hgd⟩ := Paired.at pal hz
          have hi : i < (ys1 ++ ys2).length := (List.getElem?_eq_some_iff.mp hz).1
          rw [List.length_append] at hi
          have fm := filterMap_snoc (f := valE) hg
          cases g2 with
          | place n =>
            have hgd : Dp K H z (.tuple [.str "place", .str n]) := hgd
            obtain ⟨c, zs, rfl, hc, hcd⟩ := hgd.tupInv
            obtain ⟨u, w, rfl, hu, hw⟩ := hcd.two
            rw [hu.strInv] at hc
            refine ⟨c, _, rfl, SqT.same (s1.trans s2) hc, rfl, _, _, rfl, _, _, rfl, rfl, rfl, ?_⟩
            refine ⟨_, rfl, rfl, _, rfl, iteE (by decide +kernel) ?_⟩
            exact ⟨s2, us, eD, by omega, by rw [fm]; show Paired _ us (_ ++ []); rw [List.append_nil]; exact pu⟩
          | value e =>
            have hgd : Dp K H z (.tuple [.str "value", exD e]) := hgd
            obtain ⟨c, zs, rfl, hc, hcd⟩ := hgd.tupInv
            obtain ⟨u, w, rfl, hu, hw⟩ := hcd.two
            rw [hu.strInv] at hc
            refine ⟨c, _, rfl, SqT.same (s1.trans s2) hc, rfl, _, _, rfl, _, _, rfl, rfl, rfl, ?_⟩
            refine ⟨_, rfl, rfl, _, rfl, iteS rfl ?_⟩
            refine ⟨_, rfl, _, eD, sizeBig (by omega), fun c o z => ?_, _, upd_same, by rw [List.length_append]; show us.length + 1 ≤ _; omega, ?_⟩
            · rw [upd_ne (ne_of_none z hD)]
              exact s2 _ _ z
            · rw [fm]
              exact Paired.snoc pu hw
        · rintro H2 ⟨s2, us, eD, lu, pu⟩
          rw [ll, List.take_length] at pu
          exact k D us H2 (s1.trans s2) (none_same s1 hD) eD (Paired.mapP pu fun _ _ z => z.same (s1.trans s2))
    all_goals
      first
        | obtain ⟨_, rfl, _⟩ := DpAll.one hd
        | obtain ⟨_, _, rfl, _, _⟩ := DpAll.two hd
        | obtain ⟨_, _, _, rfl, _⟩ := DpAll.three hd
      repeat (first | refine case_len hq (Nat.ne_of_beq_eq_false rfl) ?_ | refine case_word hq rfl (by decide +kernel) ?_)
      refine ⟨(by show 0 ≤ sizeLine; decide), fun q hq1 => ?_⟩
      exact k q _ _ (same_new hq1) hq1 upd_same .nil
end

/-! ### fits -/
abbrev sFits : Stmt := topS 58
abbrev NFits : List Str := ["tree", "callee", "args", "name", "params", "block", "one", "by_place", "word"]
abbrev PFits : List Str := ["tree", "callee", "args"]
theorem scFits : FnScope NFits PFits (defScope sFits) := ⟨rfl, rfl, rfl, by decide +kernel, rfl, by decide +kernel, by decide +kernel⟩
def isPl : Arg → Bool
  | .place _ => true
  | _ => false
def Fit (t : Tr) (callee : Str) (as : List Arg) : Prop := (∃ f ∈ t.fns, f.name = callee) ∧ ∀ f ∈ t.fns, f.name = callee → f.ps.map Prod.snd = as.map isPl
def spFits (K : PySem.W.Frag) : Sp := fun vs H Q _ => ∃ (v u : V) (t : Tr) (c : Str) (as : List Arg), vs = [v, .str c, u] ∧ Dp K H v (trD t) ∧ Dp K H u (.tuple (as.map argD)) ∧ as.length ≤ 20000 ∧ Fit t c as ∧ ∀ H', Same H H' → Q (.bl true) H'
theorem shaped_bools (l : List Bool) : SeqAt.shaped (.list (l.map PyData.bool)) = true := by
  have h1 : ∀ l : List Bool, PyData.canLayAll0 (l.map PyData.bool) = true := fun l => by
    induction l with
    | nil => simp [PyData.canLayAll0]
    | cons b r ih => simp only [List.map_cons, PyData.canLayAll0, PyData.canLay0, Bool.true_and]; exact ih
  have h2 : ∀ l : List Bool, PyData.depthAll (l.map PyData.bool) = 0 := fun l => by
    induction l with
    | nil => simp [PyData.depthAll]
    | cons b r ih => simp only [List.map_cons, PyData.depthAll, PyData.depth, ih]; rfl
  unfold SeqAt.shaped
  simp only [PyData.canLay0, PyData.depth, h1, h2, Bool.true_and]
  decide
theorem eqv_bools (l : List Bool) : PyData.eqv (.list (l.map PyData.bool)) (.list (l.map PyData.bool)) = true := SeqAt.eqv_refl _ (by
  have h := shaped_bools l
  unfold SeqAt.shaped at h
  rw [Bool.and_eq_true] at h
  exact h.1)
theorem dp_bools {K : PySem.W.Frag} {H : Hp} : ∀ l : List Bool, DpAll K H (l.map V.bl) (l.map PyData.bool)
  | [] => .nil
  | b :: r => .cons (.bl b) (dp_bools r)
section
variable {P : Program} {w : World} {K : PySem.W.Frag} {mg : Str → Option Value} {base : Heap}
theorem ok_Fits {f : Addr} {fd : FuncData} (F : Fun K "fits" "fits" sFits f fd) : FnOk P w K mg base CX0 1 f fd PFits (spFits K) := by
  refine F.ok scFits (fun vs H Q E h => ?_) (fun cdv A outer s H vs Q E hr h => ?_)
  · obtain ⟨q, l, _, _, _, rfl, _⟩ := h
    rfl
  · obtain ⟨v, u, t, cl, as, rfl, hv, hu, la, ⟨⟨g0, hg0, hg1⟩, uni⟩, k⟩ := h
    refine ⟨_, (pss_cons (ps_for PassesOwn.never rfl (pi_tup (pe_ix (r := rIxT K) ix_tup (pv 0) pe_int (fun _ _ => rfl))) (pg_tup (by rfl) (pgs_cons (pg_name (i := 3) scFits.nd rfl (Or.inl rfl)) (pgs_cons (pg_name (i := 4) scFits.nd rfl (Or.inl rfl)) (pgs_cons (pg_name (i := 5) scFits.nd rfl (Or.inl rfl)) pgs_nil))))
  (pss_one (ps_if (pt_cmpR op_eq (pv 3) (pv 1) (nomark _))
  (pss_one (ps_ret (pe_cmpR (op_eqD hr.units) (pe_lc (own := [("one", 6), ("by_place", 7)]) (g := gTup K 2 (gCons (gName 6) (gCons (gName 7) gNil))) (tt := tYes) rfl scFits.nd (pi_tup (pv 4)) (blkOk_by (own := [("one", 6), ("by_place", 7)]) (N := NFits) (sc := (defScope sFits)) (by decide +kernel)) (fun _ _ _ _ _ => (pg_tup (by rfl) (pgs_cons (pg_name (i := 6) scFits.nd rfl (Or.inl rfl)) (pgs_cons (pg_name (i := 7) scFits.nd rfl (Or.inl rfl)) pgs_nil)))) (fun _ _ _ _ _ => pts_nil) (fun _ _ _ _ _ => (pv 7))) (pe_lc (own := [("word", 8), ("one", 6)]) (g := gTup K 2 (gCons (gName 8) (gCons (gName 6) gNil))) (tt := tYes) rfl scFits.nd (pi_tup (pv 2)) (blkOk_by (own := [("word", 8), ("one", 6)]) (N := NFits) (sc := (defScope sFits)) (by decide +kernel)) (fun _ _ _ _ _ => (pg_tup (by rfl) (pgs_cons (pg_name (i := 8) scFits.nd rfl (Or.inl rfl)) (pgs_cons (pg_name (i := 6) scFits.nd rfl (Or.inl rfl)) pgs_nil)))) (fun _ _ _ _ _ => pts_nil) (fun _ _ _ _ _ => (pe_cmpR op_eq (pv 8) pe_str (nomark _)))) (nomark _))))
  pss_nil)))
  (pss_one (ps_ret pe_bl))), ?_⟩
    have hv : Dp K H v (.tuple [nmD t.names, nmD t.kinds, .tuple (t.keeps.map exD), .tuple (t.fns.map fnD)]) := hv
    obtain ⟨a, xs, rfl, hq, hd⟩ := hv.tupInv
    obtain ⟨x0, x1, x2, uu, rfl, _, _, _, hx⟩ := hd.four
    obtain ⟨g, gs, rfl, hg, hgd⟩ := hx.tupInv
    have pf := DpAll.map hgd
    obtain ⟨b, ys, rfl, hb, hbd⟩ := hu.tupInv
    have pa := DpAll.map hbd
    have ly : ys.length = as.length := Paired.length pa
    refine ⟨_, rfl, a, _, _, _, rfl, rfl, hq, rfl, g, rfl, ⟨_, hg⟩, ?_⟩
    refine for_tup (K := K) (a := g) (xs := gs) (fun j σ H' => (∃ i0, j ≤ i0 ∧ t.fns[i0]? = some g0) ∧ Same H H' ∧ ∃ x3 x4 x5 : Option V, σ = [some (.ref a), some (.str cl), some (.ref b), x3, x4, x5, none, none, none]) ⟨?_, Same.refl _, none, none, none, rfl⟩ (fun j σ H' _ h' => SqT.same h'.2.1 hg) ?_ ?_
    · obtain ⟨i0, hi0⟩ := List.mem_iff_getElem?.mp hg0
      exact ⟨i0, Nat.zero_le _, hi0⟩
    · rintro j x σ H1 hx ⟨⟨i0, hj, hi0⟩, s1, x3, x4, x5, rfl⟩
      obtain ⟨fn, hfn, hfd⟩ := Paired.at pf hx
      have hfd : Dp K H x (.tuple [.str fn.name, .tuple (fn.ps.map prD), blD fn.b]) := hfd
      obtain ⟨c, zs, rfl, hc, hcd⟩ := hfd.tupInv
      obtain ⟨u1, u2, u3, rfl, h1, h2, h3⟩ := hcd.three
      obtain ⟨p, ps, rfl, hp, hpd⟩ := h2.tupInv
      have pp := DpAll.map hpd
      have lp : ps.length = fn.ps.length := Paired.length pp
      rw [h1.strInv] at hc
      refine ⟨c, _, rfl, SqT.same s1 hc, rfl, _, _, rfl, _, _, rfl, _, _, rfl, rfl, ?_⟩
      refine ⟨_, rfl, _, rfl, rfl, _, rfl, ?_⟩
      by_cases e : fn.name = cl
      · refine iteS (decide_eq_true (by rw [e])) ?_
        have ef := uni fn (List.mem_of_getElem? hfn) e
        have lf : fn.ps.length = as.length := by
          have := congrArg List.length ef
          simpa using this
        refine ⟨_, rfl, p, rfl, ⟨_, SqT.same s1 hp⟩, fun D hD => ?_⟩
        refine lc_tup (K := K) (a := p) (xs := ps) (fun i H' => Same H1 H' ∧ H' D = some (.lst (((fn.ps.take i).map Prod.snd).map V.bl))) ⟨same_new hD, upd_same⟩ (fun i H' _ h' => SqT.same (s1.trans h'.1) hp) ?_ ?_
        · rintro i z H2 hz ⟨s2, eD⟩
          obtain ⟨pr, ht, htd⟩ := Paired.at pp hz
          have htd : Dp K H z (.tuple [.str pr.1, .bool pr.2]) := htd
          obtain ⟨d, zs, rfl, hd, hdd⟩ := htd.tupInv
          obtain ⟨u, w, rfl, hu, hw⟩ := hdd.two
          rw [hu.strInv, Dp.blInv hw] at hd
          have hi : i < ps.length := (List.getElem?_eq_some_iff.mp hz).1
          refine ⟨d, _, rfl, SqT.same (s1.trans s2) hd, rfl, _, _, rfl, _, _, rfl, rfl, rfl, _, rfl, _, eD, smallX (by rw [List.length_map, List.length_map, List.length_take]; omega), fun c o z => ?_, ?_⟩
          · rw [upd_ne (ne_of_none z hD)]
            exact s2 _ _ z
          · rw [upd_same, take_snoc ht, List.map_append, List.map_append]
            rfl
        · rintro H2 ⟨s2, eD⟩
          rw [lp, List.take_length] at eD
          have s3 := s1.trans s2
          refine ⟨_, rfl, b, rfl, ⟨_, SqT.same s3 hb⟩, fun D2 hD2 => ?_⟩
          refine lc_tup (K := K) (a := b) (xs := ys) (fun i H' => Same H2 H' ∧ H' D2 = some (.lst (((as.take i).map isPl).map V.bl))) ⟨same_new hD2, upd_same⟩ (fun i H' _ h' => SqT.same (s3.trans h'.1) hb) ?_ ?_
          · rintro i z H4 hz ⟨s4, eD2⟩
            obtain ⟨g2, hg, hgd⟩ := Paired.at pa hz
            have hi : i < ys.length := (List.getElem?_eq_some_iff.mp hz).1
            have fin : (((as.take i).map isPl).map V.bl).length < sizeLine ∧ Same H2 (upd H4 D2 (.lst (((as.take i).map isPl).map V.bl ++ [.bl (isPl g2)]))) ∧ upd H4 D2 (.lst (((as.take i).map isPl).map V.bl ++ [.bl (isPl g2)])) D2 = some (.lst (((as.take (i + 1)).map isPl).map V.bl)) := by
              refine ⟨smallX (by rw [List.length_map, List.length_map, List.length_take]; omega), fun c o z => ?_, ?_⟩
              · rw [upd_ne (ne_of_none z hD2)]
                exact s4 _ _ z
              · rw [upd_same, take_snoc hg, List.map_append, List.map_append]
                rfl
            cases g2 with
            | place n =>
              have hgd : Dp K H z (.tuple [.str "place", .str n]) := hgd
              obtain ⟨d, zs, rfl, hd, hdd⟩ := hgd.tupInv
              obtain ⟨u, w, rfl, hu, hw⟩ := hdd.two
              rw [hu.strInv] at hd
              refine ⟨d, _, rfl, SqT.same (s3.trans s4) hd, rfl, _, _, rfl, _, _, rfl, rfl, rfl, _, rfl, rfl, _, eD2, fin.1, ?_⟩
              rw [decide_eq_true rfl]
              exact fin.2
            | value n =>
              have hgd : Dp K H z (.tuple [.str "value", exD n]) := hgd
              obtain ⟨d, zs, rfl, hd, hdd⟩ := hgd.tupInv
              obtain ⟨u, w, rfl, hu, hw⟩ := hdd.two
              rw [hu.strInv] at hd
              refine ⟨d, _, rfl, SqT.same (s3.trans s4) hd, rfl, _, _, rfl, _, _, rfl, rfl, rfl, _, rfl, rfl, _, eD2, fin.1, ?_⟩
              rw [decide_eq_false (by decide +kernel)]
              exact fin.2
          · rintro H4 ⟨s4, eD2⟩
            rw [ly, List.take_length, ← ef] at eD2
            refine ⟨_, _, .lst (SqL.of (s4 _ _ eD)) (dp_bools _), .lst (SqL.of eD2) (dp_bools _), shaped_bools _, shaped_bools _, ?_⟩
            rw [eqv_bools]
            exact k _ (s3.trans s4)
      · refine iteE (decide_eq_false (fun z => e (by injection z))) ?_
        refine ⟨⟨i0, ?_, hi0⟩, s1, _, _, _, rfl⟩
        rcases Nat.lt_or_ge j i0 with z | z
        · exact z
        · exfalso
          have : j = i0 := by omega
          subst this
          rw [hi0] at hfn
          injection hfn with hfn
          exact e (by rw [← hfn]; exact hg1)
    · rintro σ H1 ⟨⟨i0, hj, hi0⟩, s1, x3, x4, x5, rfl⟩
      exfalso
      have := (List.getElem?_eq_some_iff.mp hi0).1
      have := Paired.length pf
      omega
end

/-! ### two `for`s in a comprehension -/
theorem walkB {K : PySem.W.Frag} {a : Addr} {xs : List V} {B : (Hp → Prop) → V → Hp → Prop} {H0 : Hp} {Qd : Hp → Prop} (Pv : Nat → Hp → Prop) (h0 : Pv 0 H0) (hl : ∀ i H, i ≤ xs.length → Pv i H → SqT K H a xs)
    (hs : ∀ i x H, xs[i]? = some x → Pv i H → B (Pv (i + 1)) x H) (hd : ∀ H, Pv xs.length H → Qd H) :
    ∃ W : Nat → Nat → Hp → Prop, (∃ m, W 0 m H0) ∧ ∀ i m H, W i m H →
      ((Itt K a).stop i H ∧ Qd H) ∨ ((Itt K a).go i H ∧ ∃ Nx : Hp → Prop, (∀ H', Nx H' → ∃ m', m' < m ∧ W (i + 1) m' H') ∧ ∀ x H', (Itt K a).yld i H x H' → B Nx x H') := by
  refine ⟨fun i m H => m = xs.length - i ∧ i ≤ xs.length ∧ Pv i H, ⟨xs.length, by simp, Nat.zero_le _, h0⟩, ?_⟩
  rintro i m H ⟨rfl, hi, p⟩
  have q := hl i H hi p
  by_cases hlt : i < xs.length
  · refine .inr ⟨⟨xs, xs[i], q, by simp [hlt]⟩, Pv (i + 1), fun H' p' => ⟨xs.length - (i + 1), by omega, rfl, hlt, p'⟩, fun x H' y => ?_⟩
    obtain ⟨e, y⟩ := y
    subst e
    exact hs i x _ (y xs q) p
  · have e : i = xs.length := by omega
    subst e
    exact .inl ⟨⟨xs, q, Nat.le_refl _⟩, hd H p⟩

/-! ### named_in -/
abbrev sNmI : Stmt := topS 57
abbrev NNmI : List Str := ["statement", "target", "expression", "name", "factor", "callee", "args", "kinds", "kind", "block", "handlers", "final", "words", "inner", "names", "enter", "leave", "found"]
abbrev PNmI : List Str := ["statement"]
theorem scNmI : FnScope NNmI PNmI (defScope sNmI) := ⟨rfl, rfl, rfl, by decide +kernel, rfl, by decide +kernel, by decide +kernel⟩
def wv : Str := "variable"
def wf : Str := "function"
def wk : Str := "kind"
def namedS : St → List (Str × Str)
  | .set _ e => e.ts.map fun p => (wv, p.1)
  | .ret e => e.ts.map fun p => (wv, p.1)
  | .call _ g as => (wf, g) :: (argsN as).map fun n => (wv, n)
  | .risk ks => ks.map fun n => (wk, n)
  | .raise k => [(wk, k)]
  | .try_ _ hs _ => hs.flatMap fun h => h.ks.map fun n => (wk, n)
  | .undo ns _ => ns.map fun n => (wv, n)
  | .with_ e l ks _ => (((wf, e.1) :: (argsN e.2).map fun n => (wv, n)) ++ ((wf, l.1) :: (argsN l.2).map fun n => (wv, n))) ++ ks.map fun n => (wk, n)
  | _ => []
def rkS : St → Nat
  | .with_ _ _ _ _ => 2
  | _ => 1
def PrAt (K : PySem.W.Frag) (H : Hp) (x : V) (p : Str × Str) : Prop := ∃ a, x = .ref a ∧ SqT K H a [.str p.1, .str p.2]
theorem PrAt.same {K : PySem.W.Frag} {H H' : Hp} (s : Same H H') {x : V} {p : Str × Str} (h : PrAt K H x p) : PrAt K H' x p := let ⟨a, e, q⟩ := h; ⟨a, e, SqT.same s q⟩
def spNmI (K : PySem.W.Frag) (n : Nat) : Sp := fun vs H Q _ => ∃ (v : V) (s : St), vs = [v] ∧ Dp K H v (stD s) ∧ okS s ∧ rkS s ≤ n ∧ (namedS s).length ≤ 20000 ∧ ∀ (q : Addr) (xs : List V) (H' : Hp), Same H H' → H q = none → H' q = some (.lst xs) → Paired (PrAt K H') xs (namedS s) → Q (.ref q) H'
section
variable {P : Program} {w : World} {K : PySem.W.Frag} {mg : Str → Option Value} {base : Heap}
theorem ok_NmI {f : Addr} {fd : FuncData} (F : Fun K "named_in" "named_in" sNmI f fd) (GA : Has P w K mg base CX0 1 "names_of_args" PNoA (spNoA K)) (m : mg "named_in" = some (.ref f)) (kp : PySem.W.keepIn K (.ref f) = true) (bd : Binds K fd PNmI []) : ∀ n, FnOk P w K mg base CX0 (1 + n) f fd PNmI (spNmI K n) := by
  intro n
  induction n with
  | zero => exact ⟨fun vs H Q E h => by obtain ⟨_, s, _, _, _, h, _⟩ := h; cases s <;> exact absurd h (by simp [rkS]), fun _ _ _ _ _ _ _ _ _ _ _ _ _ h => by obtain ⟨_, s, _, _, _, h, _⟩ := h; cases s <;> exact absurd h (by simp [rkS])⟩
  | succ n ih =>
  have GS : Has P w K mg base CX0 (1 + n) "named_in" PNmI (spNmI K n) := ⟨f, fd, ih, m, kp, bd⟩
  refine F.ok scNmI (fun vs H Q E h => ?_) (fun cdv A outer s H vs Q E hr h => ?_)
  · obtain ⟨q, l, rfl, _⟩ := h
    rfl
  · obtain ⟨v, st, rfl, hv, ok, rk, tot, k⟩ := h
    have hr1 := hr.mono (j := 1) (show 1 ≤ 1 + n by omega)
    refine ⟨_, (pss_one (ps_match (pv 0) (pcs_cons scNmI.nd (pm_seq rfl (pms_cons pm_str (pms_cons (pm_as (i := 1) rfl (Or.inl rfl)) (pms_cons (pm_as (i := 2) rfl (Or.inl rfl)) pms_nil))))
  (pss_one (ps_ret (pe_lc (own := [("name", 3), ("factor", 4)]) (g := gTup K 2 (gCons (gName 3) (gCons (gName 4) gNil))) (tt := tYes) rfl scNmI.nd (pi_tup (pe_ix (r := rIxT K) ix_tup (pv 2) pe_int (fun _ _ => rfl))) (blkOk_by (own := [("name", 3), ("factor", 4)]) (N := NNmI) (sc := (defScope sNmI)) (by decide +kernel)) (fun _ _ _ _ _ => (pg_tup (by rfl) (pgs_cons (pg_name (i := 3) scNmI.nd rfl (Or.inl rfl)) (pgs_cons (pg_name (i := 4) scNmI.nd rfl (Or.inl rfl)) pgs_nil)))) (fun _ _ _ _ _ => pts_nil) (fun _ _ _ _ _ => (pe_tup (pa_cons pe_str (pa_cons (pv 3) pa_nil)))))))
  (pcs_cons scNmI.nd (pm_seq rfl (pms_cons pm_str (pms_cons (pm_as (i := 2) rfl (Or.inl rfl)) pms_nil)))
  (pss_one (ps_ret (pe_lc (own := [("name", 3), ("factor", 4)]) (g := gTup K 2 (gCons (gName 3) (gCons (gName 4) gNil))) (tt := tYes) rfl scNmI.nd (pi_tup (pe_ix (r := rIxT K) ix_tup (pv 2) pe_int (fun _ _ => rfl))) (blkOk_by (own := [("name", 3), ("factor", 4)]) (N := NNmI) (sc := (defScope sNmI)) (by decide +kernel)) (fun _ _ _ _ _ => (pg_tup (by rfl) (pgs_cons (pg_name (i := 3) scNmI.nd rfl (Or.inl rfl)) (pgs_cons (pg_name (i := 4) scNmI.nd rfl (Or.inl rfl)) pgs_nil)))) (fun _ _ _ _ _ => pts_nil) (fun _ _ _ _ _ => (pe_tup (pa_cons pe_str (pa_cons (pv 3) pa_nil)))))))
  (pcs_cons scNmI.nd (pm_seq rfl (pms_cons pm_str (pms_cons (pm_as (i := 1) rfl (Or.inl rfl)) (pms_cons (pm_as (i := 5) rfl (Or.inl rfl)) (pms_cons (pm_as (i := 6) rfl (Or.inl rfl)) pms_nil)))))
  (pss_one (ps_ret (pe_op op_cat (pe_lst (pa_cons (pe_tup (pa_cons pe_str (pa_cons (pv 5) pa_nil))) pa_nil)) (pe_lc (own := [("name", 3)]) (g := gName 3) (tt := tYes) rfl scNmI.nd (pi_list (pe_callH GA hr1 rfl pass0 (pa_cons (pv 6) pa_nil))) (blkOk_by (own := [("name", 3)]) (N := NNmI) (sc := (defScope sNmI)) (by decide +kernel)) (fun _ _ _ _ _ => (pg_name (i := 3) scNmI.nd rfl (Or.inl rfl))) (fun _ _ _ _ _ => pts_nil) (fun _ _ _ _ _ => (pe_tup (pa_cons pe_str (pa_cons (pv 3) pa_nil))))))))
  (pcs_cons scNmI.nd (pm_seq rfl (pms_cons pm_str (pms_cons (pm_as (i := 7) rfl (Or.inl rfl)) pms_nil)))
  (pss_one (ps_ret (pe_lc (own := [("name", 3)]) (g := gName 3) (tt := tYes) rfl scNmI.nd (pi_tup (pv 7)) (blkOk_by (own := [("name", 3)]) (N := NNmI) (sc := (defScope sNmI)) (by decide +kernel)) (fun _ _ _ _ _ => (pg_name (i := 3) scNmI.nd rfl (Or.inl rfl))) (fun _ _ _ _ _ => pts_nil) (fun _ _ _ _ _ => (pe_tup (pa_cons pe_str (pa_cons (pv 3) pa_nil)))))))
  (pcs_cons scNmI.nd (pm_seq rfl (pms_cons pm_str (pms_cons (pm_as (i := 8) rfl (Or.inl rfl)) pms_nil)))
  (pss_one (ps_ret (pe_lst (pa_cons (pe_tup (pa_cons pe_str (pa_cons (pv 8) pa_nil))) pa_nil))))
  (pcs_cons scNmI.nd (pm_seq rfl (pms_cons pm_str (pms_cons (pm_as (i := 9) rfl (Or.inl rfl)) (pms_cons (pm_as (i := 10) rfl (Or.inl rfl)) (pms_cons (pm_as (i := 11) rfl (Or.inl rfl)) pms_nil)))))
  (pss_one (ps_ret (pe_lc2 (own := [("words", 12), ("inner", 13), ("name", 3)]) (vs1 := [3]) (wi1 := iTup K (tVar 12)) (g := gTup K 2 (gCons (gName 12) (gCons (gName 13) gNil))) (g1 := gName 3) (tt := tYes) (tt1 := tYes) rfl scNmI.nd (pi_tup (pv 10)) (blkOk_by (own := [("words", 12), ("inner", 13), ("name", 3)]) (N := NNmI) (sc := (defScope sNmI)) (by decide +kernel)) (by decide) (fun _ _ _ _ _ => (pg_tup (by rfl) (pgs_cons (pg_name (i := 12) scNmI.nd rfl (Or.inl rfl)) (pgs_cons (pg_name (i := 13) scNmI.nd rfl (Or.inl rfl)) pgs_nil)))) (fun _ _ _ _ _ => pts_nil) (fun _ _ _ _ _ => (pi_tup (pv 12))) (fun _ _ _ _ _ => (pg_name (i := 3) scNmI.nd rfl (Or.inl rfl))) (fun _ _ _ _ _ => pts_nil) (fun _ _ _ _ _ => (pe_tup (pa_cons pe_str (pa_cons (pv 3) pa_nil)))))))
  (pcs_cons scNmI.nd (pm_seq rfl (pms_cons pm_str (pms_cons (pm_as (i := 14) rfl (Or.inl rfl)) (pms_cons (pm_as (i := 9) rfl (Or.inl rfl)) pms_nil))))
  (pss_one (ps_ret (pe_lc (own := [("name", 3)]) (g := gName 3) (tt := tYes) rfl scNmI.nd (pi_tup (pv 14)) (blkOk_by (own := [("name", 3)]) (N := NNmI) (sc := (defScope sNmI)) (by decide +kernel)) (fun _ _ _ _ _ => (pg_name (i := 3) scNmI.nd rfl (Or.inl rfl))) (fun _ _ _ _ _ => pts_nil) (fun _ _ _ _ _ => (pe_tup (pa_cons pe_str (pa_cons (pv 3) pa_nil)))))))
  (pcs_cons scNmI.nd (pm_seq rfl (pms_cons pm_str (pms_cons (pm_as (i := 15) rfl (Or.inl rfl)) (pms_cons (pm_as (i := 16) rfl (Or.inl rfl)) (pms_cons (pm_as (i := 7) rfl (Or.inl rfl)) (pms_cons (pm_as (i := 9) rfl (Or.inl rfl)) pms_nil))))))
  (pss_cons (ps_set (i := 17) scNmI.nd rfl (Or.inl rfl) (pe_op op_cat (pe_callH GS hr rfl pass0 (pa_cons (pe_tup (pa_cons pe_str (pa_cons pe_non (pa_cons (pe_ix (r := rIxT K) ix_tup (pv 15) pe_int (fun _ _ => rfl)) (pa_cons (pe_ix (r := rIxT K) ix_tup (pv 15) pe_int (fun _ _ => rfl)) pa_nil))))) pa_nil)) (pe_callH GS hr rfl pass0 (pa_cons (pe_tup (pa_cons pe_str (pa_cons pe_non (pa_cons (pe_ix (r := rIxT K) ix_tup (pv 16) pe_int (fun _ _ => rfl)) (pa_cons (pe_ix (r := rIxT K) ix_tup (pv 16) pe_int (fun _ _ => rfl)) pa_nil))))) pa_nil))))
  (pss_one (ps_ret (pe_op op_cat (pv 17) (pe_lc (own := [("name", 3)]) (g := gName 3) (tt := tYes) rfl scNmI.nd (pi_tup (pv 7)) (blkOk_by (own := [("name", 3)]) (N := NNmI) (sc := (defScope sNmI)) (by decide +kernel)) (fun _ _ _ _ _ => (pg_name (i := 3) scNmI.nd rfl (Or.inl rfl))) (fun _ _ _ _ _ => pts_nil) (fun _ _ _ _ _ => (pe_tup (pa_cons pe_str (pa_cons (pv 3) pa_nil)))))))))
  (pcs_cons scNmI.nd pm_wild
  (pss_one (ps_ret (pe_lst pa_nil)))
  pcs_nil))))))))))), ?_⟩
    obtain ⟨a, xs, rfl, hq, hd⟩ := stInv hv
    refine ⟨_, rfl, ?_⟩
    cases st <;> simp only [wordS] at hq
    case set g e =>
      obtain ⟨x, y, rfl, h1, h2⟩ := DpAll.two hd
      refine case_hit hq rfl ⟨_, _, rfl, _, _, rfl, ?_⟩
      have he : Dp K H y (.tuple [.int e.c, .tuple (e.ts.map fun p => .tuple [.str p.1, .int p.2])]) := h2
      obtain ⟨z1, zs, rfl, hz, hzd⟩ := he.tupInv
      obtain ⟨w1, w2, rfl, h4, h5⟩ := hzd.two
      obtain ⟨b, ts, rfl, hb, hbd⟩ := h5.tupInv
      have pt := DpAll.map hbd
      have lt : ts.length = e.ts.length := Paired.length pt
      have le : e.ts.length ≤ 20000 := by rw [show namedS _ = e.ts.map fun p => (wv, p.1) from rfl, List.length_map] at tot; exact tot
      refine ⟨_, rfl, z1, _, _, _, rfl, rfl, hz, rfl, b, rfl, ⟨_, hb⟩, fun D hD => ?_⟩
      refine lc_tup (K := K) (a := b) (xs := ts) (fun i H' => Same H H' ∧ ∃ us, H' D = some (.lst us) ∧ us.length = i ∧ Paired (PrAt K H') us ((e.ts.take i).map fun p => (wv, p.1))) ⟨same_new hD, [], upd_same, rfl, .nil⟩ (fun i H' _ h' => SqT.same h'.1 hb) ?_ ?_
      · rintro i z H2 hz ⟨s2, us, eD, lu, pu⟩
        obtain ⟨pr, ht, htd⟩ := Paired.at pt hz
        obtain ⟨c, zs, rfl, hc, hcd⟩ := htd.tupInv
        obtain ⟨u, w, rfl, hu, hw⟩ := hcd.two
        rw [hu.strInv] at hc
        have hi : i < ts.length := (List.getElem?_eq_some_iff.mp hz).1
        refine ⟨c, _, rfl, SqT.same s2 hc, rfl, _, _, rfl, _, _, rfl, rfl, rfl, ?_⟩
        refine ⟨_, rfl, (by show 2 ≤ sizeLine; decide), fun t ht2 => ?_⟩
        have s3 := same_new (o := .tup [.str wv, .str pr.1]) ht2
        have eD3 := s3 _ _ eD
        refine ⟨_, eD3, smallX (by omega), fun c o z => ?_, _, upd_same, by rw [List.length_append, lu]; rfl, ?_⟩
        · rw [upd_ne (ne_of_none z hD)]
          exact s3 _ _ (s2 _ _ z)
        · rw [take_snoc ht, List.map_append]
          have tp := (Tps.of s3).trans (Tps.lst (o := .lst (us ++ [.ref t])) eD3)
          exact Paired.snoc (Paired.mapP pu fun _ _ ⟨a, e, q⟩ => ⟨a, e, tp.sqt q⟩) ⟨t, rfl, (Tps.lst (o := .lst (us ++ [.ref t])) eD3).sqt (SqT.of upd_same)⟩
      · rintro H2 ⟨s2, us, eD, lu, pu⟩
        rw [lt, List.take_length] at pu
        exact k D us H2 s2 hD eD pu
    case ret e =>
      obtain ⟨y, rfl, h2⟩ := DpAll.one hd
      repeat (first | refine case_len hq (Nat.ne_of_beq_eq_false rfl) ?_ | refine case_word hq rfl (by decide +kernel) ?_)
      refine case_hit hq rfl ⟨_, _, rfl, ?_⟩
      have he : Dp K H y (.tuple [.int e.c, .tuple (e.ts.map fun p => .tuple [.str p.1, .int p.2])]) := h2
      obtain ⟨z1, zs, rfl, hz, hzd⟩ := he.tupInv
      obtain ⟨w1, w2, rfl, h4, h5⟩ := hzd.two
      obtain ⟨b, ts, rfl, hb, hbd⟩ := h5.tupInv
      have pt := DpAll.map hbd
      have lt : ts.length = e.ts.length := Paired.length pt
      have le : e.ts.length ≤ 20000 := by rw [show namedS _ = e.ts.map fun p => (wv, p.1) from rfl, List.length_map] at tot; exact tot
      refine ⟨_, rfl, z1, _, _, _, rfl, rfl, hz, rfl, b, rfl, ⟨_, hb⟩, fun D hD => ?_⟩
      refine lc_tup (K := K) (a := b) (xs := ts) (fun i H' => Same H H' ∧ ∃ us, H' D = some (.lst us) ∧ us.length = i ∧ Paired (PrAt K H') us ((e.ts.take i).map fun p => (wv, p.1))) ⟨same_new hD, [], upd_same, rfl, .nil⟩ (fun i H' _ h' => SqT.same h'.1 hb) ?_ ?_
      · rintro i z H2 hz ⟨s2, us, eD, lu, pu⟩
        obtain ⟨pr, ht, htd⟩ := Paired.at pt hz
        obtain ⟨c, zs, rfl, hc, hcd⟩ := htd.tupInv
        obtain ⟨u, w, rfl, hu, hw⟩ := hcd.two
        rw [hu.strInv] at hc
        have hi : i < ts.length := (List.getElem?_eq_some_iff.mp hz).1
        refine ⟨c, _, rfl, SqT.same s2 hc, rfl, _, _, rfl, _, _, rfl, rfl, rfl, ?_⟩
        refine ⟨_, rfl, (by show 2 ≤ sizeLine; decide), fun t ht2 => ?_⟩
        have s3 := same_new (o := .tup [.str wv, .str pr.1]) ht2
        have eD3 := s3 _ _ eD
        refine ⟨_, eD3, smallX (by omega), fun c o z => ?_, _, upd_same, by rw [List.length_append, lu]; rfl, ?_⟩
        · rw [upd_ne (ne_of_none z hD)]
          exact s3 _ _ (s2 _ _ z)
        · rw [take_snoc ht, List.map_append]
          have tp := (Tps.of s3).trans (Tps.lst (o := .lst (us ++ [.ref t])) eD3)
          exact Paired.snoc (Paired.mapP pu fun _ _ ⟨a, e, q⟩ => ⟨a, e, tp.sqt q⟩) ⟨t, rfl, (Tps.lst (o := .lst (us ++ [.ref t])) eD3).sqt (SqT.of upd_same)⟩
      · rintro H2 ⟨s2, us, eD, lu, pu⟩
        rw [lt, List.take_length] at pu
        exact k D us H2 s2 hD eD pu
    case risk ks =>
      obtain ⟨y, rfl, h2⟩ := DpAll.one hd
      repeat (first | refine case_len hq (Nat.ne_of_beq_eq_false rfl) ?_ | refine case_word hq rfl (by decide +kernel) ?_)
      refine case_hit hq rfl ⟨_, _, rfl, ?_⟩
      obtain ⟨b, ts, rfl, hb, hbd⟩ := (h2).tupInv
      have pt := DpAll.map hbd
      have lt : ts.length = ks.length := Paired.length pt
      have le : ks.length ≤ 20000 := by rw [show namedS _ = ks.map fun n => (wk, n) from rfl, List.length_map] at tot; exact tot
      refine ⟨_, rfl, b, rfl, ⟨_, hb⟩, fun D hD => ?_⟩
      refine lc_tup (K := K) (a := b) (xs := ts) (fun i H' => Same H H' ∧ ∃ us, H' D = some (.lst us) ∧ us.length = i ∧ Paired (PrAt K H') us ((ks.take i).map fun n => (wk, n))) ⟨same_new hD, [], upd_same, rfl, .nil⟩ (fun i H' _ h' => SqT.same h'.1 hb) ?_ ?_
      · rintro i z H2 hz ⟨s2, us, eD, lu, pu⟩
        obtain ⟨nm, ht, htd⟩ := Paired.at pt hz
        rw [htd.strInv]
        have hi : i < ts.length := (List.getElem?_eq_some_iff.mp hz).1
        refine ⟨rfl, _, rfl, (by show 2 ≤ sizeLine; decide), fun t ht2 => ?_⟩
        have s3 := same_new (o := .tup [.str wk, .str nm]) ht2
        have eD3 := s3 _ _ eD
        refine ⟨_, eD3, smallX (by omega), fun c o z => ?_, _, upd_same, by rw [List.length_append, lu]; rfl, ?_⟩
        · rw [upd_ne (ne_of_none z hD)]
          exact s3 _ _ (s2 _ _ z)
        · rw [take_snoc ht, List.map_append]
          have tp := (Tps.of s3).trans (Tps.lst (o := .lst (us ++ [.ref t])) eD3)
          exact Paired.snoc (Paired.mapP pu fun _ _ ⟨a, e, q⟩ => ⟨a, e, tp.sqt q⟩) ⟨t, rfl, (Tps.lst (o := .lst (us ++ [.ref t])) eD3).sqt (SqT.of upd_same)⟩
      · rintro H2 ⟨s2, us, eD, lu, pu⟩
        rw [lt, List.take_length] at pu
        exact k D us H2 s2 hD eD pu
    case undo ns p =>
      obtain ⟨y, y2, rfl, h2, _⟩ := DpAll.two hd
      repeat (first | refine case_len hq (Nat.ne_of_beq_eq_false rfl) ?_ | refine case_word hq rfl (by decide +kernel) ?_)
      refine case_hit hq rfl ⟨_, _, rfl, _, _, rfl, ?_⟩
      obtain ⟨b, ts, rfl, hb, hbd⟩ := (h2).tupInv
      have pt := DpAll.map hbd
      have lt : ts.length = ns.length := Paired.length pt
      have le : ns.length ≤ 20000 := by rw [show namedS _ = ns.map fun n => (wv, n) from rfl, List.length_map] at tot; exact tot
      refine ⟨_, rfl, b, rfl, ⟨_, hb⟩, fun D hD => ?_⟩
      refine lc_tup (K := K) (a := b) (xs := ts) (fun i H' => Same H H' ∧ ∃ us, H' D = some (.lst us) ∧ us.length = i ∧ Paired (PrAt K H') us ((ns.take i).map fun n => (wv, n))) ⟨same_new hD, [], upd_same, rfl, .nil⟩ (fun i H' _ h' => SqT.same h'.1 hb) ?_ ?_
      · rintro i z H2 hz ⟨s2, us, eD, lu, pu⟩
        obtain ⟨nm, ht, htd⟩ := Paired.at pt hz
        rw [htd.strInv]
        have hi : i < ts.length := (List.getElem?_eq_some_iff.mp hz).1
        refine ⟨rfl, _, rfl, (by show 2 ≤ sizeLine; decide), fun t ht2 => ?_⟩
        have s3 := same_new (o := .tup [.str wv, .str nm]) ht2
        have eD3 := s3 _ _ eD
        refine ⟨_, eD3, smallX (by omega), fun c o z => ?_, _, upd_same, by rw [List.length_append, lu]; rfl, ?_⟩
        · rw [upd_ne (ne_of_none z hD)]
          exact s3 _ _ (s2 _ _ z)
        · rw [take_snoc ht, List.map_append]
          have tp := (Tps.of s3).trans (Tps.lst (o := .lst (us ++ [.ref t])) eD3)
          exact Paired.snoc (Paired.mapP pu fun _ _ ⟨a, e, q⟩ => ⟨a, e, tp.sqt q⟩) ⟨t, rfl, (Tps.lst (o := .lst (us ++ [.ref t])) eD3).sqt (SqT.of upd_same)⟩
      · rintro H2 ⟨s2, us, eD, lu, pu⟩
        rw [lt, List.take_length] at pu
        exact k D us H2 s2 hD eD pu
    case raise g =>
      obtain ⟨y, rfl, h2⟩ := DpAll.one hd
      rw [h2.strInv] at hq
      repeat (first | refine case_len hq (Nat.ne_of_beq_eq_false rfl) ?_ | refine case_word hq rfl (by decide +kernel) ?_)
      refine case_hit hq rfl ⟨_, _, rfl, ?_⟩
      refine ⟨_, rfl, (by show 2 ≤ sizeLine; decide), fun t ht => ?_⟩
      have s1 := same_new (o := .tup [.str wk, .str g]) ht
      refine ⟨(by show 1 ≤ sizeLine; decide), fun q hq1 => ?_⟩
      have s2 := same_new (o := .lst [.ref t]) hq1
      exact k q _ _ (s1.trans s2) (none_same s1 hq1) upd_same (.cons ⟨t, rfl, SqT.of (s2 _ _ upd_same)⟩ .nil)
    case call g gg as =>
      obtain ⟨x, y, z, rfl, h1, h2, h3⟩ := DpAll.three hd
      rw [h2.strInv] at hq
      repeat (first | refine case_len hq (Nat.ne_of_beq_eq_false rfl) ?_ | refine case_word hq rfl (by decide +kernel) ?_)
      refine case_hit hq rfl ⟨_, _, rfl, _, _, rfl, _, _, rfl, ?_⟩
      have tot2 : (argsN as).length + 1 ≤ 20000 := by rw [show namedS _ = (wf, gg) :: (argsN as).map fun n => (wv, n) from rfl, List.length_cons, List.length_map] at tot; exact tot
      refine ⟨_, rfl, (by show 2 ≤ sizeLine; decide), fun t ht => ?_⟩
      have s1 := same_new (o := .tup [.str wf, .str gg]) ht
      have et : upd H t (.tup [.str wf, .str gg]) t = some (.tup [.str wf, .str gg]) := upd_same
      refine ⟨(by show 1 ≤ sizeLine; decide), fun q hq1 => ?_⟩
      have s2 := same_new (o := .lst [.ref t]) hq1
      have eq0 : upd (upd H t (.tup [.str wf, .str gg])) q (.lst [.ref t]) q = some (.lst [.ref t]) := upd_same
      have s3 := s1.trans s2
      have et2 := s2 _ _ et
      refine ⟨_, rfl, z, as, rfl, h3.same s3, by omega, fun L H2 s4 nL eL => ?_⟩
      have s5 := s3.trans s4
      refine ⟨L, rfl, ⟨_, SqL.of eL⟩, fun D hD => ?_⟩
      refine lc_it (walk_list (K := K) (a := L) (xs := (argsN as).map V.str)) (fun i H' => Same H2 H' ∧ ∃ us, H' D = some (.lst us) ∧ us.length = i ∧ Paired (PrAt K H') us (((argsN as).take i).map fun n => (wv, n))) ⟨same_new hD, [], upd_same, rfl, .nil⟩ (fun i H' _ h' => SqL.of (h'.1 _ _ eL)) ?_ ?_
      · rintro i z H4 H5 hi ⟨s6, us, eD, lu, pu⟩ ⟨rfl, hz⟩
        have hi : i < (argsN as).length := by rwa [List.length_map] at hi
        obtain ⟨nm, hnm⟩ : ∃ nm, (argsN as)[i]? = some nm := ⟨_, List.getElem?_eq_getElem hi⟩
        rw [List.getElem?_map, hnm] at hz
        simp only [Option.map_some, Option.some.injEq] at hz
        subst hz
        refine ⟨rfl, _, rfl, (by show 2 ≤ sizeLine; decide), fun t ht2 => ?_⟩
        have s3 := same_new (o := .tup [.str wv, .str nm]) ht2
        have eD3 := s3 _ _ eD
        refine ⟨_, eD3, smallX (by omega), fun c o z => ?_, _, upd_same, by rw [List.length_append, lu]; rfl, ?_⟩
        · rw [upd_ne (ne_of_none z hD)]
          exact s3 _ _ (s6 _ _ z)
        · rw [take_snoc hnm, List.map_append]
          have tp := (Tps.of s3).trans (Tps.lst (o := .lst (us ++ [.ref t])) eD3)
          exact Paired.snoc (Paired.mapP pu fun _ _ ⟨a, e, q⟩ => ⟨a, e, tp.sqt q⟩) ⟨t, rfl, (Tps.lst (o := .lst (us ++ [.ref t])) eD3).sqt (SqT.of upd_same)⟩
      · rintro H3 ⟨s6, us, eD, lu, pu⟩
        rw [List.length_map, List.take_length] at pu
        rw [List.length_map] at lu
        have s7 := s4.trans s6
        refine ⟨q, D, _, _, rfl, rfl, s7 _ _ eq0, eD, Nat.le_of_lt (sizeBig (by rw [lu]; show 1 + _ ≤ _; omega)), fun r hr => ?_⟩
        have s8 := same_new (o := .lst ([.ref t] ++ us)) hr
        exact k r _ _ (((s3.trans s7)).trans s8) (none_same (s3.trans s7) hr) upd_same (.cons ⟨t, rfl, SqT.of (s8 _ _ (s7 _ _ et2))⟩ (Paired.mapP pu fun _ _ z => z.same s8))
    case try_ p hs q =>
      obtain ⟨x, y, z, rfl, _, h2, _⟩ := DpAll.three hd
      repeat (first | refine case_len hq (Nat.ne_of_beq_eq_false rfl) ?_ | refine case_word hq rfl (by decide +kernel) ?_)
      refine case_hit hq rfl ⟨_, _, rfl, _, _, rfl, _, _, rfl, ?_⟩
      obtain ⟨b, ys, rfl, hb, hdb⟩ := h2.tupInv
      rw [hdsD_map] at hdb
      have ph := hdb.map
      have lh : ys.length = hs.length := Paired.length ph
      refine ⟨_, rfl, b, rfl, ⟨_, hb⟩, fun D hD => ?_⟩
      refine walkB (K := K) (a := b) (xs := ys) (fun i H' => Same H H' ∧ ∃ us, H' D = some (.lst us) ∧ Paired (PrAt K H') us ((hs.take i).flatMap fun h => h.ks.map fun n => (wk, n))) ⟨same_new hD, [], upd_same, .nil⟩ (fun i H' _ h' => SqT.same h'.1 hb) ?_ ?_
      · rintro i z H2 hz ⟨s2, us, eD, pu⟩
        obtain ⟨hdl, hh, hdp⟩ := Paired.at ph hz
        cases hdl with
        | mk ks bb =>
          have hdp : Dp K H z (.tuple [nmD ks, blD bb]) := hdp
          obtain ⟨c, zs, rfl, hc, hcd⟩ := hdp.tupInv
          obtain ⟨u, w, rfl, hu, hw⟩ := hcd.two
          obtain ⟨d, ws, rfl, hd1, hdd⟩ := hu.tupInv
          have pt := DpAll.map hdd
          have lt : ws.length = ks.length := Paired.length pt
          refine ⟨c, _, rfl, SqT.same s2 hc, rfl, _, _, rfl, _, _, rfl, rfl, rfl, ?_⟩
          refine ⟨_, rfl, d, rfl, ⟨_, SqT.same s2 hd1⟩, ?_⟩
          have efl : (hs.take (i + 1)).flatMap (fun h => h.ks.map fun n => (wk, n)) = ((hs.take i).flatMap fun h => h.ks.map fun n => (wk, n)) ++ ks.map fun n => (wk, n) := flat_snoc (f := fun h : Hd => h.ks.map fun n => (wk, n)) hh
          have lfl := flat_len (f := fun h : Hd => h.ks.map fun n => (wk, n)) (l := hs) (i + 1)
          rw [efl, List.length_append, List.length_map, ← Paired.length pu] at lfl
          have tot2 : (hs.flatMap fun h => h.ks.map fun n => (wk, n)).length ≤ 20000 := tot
          refine walkB (K := K) (a := d) (xs := ws) (fun j H' => Same H H' ∧ ∃ vs, H' D = some (.lst vs) ∧ vs.length = us.length + j ∧ Paired (PrAt K H') vs (((hs.take i).flatMap fun h => h.ks.map fun n => (wk, n)) ++ (ks.take j).map fun n => (wk, n))) ⟨s2, us, eD, rfl, by rw [List.take_zero, List.map_nil, List.append_nil]; exact pu⟩ (fun i H' _ h' => SqT.same h'.1 hd1) ?_ ?_
          · rintro j y H3 hy ⟨s3, vs, eD3, lv, pv⟩
            obtain ⟨nm, hnm, hnd⟩ := Paired.at pt hy
            rw [hnd.strInv]
            have hj : j < ws.length := (List.getElem?_eq_some_iff.mp hy).1
            refine ⟨rfl, _, rfl, (by show 2 ≤ sizeLine; decide), fun t ht2 => ?_⟩
            have s4 := same_new (o := .tup [.str wk, .str nm]) ht2
            have eD4 := s4 _ _ eD3
            refine ⟨_, eD4, smallX (by omega), fun c o z => ?_, _, upd_same, by rw [List.length_append, lv]; rfl, ?_⟩
            · rw [upd_ne (ne_of_none z hD)]
              exact s4 _ _ (s3 _ _ z)
            · rw [take_snoc hnm, List.map_append, ← List.append_assoc]
              have tp := (Tps.of s4).trans (Tps.lst (o := .lst (vs ++ [.ref t])) eD4)
              exact Paired.snoc (Paired.mapP pv fun _ _ ⟨a, e, q⟩ => ⟨a, e, tp.sqt q⟩) ⟨t, rfl, (Tps.lst (o := .lst (vs ++ [.ref t])) eD4).sqt (SqT.of upd_same)⟩
          · rintro H3 ⟨s3, vs, eD3, lv, pv⟩
            rw [lt, List.take_length, ← efl] at pv
            exact ⟨s3, vs, eD3, pv⟩
      · rintro H2 ⟨s2, us, eD, pu⟩
        rw [lh, List.take_length] at pu
        exact k D us H2 s2 hD eD pu
    case with_ e l ks p =>
      have ok : (okCal e ∧ okCal l ∧ okNs ks) ∧ (p.length ≤ 20000 ∧ okL p) := ok
      have rk : 2 ≤ n + 1 := rk
      have tot : ((namedS (.call none e.1 e.2) ++ namedS (.call none l.1 l.2)) ++ ks.map fun n => (wk, n)).length ≤ 20000 := tot
      rw [List.length_append, List.length_append, List.length_map] at tot
      obtain ⟨x, y, z, u, rfl, h1, h2, h3, h4⟩ := DpAll.four hd
      have h1 : Dp K H x (.tuple [.str e.1, .tuple (e.2.map argD)]) := h1
      have h2 : Dp K H y (.tuple [.str l.1, .tuple (l.2.map argD)]) := h2
      obtain ⟨x0, ex, rfl, hx0, hxd⟩ := h1.tupInv
      obtain ⟨e1, e2, rfl, he1, he2⟩ := hxd.two
      obtain ⟨y0, ey, rfl, hy0, hyd⟩ := h2.tupInv
      obtain ⟨l1, l2, rfl, hl1, hl2⟩ := hyd.two
      obtain ⟨b, ts, rfl, hb, hbd⟩ := h3.tupInv
      have pt := DpAll.map hbd
      have lt : ts.length = ks.length := Paired.length pt
      repeat (first | refine case_len hq (Nat.ne_of_beq_eq_false rfl) ?_ | refine case_word hq rfl (by decide +kernel) ?_)
      refine case_hit hq rfl ⟨_, _, rfl, _, _, rfl, _, _, rfl, _, _, rfl, ?_⟩
      refine ⟨_, rfl, x0, _, _, _, rfl, rfl, hx0, rfl, _, rfl, x0, _, _, _, rfl, rfl, hx0, rfl, (by show 4 ≤ sizeLine; decide), fun t1 ht1 => ?_⟩
      have s1 := same_new (o := .tup [.str "call", .non, e1, e2]) ht1
      refine ⟨_, .call none e.1 e.2, rfl, .tup (SqT.of upd_same) (.cons (.str _) (.cons .non (.cons (he1.same s1) (.cons (he2.same s1) .nil)))), ⟨fun _ z => (by cases z), ok.1.1.1, ok.1.1.2⟩, (by show 1 ≤ n; omega), by omega, fun q1 xs1 H1 s2 n1 eq1 p1 => ?_⟩
      have s3 := s1.trans s2
      refine ⟨_, rfl, y0, _, _, _, rfl, rfl, SqT.same s3 hy0, rfl, _, rfl, y0, _, _, _, rfl, rfl, SqT.same s3 hy0, rfl, (by show 4 ≤ sizeLine; decide), fun t2 ht2 => ?_⟩
      have s4 := same_new (o := .tup [.str "call", .non, l1, l2]) ht2
      have s5 := s3.trans s4
      refine ⟨_, .call none l.1 l.2, rfl, .tup (SqT.of upd_same) (.cons (.str _) (.cons .non (.cons (hl1.same s5) (.cons (hl2.same s5) .nil)))), ⟨fun _ z => (by cases z), ok.1.2.1.1, ok.1.2.1.2⟩, (by show 1 ≤ n; omega), by omega, fun q2 xs2 H2 s6 n2 eq2 p2 => ?_⟩
      have s7 := s5.trans s6
      have m1 := Paired.length p1
      have m2 := Paired.length p2
      refine ⟨q1, q2, _, _, rfl, rfl, (s4.trans s6) _ _ eq1, eq2, Nat.le_of_lt (sizeBig (by omega)), fun q3 hq3 => ?_⟩
      have s8 := same_new (o := .lst (xs1 ++ xs2)) hq3
      have s9 := s7.trans s8
      refine ⟨_, rfl, _, rfl, b, rfl, ⟨_, SqT.same s9 hb⟩, fun D hD => ?_⟩
      refine lc_tup (K := K) (a := b) (xs := ts) (fun i H' => Same (upd H2 q3 (.lst (xs1 ++ xs2))) H' ∧ ∃ us, H' D = some (.lst us) ∧ us.length = i ∧ Paired (PrAt K H') us ((ks.take i).map fun n => (wk, n))) ⟨same_new hD, [], upd_same, rfl, .nil⟩ (fun i H' _ h' => SqT.same (s9.trans h'.1) hb) ?_ ?_
      · rintro i z H4 hz ⟨s10, us, eD, lu, pu⟩
        obtain ⟨nm, ht, htd⟩ := Paired.at pt hz
        rw [htd.strInv]
        have hi : i < ts.length := (List.getElem?_eq_some_iff.mp hz).1
        refine ⟨rfl, _, rfl, (by show 2 ≤ sizeLine; decide), fun t ht2 => ?_⟩
        have s3 := same_new (o := .tup [.str wk, .str nm]) ht2
        have eD3 := s3 _ _ eD
        refine ⟨_, eD3, smallX (by omega), fun c o z => ?_, _, upd_same, by rw [List.length_append, lu]; rfl, ?_⟩
        · rw [upd_ne (ne_of_none z hD)]
          exact s3 _ _ (s10 _ _ z)
        · rw [take_snoc ht, List.map_append]
          have tp := (Tps.of s3).trans (Tps.lst (o := .lst (us ++ [.ref t])) eD3)
          exact Paired.snoc (Paired.mapP pu fun _ _ ⟨a, e, q⟩ => ⟨a, e, tp.sqt q⟩) ⟨t, rfl, (Tps.lst (o := .lst (us ++ [.ref t])) eD3).sqt (SqT.of upd_same)⟩
      · rintro H4 ⟨s10, us, eD, lu, pu⟩
        rw [lt, List.take_length] at pu
        have ea : H4 q3 = some (.lst (xs1 ++ xs2)) := s10 _ _ upd_same
        refine ⟨q3, D, _, _, rfl, rfl, ea, eD, Nat.le_of_lt (sizeBig (by rw [List.length_append, lu]; omega)), fun r hr => ?_⟩
        have s11 := same_new (o := .lst ((xs1 ++ xs2) ++ us)) hr
        have s12 := s9.trans s10
        have s13 := (((s4.trans s6).trans s8).trans s10).trans s11
        have s14 := (s8.trans s10).trans s11
        exact k r _ _ (s12.trans s11) (none_same s12 hr) upd_same (Paired.app (Paired.app (Paired.mapP p1 fun _ _ z => z.same s13) (Paired.mapP p2 fun _ _ z => z.same s14)) (Paired.mapP pu fun _ _ z => z.same s11))
    all_goals
      first
        | obtain ⟨_, rfl, _⟩ := DpAll.one hd
        | obtain ⟨_, _, rfl, _, _⟩ := DpAll.two hd
      repeat (first | refine case_len hq (Nat.ne_of_beq_eq_false rfl) ?_ | refine case_word hq rfl (by decide +kernel) ?_)
      refine ⟨(by show 0 ≤ sizeLine; decide), fun q hq1 => ?_⟩
      exact k q _ _ (same_new hq1) hq1 upd_same .nil
end

/-! ### k08: data of the form of a tree is a tree's data; its bounds -/
structure GB (d : PyData) : Prop where
  b : bdD d = true
  c : ndD d ≤ 20000
theorem GD.gb {n : Nat} {d : PyData} (h : GD n d) : GB d := ⟨h.b, h.c⟩
theorem GB.mem {l : List PyData} (h : GB (.tuple l)) {d : PyData} (hd : d ∈ l) : GB d := by
  have h1 : bdD.bdL l = true := h.b
  have h3 : 1 + ndD.ndL l ≤ 20000 := h.c
  have := ndL_mem hd
  exact ⟨bdL_all h1 d hd, by omega⟩
theorem GB.len {l : List PyData} (h : GB (.tuple l)) : l.length ≤ 20000 := by
  have h3 : 1 + ndD.ndL l ≤ 20000 := h.c
  have := ndL_len l
  omega
theorem GB.str {z : Str} (h : GB (.str z)) : z.length ≤ 100 := by
  have h1 := h.b
  simp only [bdD, Bool.and_eq_true, decide_eq_true_eq] at h1
  exact h1.2
theorem GB.int {z : Int} (h : GB (.int z)) : z.natAbs ≤ 100 := by
  have h1 := h.b
  simp only [bdD, decide_eq_true_eq] at h1
  exact h1
def strOf : PyData → Str
  | .str z => z
  | _ => ""
def fcOf : PyData → Int
  | .tuple [_, .int m] => m
  | _ => 0
theorem row_of {d : PyData} (h : rowD d = true) (g : GB d) : ∃ ns, d = nmD ns ∧ okNs ns := by
  cases d with
  | tuple l =>
    have h : l.all nameD = true := h
    have hl := List.all_eq_true.mp h
    refine ⟨l.map strOf, ?_, by rw [List.length_map]; exact g.len, fun n hn => ?_⟩
    · show PyData.tuple l = .tuple ((l.map strOf).map .str)
      rw [List.map_map]
      refine congrArg _ (Eq.symm ?_)
      have : l.map (PyData.str ∘ strOf) = l.map id := List.map_congr_left fun x hx => by
        obtain ⟨z, rfl, _⟩ := name_str (hl x hx)
        rfl
      rw [this, List.map_id]
    · obtain ⟨x, hx, rfl⟩ := List.mem_map.mp hn
      obtain ⟨z, rfl, hz⟩ := name_str (hl x hx)
      exact ⟨hz, (g.mem hx).str⟩
  | _ => cases h
theorem ascL_at : ∀ {l : List Str} {i : Nat} {x y : Str}, ascL l = true → l[i]? = some x → l[i + 1]? = some y → x.cps.toList < y.cps.toList
  | a :: b :: r, 0, x, y, h, h1, h2 => by
    simp only [List.getElem?_cons_zero, Option.some.injEq, Nat.zero_add, List.getElem?_cons_succ] at h1 h2
    subst h1 h2
    simp only [ascL, Bool.and_eq_true, decide_eq_true_eq] at h
    exact h.1
  | a :: b :: r, i + 1, x, y, h, h1, h2 => by
    simp only [ascL, Bool.and_eq_true, decide_eq_true_eq] at h
    exact ascL_at (l := b :: r) h.2 (by simpa using h1) (by simpa using h2)
  | [a], i, x, y, h, h1, h2 => by simp at h2
theorem expr_of {d : PyData} (h : exprD d = true) (g : GB d) : ∃ e, d = exD e ∧ okEx e := by
  obtain ⟨c, ts, rfl⟩ := expr_ex h
  have h : (ts.all termD && ascL (ts.map nmOf)) = true := h
  rw [Bool.and_eq_true] at h
  have hl := List.all_eq_true.mp h.1
  have gt : GB (.tuple ts) := g.mem (by simp)
  refine ⟨⟨c, ts.map fun t => (nmOf t, fcOf t)⟩, ?_, by show (ts.map _).length ≤ _; rw [List.length_map]; exact gt.len, fun p hp => ?_, fun i a b ha hb => ?_⟩
  · show PyData.tuple [.int c, .tuple ts] = .tuple [.int c, .tuple ((ts.map fun t => (nmOf t, fcOf t)).map fun p => .tuple [.str p.1, .int p.2])]
    rw [List.map_map]
    have : ts.map ((fun p : Str × Int => PyData.tuple [.str p.1, .int p.2]) ∘ fun t => (nmOf t, fcOf t)) = ts.map id := List.map_congr_left fun x hx => by
      obtain ⟨z, m, rfl, _, _⟩ := term_ex (hl x hx)
      rfl
    rw [this, List.map_id]
  · obtain ⟨x, hx, rfl⟩ := List.mem_map.mp hp
    obtain ⟨z, m, rfl, hz, hm⟩ := term_ex (hl x hx)
    exact ⟨⟨hz, ((gt.mem hx).mem (d := .str z) (by simp)).str⟩, hm⟩
  · rw [List.getElem?_map] at ha hb
    obtain ⟨x, hx, rfl⟩ := Option.map_eq_some_iff.mp ha
    obtain ⟨y, hy, rfl⟩ := Option.map_eq_some_iff.mp hb
    exact ascL_at (i := i) h.2 (by rw [List.getElem?_map, hx]; rfl) (by rw [List.getElem?_map, hy]; rfl)
theorem map_of {α : Type} {P : α → Prop} {f : α → PyData} : ∀ {l : List PyData}, (∀ d ∈ l, ∃ x, d = f x ∧ P x) → ∃ xs : List α, l = xs.map f ∧ ∀ x ∈ xs, P x
  | [], _ => ⟨[], rfl, fun _ z => nomatch z⟩
  | d :: r, h => by
    obtain ⟨x, rfl, hx⟩ := h d List.mem_cons_self
    obtain ⟨xs, rfl, hxs⟩ := map_of (l := r) fun d hd => h d (List.mem_cons_of_mem _ hd)
    exact ⟨x :: xs, rfl, fun y hy => (List.mem_cons.mp hy).elim (fun z => z ▸ hx) (hxs y)⟩
theorem arg_of {d : PyData} (h : argB d = true) (g : GB d) : ∃ a, d = argD a ∧ okArg a := by
  unfold argB at h
  split at h
  · rename_i w x
    by_cases hw : w = "place"
    · rw [if_pos hw] at h
      obtain ⟨z, rfl, hz⟩ := name_str h
      exact ⟨.place z, by rw [hw]; rfl, hz, (g.mem (d := .str z) (by simp)).str⟩
    · rw [if_neg hw, Bool.and_eq_true] at h
      obtain ⟨e, rfl, he⟩ := expr_of h.2 (g.mem (by simp))
      exact ⟨.value e, by rw [of_decide_eq_true h.1]; rfl, he⟩
  · cases h
theorem call_of {d : PyData} (h : callB d = true) (g : GB d) : ∃ c, d = calD c ∧ okCal c := by
  unfold callB at h
  split at h
  · rename_i n as
    rw [Bool.and_eq_true] at h
    obtain ⟨z, rfl, hz⟩ := name_str h.1
    have ga : GB (.tuple as) := g.mem (by simp)
    obtain ⟨xs, rfl, hx⟩ := map_of (P := okArg) (f := argD) fun d hd => arg_of (List.all_eq_true.mp h.2 d hd) (ga.mem hd)
    exact ⟨(z, xs), rfl, ⟨hz, (g.mem (d := .str z) (by simp)).str⟩, by have := ga.len; rwa [List.length_map] at this, hx⟩
  · cases h
theorem nil_ne {ns : List Str} (h : isNilD (nmD ns) = false) : ns ≠ [] := fun e => by rw [e] at h; cases h
theorem okL_of : ∀ {b : List St}, (∀ s ∈ b, okS s) → okL b
  | [], _ => trivial
  | s :: r, h => ⟨h s List.mem_cons_self, okL_of fun x hx => h x (List.mem_cons_of_mem _ hx)⟩
theorem okHs_of : ∀ {b : List Hd}, (∀ s ∈ b, okH s) → okHs b
  | [], _ => trivial
  | s :: r, h => ⟨h s List.mem_cons_self, okHs_of fun x hx => h x (List.mem_cons_of_mem _ hx)⟩
theorem dpIn_of {n : Nat} : ∀ {b : List St}, (∀ s ∈ b, dpS s ≤ n) → dpIn b ≤ n
  | [], _ => Nat.zero_le _
  | s :: r, h => by
    have := dpIn_of (b := r) fun x hx => h x (List.mem_cons_of_mem _ hx)
    have := h s List.mem_cons_self
    show max (dpS s) (dpIn r) ≤ n
    omega
theorem dpHs_of {n : Nat} : ∀ {b : List Hd}, (∀ s ∈ b, dpH s ≤ n) → dpHs b ≤ n
  | [], _ => Nat.zero_le _
  | s :: r, h => by
    have := dpHs_of (b := r) fun x hx => h x (List.mem_cons_of_mem _ hx)
    have := h s List.mem_cons_self
    show max (dpH s) (dpHs r) ≤ n
    omega
theorem sim_of {w : Str} {r : List PyData} (h : simB w r = true) (g : GB (.tuple (.str w :: r))) : ∃ s, PyData.tuple (.str w :: r) = stD s ∧ okS s ∧ dpS s = 0 := by
  unfold simB at h
  split at h
  · rename_i a
    have ga : GB a := g.mem (by simp)
    by_cases h1 : w = "input"
    · rw [if_pos h1] at h
      obtain ⟨z, rfl, hz⟩ := name_str h
      exact ⟨.input z, by rw [h1]; rfl, ⟨hz, ga.str⟩, rfl⟩
    rw [if_neg h1] at h
    by_cases h2 : w = "risk"
    · rw [if_pos h2, Bool.and_eq_true, Bool.not_eq_true'] at h
      obtain ⟨ns, rfl, hn⟩ := row_of h.2 ga
      exact ⟨.risk ns, by rw [h2]; rfl, ⟨nil_ne h.1, hn⟩, rfl⟩
    rw [if_neg h2] at h
    by_cases h3 : w = "raise"
    · rw [if_pos h3] at h
      obtain ⟨z, rfl, hz⟩ := name_str h
      exact ⟨.raise z, by rw [h3]; rfl, ⟨hz, ga.str⟩, rfl⟩
    rw [if_neg h3] at h
    by_cases h4 : w = "return"
    · rw [if_pos h4] at h
      obtain ⟨e, rfl, he⟩ := expr_of h ga
      exact ⟨.ret e, by rw [h4]; rfl, he, rfl⟩
    rw [if_neg h4] at h
    cases h
  · rename_i a b
    have ga : GB a := g.mem (by simp)
    have gb : GB b := g.mem (by simp)
    by_cases h1 : w = "set"
    · rw [if_pos h1, Bool.and_eq_true] at h
      obtain ⟨z, rfl, hz⟩ := name_str h.1
      obtain ⟨e, rfl, he⟩ := expr_of h.2 gb
      exact ⟨.set z e, by rw [h1]; rfl, ⟨⟨hz, ga.str⟩, he⟩, rfl⟩
    rw [if_neg h1] at h
    cases h
  · rename_i a b c
    have ga : GB a := g.mem (by simp)
    have gb : GB b := g.mem (by simp)
    have gc : GB c := g.mem (by simp)
    by_cases h1 : w = "call"
    · rw [if_pos h1, Bool.and_eq_true] at h
      have g2 : GB (.tuple [b, c]) := by
        have h1 : bdD.bdL (PyData.str w :: [a, b, c]) = true := g.b
        simp only [bdD.bdL, Bool.and_eq_true] at h1
        refine ⟨?_, ?_⟩
        · show (bdD b && (bdD c && true)) = true
          rw [h1.2.2.1, h1.2.2.2.1]
          rfl
        · have h3 : 1 + (1 + (ndD a + (ndD b + (ndD c + 0)))) ≤ 20000 := g.c
          show 1 + (ndD b + (ndD c + 0)) ≤ 20000
          omega
      obtain ⟨cl, e, ok⟩ := call_of h.2 g2
      injection e with e
      injection e with e1 e2
      injection e2 with e2 _
      subst e1 e2
      rcases Bool.or_eq_true _ _ |>.mp h.1 with z | z
      · have : a = .none := by cases a <;> first | rfl | cases z
        subst this
        exact ⟨.call none cl.1 cl.2, by rw [h1]; rfl, ⟨fun x e => (by cases e), ok⟩, rfl⟩
      · obtain ⟨t, rfl, ht⟩ := name_str z
        exact ⟨.call (some t) cl.1 cl.2, by rw [h1]; rfl, ⟨fun x e => (by cases e; exact ⟨ht, ga.str⟩), ok⟩, rfl⟩
    rw [if_neg h1] at h
    cases h
  · cases h
theorem hdl_of {n : Nat} (hB : ∀ {d : PyData}, blkB n d = true → GB d → ∃ b, d = blD b ∧ okB b ∧ dpB b ≤ n) {d : PyData} (h : hdlB (blkB n) d = true) (g : GB d) : ∃ x, d = hdD x ∧ okH x ∧ dpH x ≤ n := by
  unfold hdlB at h
  split at h
  · rename_i ns b
    rw [Bool.and_eq_true, Bool.and_eq_true, Bool.not_eq_true'] at h
    obtain ⟨ks, rfl, hk⟩ := row_of h.2.1 (g.mem (by simp))
    obtain ⟨bl, rfl, ok, dp⟩ := hB h.2.2 (g.mem (by simp))
    exact ⟨.mk ks bl, rfl, ⟨⟨nil_ne h.1, hk⟩, ok⟩, dp⟩
  · cases h
theorem stm_of {n : Nat} (hB : ∀ {d : PyData}, blkB n d = true → GB d → ∃ b, d = blD b ∧ okB b ∧ dpB b ≤ n) {d : PyData} (h : stmB (blkB n) d = true) (g : GB d) : ∃ s, d = stD s ∧ okS s ∧ dpS s ≤ n := by
  have sm : ∀ {w : Str} {r : List PyData}, d = .tuple (.str w :: r) → simB w r = true → ∃ s, d = stD s ∧ okS s ∧ dpS s ≤ n := fun e hs => by
    subst e
    obtain ⟨s, h1, h2, h3⟩ := sim_of hs g
    exact ⟨s, h1, h2, by omega⟩
  unfold stmB at h
  split at h
  · rename_i w a
    by_cases h1 : w = "while"
    · rw [if_pos h1] at h
      obtain ⟨b, rfl, ok, dp⟩ := hB h (g.mem (by simp))
      exact ⟨.whl b, by rw [h1]; rfl, ok, dp⟩
    · rw [if_neg h1] at h
      exact sm rfl h
  · rename_i w a b
    by_cases h1 : w = "if"
    · rw [if_pos h1, Bool.and_eq_true] at h
      obtain ⟨p, rfl, ok1, dp1⟩ := hB h.1 (g.mem (by simp))
      obtain ⟨q, rfl, ok2, dp2⟩ := hB h.2 (g.mem (by simp))
      exact ⟨.ite p q, by rw [h1]; rfl, ⟨ok1, ok2⟩, by show max (dpB p) (dpB q) ≤ n; omega⟩
    rw [if_neg h1] at h
    by_cases h2 : w = "undo"
    · rw [if_pos h2, Bool.and_eq_true, Bool.and_eq_true, Bool.not_eq_true'] at h
      obtain ⟨ns, rfl, hn⟩ := row_of h.2.1 (g.mem (by simp))
      obtain ⟨q, rfl, ok2, dp2⟩ := hB h.2.2 (g.mem (by simp))
      exact ⟨.undo ns q, by rw [h2]; rfl, ⟨⟨nil_ne h.1, hn⟩, ok2⟩, dp2⟩
    rw [if_neg h2] at h
    exact sm rfl h
  · rename_i w a b c
    by_cases h1 : w = "try"
    · rw [if_pos h1, Bool.and_eq_true, Bool.and_eq_true] at h
      obtain ⟨p, rfl, ok1, dp1⟩ := hB h.1 (g.mem (by simp))
      obtain ⟨q, rfl, ok2, dp2⟩ := hB h.2.1 (g.mem (by simp))
      have gb : GB b := g.mem (by simp)
      have h2 := h.2.2
      unfold hdsB at h2
      split at h2
      · rename_i l
        obtain ⟨hs, rfl, hx⟩ := map_of (P := fun x => okH x ∧ dpH x ≤ n) (f := hdD) fun d hd => hdl_of hB (List.all_eq_true.mp h2 d hd) (gb.mem hd)
        have lh := gb.len
        rw [List.length_map] at lh
        have dh := dpHs_of fun x hm => (hx x hm).2
        refine ⟨.try_ p hs q, by rw [h1, ← hdsD_map]; rfl, ⟨ok1, ⟨lh, okHs_of fun x hm => (hx x hm).1⟩, ok2⟩, by show max (dpB p) (max (dpHs hs) (dpB q)) ≤ n; omega⟩
      · cases h2
    rw [if_neg h1] at h
    exact sm rfl h
  · rename_i w a b c e
    by_cases h1 : w = "with"
    · rw [if_pos h1, Bool.and_eq_true, Bool.and_eq_true, Bool.and_eq_true] at h
      obtain ⟨c1, rfl, ok1⟩ := call_of h.1 (g.mem (by simp))
      obtain ⟨c2, rfl, ok2⟩ := call_of h.2.1 (g.mem (by simp))
      obtain ⟨ns, rfl, hn⟩ := row_of h.2.2.1 (g.mem (by simp))
      obtain ⟨q, rfl, ok3, dp3⟩ := hB h.2.2.2 (g.mem (by simp))
      exact ⟨.with_ c1 c2 ns q, by rw [h1]; rfl, ⟨⟨ok1, ok2, hn⟩, ok3⟩, dp3⟩
    rw [if_neg h1] at h
    cases h
  · cases h
theorem blk_of : ∀ (n : Nat) {d : PyData}, blkB n d = true → GB d → ∃ b, d = blD b ∧ okB b ∧ dpB b ≤ n
  | 0, d, h, _ => by cases d <;> cases h
  | n + 1, d, h, g => by
    cases d with
    | tuple l =>
      have h : l.all (stmB (blkB n)) = true := h
      obtain ⟨b, rfl, hx⟩ := map_of (P := fun x => okS x ∧ dpS x ≤ n) (f := stD) fun d hd => stm_of (blk_of n) (List.all_eq_true.mp h d hd) (g.mem hd)
      have lb := g.len
      rw [List.length_map] at lb
      have dh := dpIn_of fun x hm => (hx x hm).2
      exact ⟨b, by unfold blD; rw [stsD_map], ⟨lb, okL_of fun x hm => (hx x hm).1⟩, by rw [dpB_eq]; omega⟩
    | _ => cases h
theorem fun_of {d : PyData} (h : funB d = true) (g : GB d) : ∃ f, d = fnD f ∧ okFn 30 f := by
  unfold funB at h
  split at h
  · rename_i n ps b
    rw [Bool.and_eq_true, Bool.and_eq_true] at h
    obtain ⟨z, rfl, hz⟩ := name_str h.1
    have gp : GB (.tuple ps) := g.mem (by simp)
    obtain ⟨xs, rfl, hx⟩ := map_of (P := fun p : Str × Bool => okN1 p.1) (f := prD) fun d hd => by
      have hd2 := List.all_eq_true.mp h.2.1 d hd
      have gd := gp.mem hd
      unfold parB at hd2
      split at hd2
      · rename_i x y
        rw [Bool.and_eq_true] at hd2
        obtain ⟨t, rfl, ht⟩ := name_str hd2.1
        cases y <;> first | exact ⟨(t, _), rfl, ht, (gd.mem (d := .str t) (by simp)).str⟩ | exact absurd hd2.2 (by simp [isBoolD])
      · cases hd2
    obtain ⟨bl, rfl, ok, dp⟩ := blk_of 30 h.2.2 (g.mem (by simp))
    have lp := gp.len
    rw [List.length_map] at lp
    exact ⟨⟨z, xs, bl⟩, rfl, ⟨hz, (g.mem (d := .str z) (by simp)).str⟩, ⟨lp, hx⟩, ok, dp, dp⟩
  · cases h
theorem tree_of {d : PyData} (h : treeB d = true) (g : GB d) : ∃ t, d = trD t ∧ okTr 30 t := by
  unfold treeB at h
  split at h
  · rename_i a b es fs
    rw [Bool.and_eq_true, Bool.and_eq_true, Bool.and_eq_true] at h
    obtain ⟨ns, rfl, hn⟩ := row_of h.1 (g.mem (by simp))
    obtain ⟨ks, rfl, hk⟩ := row_of h.2.1 (g.mem (by simp))
    have ge : GB (.tuple es) := g.mem (by simp)
    have gf : GB (.tuple fs) := g.mem (by simp)
    obtain ⟨xs, rfl, hx⟩ := map_of (P := fun e : Ex => okEx e ∧ e.c = 0) (f := exD) fun d hd => by
      have hd2 := List.all_eq_true.mp h.2.2.1 d hd
      have gd := ge.mem hd
      unfold kpB at hd2
      split at hd2
      · rename_i c ts
        rw [Bool.and_eq_true] at hd2
        obtain ⟨e, he, ok⟩ := expr_of hd2.1 gd
        refine ⟨e, he, ok, ?_⟩
        injection he with he
        injection he with h1 _
        injection h1 with h1
        rw [← h1]
        exact of_decide_eq_true hd2.2
      · cases hd2
    obtain ⟨ys, rfl, hy⟩ := map_of (P := okFn 30) (f := fnD) fun d hd => fun_of (List.all_eq_true.mp h.2.2.2 d hd) (gf.mem hd)
    have le := ge.len
    have lf := gf.len
    rw [List.length_map] at le lf
    exact ⟨⟨ns, ks, xs, ys⟩, rfl, hn, hk, ⟨le, hx⟩, lf, hy⟩
  · cases h

/-! ### k08: what a tree's data weighs -/
theorem nd_ex (e : Ex) : e.ts.length + 3 ≤ ndD (exD e) := by
  have h : ndD (exD e) = 1 + (1 + ((1 + ndD.ndL (e.ts.map fun p => PyData.tuple [.str p.1, .int p.2])) + 0)) := rfl
  have := ndL_len (e.ts.map fun p => PyData.tuple [.str p.1, .int p.2])
  rw [List.length_map] at this
  omega
theorem nd_nm (ns : List Str) : ns.length + 1 ≤ ndD (nmD ns) := by
  have h : ndD (nmD ns) = 1 + ndD.ndL (ns.map PyData.str) := rfl
  have := ndL_len (ns.map PyData.str)
  rw [List.length_map] at this
  omega
theorem nd_args : ∀ as : List Arg, (as.filterMap valE).length + (argsN as).length ≤ ndD.ndL (as.map argD)
  | [] => Nat.le_refl _
  | .place n :: r => by
    have := nd_args r
    have e1 : ((Arg.place n :: r).filterMap valE).length = (r.filterMap valE).length := rfl
    have e2 : (argsN (.place n :: r)).length = 1 + (argsN r).length := by show ([n] ++ argsN r).length = _; rw [List.length_append]; rfl
    have e3 : ndD.ndL ((Arg.place n :: r).map argD) = 3 + ndD.ndL (r.map argD) := rfl
    omega
  | .value e :: r => by
    have := nd_args r
    have := nd_ex e
    have e1 : ((Arg.value e :: r).filterMap valE).length = (r.filterMap valE).length + 1 := rfl
    have e2 : (argsN (.value e :: r)).length = e.ts.length + (argsN r).length := by show ((e.ts.map Prod.fst) ++ argsN r).length = _; rw [List.length_append, List.length_map]
    have e3 : ndD.ndL ((Arg.value e :: r).map argD) = (1 + (1 + (ndD (exD e) + 0))) + ndD.ndL (r.map argD) := rfl
    omega
theorem nd_cal (c : Cal) : (c.2.filterMap valE).length + (argsN c.2).length + 3 ≤ ndD (calD c) := by
  have h : ndD (calD c) = 1 + (1 + ((1 + ndD.ndL (c.2.map argD)) + 0)) := rfl
  have := nd_args c.2
  omega
def ndP (s : St) : Nat := ((parts s).map fun p => ndD (blD p)).sum
theorem nd_hds : ∀ hs : List Hd, (hs.flatMap fun h => h.ks.map fun n => (wk, n)).length + ((hs.map Hd.b).map fun p => ndD (blD p)).sum ≤ ndD.ndL (hdsD hs)
  | [] => Nat.le_refl _
  | .mk ks b :: r => by
    have := nd_hds r
    have := nd_nm ks
    have e1 : ((Hd.mk ks b :: r).flatMap fun h => h.ks.map fun n => (wk, n)).length = ks.length + (r.flatMap fun h => h.ks.map fun n => (wk, n)).length := by
      rw [List.flatMap_cons, List.length_append, List.length_map]
      rfl
    have e2 : (((Hd.mk ks b :: r).map Hd.b).map fun p => ndD (blD p)).sum = ndD (blD b) + ((r.map Hd.b).map fun p => ndD (blD p)).sum := by
      rw [List.map_cons, List.map_cons, List.sum_cons]
      rfl
    have e3 : ndD.ndL (hdsD (.mk ks b :: r)) = (1 + (ndD (nmD ks) + (ndD (blD b) + 0))) + ndD.ndL (hdsD r) := rfl
    omega
/-- what a statement weighs by itself -/
def wtF (s : St) : Nat := 1 + (exprS s).length + (namedS s).length
theorem wt_own (s : St) : wtF s + ndP s ≤ ndD (stD s) := by
  cases s with
  | set t e =>
    have := nd_ex e
    have h : ndD (stD (.set t e)) = 1 + (1 + (1 + (ndD (exD e) + 0))) := rfl
    have h2 : wtF (.set t e) + ndP (.set t e) = 1 + 1 + (e.ts.map fun p => (wv, p.1)).length + 0 := rfl
    rw [List.length_map] at h2
    omega
  | input t => exact (by decide : 1 + 0 + 0 + 0 ≤ 3)
  | call t g as =>
    have := nd_args as
    have ho := nd_pos (optD t)
    have h : ndD (stD (.call t g as)) = 1 + (1 + (ndD (optD t) + (1 + ((1 + ndD.ndL (as.map argD)) + 0)))) := rfl
    have h2 : wtF (.call t g as) + ndP (.call t g as) = 1 + (as.filterMap valE).length + (((argsN as).map fun n => (wv, n)).length + 1) + 0 := rfl
    rw [List.length_map] at h2
    omega
  | risk ks =>
    have := nd_nm ks
    have h : ndD (stD (.risk ks)) = 1 + (1 + (ndD (nmD ks) + 0)) := rfl
    have h2 : wtF (.risk ks) + ndP (.risk ks) = 1 + 0 + (ks.map fun n => (wk, n)).length + 0 := rfl
    rw [List.length_map] at h2
    omega
  | raise k => exact (by decide : 1 + 0 + 1 + 0 ≤ 3)
  | ret e =>
    have := nd_ex e
    have h : ndD (stD (.ret e)) = 1 + (1 + (ndD (exD e) + 0)) := rfl
    have h2 : wtF (.ret e) + ndP (.ret e) = 1 + 1 + (e.ts.map fun p => (wv, p.1)).length + 0 := rfl
    rw [List.length_map] at h2
    omega
  | ite a b =>
    have h : ndD (stD (.ite a b)) = 1 + (1 + (ndD (blD a) + (ndD (blD b) + 0))) := rfl
    have h2 : wtF (.ite a b) + ndP (.ite a b) = 1 + 0 + 0 + (ndD (blD a) + (ndD (blD b) + 0)) := rfl
    omega
  | whl b =>
    have h : ndD (stD (.whl b)) = 1 + (1 + (ndD (blD b) + 0)) := rfl
    have h2 : wtF (.whl b) + ndP (.whl b) = 1 + 0 + 0 + (ndD (blD b) + 0) := rfl
    omega
  | try_ b hs f =>
    have := nd_hds hs
    have h : ndD (stD (.try_ b hs f)) = 1 + (1 + (ndD (blD b) + ((1 + ndD.ndL (hdsD hs)) + (ndD (blD f) + 0)))) := rfl
    have h2 : ndP (.try_ b hs f) = ndD (blD b) + (((hs.map Hd.b).map fun p => ndD (blD p)).sum + (ndD (blD f) + 0)) := by
      show ((b :: (hs.map Hd.b ++ [f])).map fun p => ndD (blD p)).sum = _
      rw [List.map_cons, List.sum_cons, List.map_append, List.sum_append]
      rfl
    have h3 : wtF (.try_ b hs f) = 1 + 0 + (hs.flatMap fun h => h.ks.map fun n => (wk, n)).length := rfl
    omega
  | undo ns b =>
    have := nd_nm ns
    have h : ndD (stD (.undo ns b)) = 1 + (1 + (ndD (nmD ns) + (ndD (blD b) + 0))) := rfl
    have h2 : wtF (.undo ns b) + ndP (.undo ns b) = 1 + 0 + (ns.map fun n => (wv, n)).length + (ndD (blD b) + 0) := rfl
    rw [List.length_map] at h2
    omega
  | with_ e l ks b =>
    have := nd_cal e
    have := nd_cal l
    have := nd_nm ks
    have h : ndD (stD (.with_ e l ks b)) = 1 + (1 + (ndD (calD e) + (ndD (calD l) + (ndD (nmD ks) + (ndD (blD b) + 0))))) := rfl
    have h1 : ndP (.with_ e l ks b) = ndD (blD b) + 0 := rfl
    have h2 : (namedS (.with_ e l ks b)).length = ((argsN e.2).length + 1) + ((argsN l.2).length + 1) + ks.length := by
      simp only [namedS, List.length_append, List.length_cons, List.length_map]
    have h3 : (exprS (.with_ e l ks b)).length = (e.2.filterMap valE).length + (l.2.filterMap valE).length := by
      show ((e.2 ++ l.2).filterMap valE).length = _
      rw [List.filterMap_append, List.length_append]
    unfold wtF
    omega
def sumW (l : List (Nat × St)) : Nat := (l.map fun p => wtF p.2).sum
theorem sumW_app (a b : List (Nat × St)) : sumW (a ++ b) = sumW a + sumW b := by unfold sumW; rw [List.map_append, List.sum_append]
mutual
theorem wt_S : ∀ (s : St) (n : Nat), sumW (allS s n) ≤ ndP s
  | .ite a b, n => by
    have h1 := wt_B a n
    have h2 := wt_B b (n + szB a)
    have e : sumW (allS (.ite a b) n) = _ := sumW_app (allB a n) (allB b (n + szB a))
    have h : ndP (.ite a b) = (1 + ndD.ndL (stsD a)) + ((1 + ndD.ndL (stsD b)) + 0) := rfl
    omega
  | .whl b, n => by
    have h1 := wt_B b n
    have h : ndP (.whl b) = (1 + ndD.ndL (stsD b)) + 0 := rfl
    have e : sumW (allS (.whl b) n) = sumW (allB b n) := rfl
    omega
  | .try_ b hs f, n => by
    have h1 := wt_B b n
    have h2 := wt_Hs hs (n + szB b)
    have h3 := wt_B f (n + szB b + szHs hs)
    have e : sumW (allS (.try_ b hs f) n) = _ := sumW_app (allB b n) (allHs hs (n + szB b) ++ allB f (n + szB b + szHs hs))
    rw [sumW_app] at e
    have h : ndP (.try_ b hs f) = (1 + ndD.ndL (stsD b)) + (((hs.map Hd.b).map fun p => ndD (blD p)).sum + ((1 + ndD.ndL (stsD f)) + 0)) := by
      show ((b :: (hs.map Hd.b ++ [f])).map fun p => ndD (blD p)).sum = _
      rw [List.map_cons, List.sum_cons, List.map_append, List.sum_append]
      rfl
    omega
  | .undo ns b, n => by
    have h1 := wt_B b n
    have h : ndP (.undo ns b) = (1 + ndD.ndL (stsD b)) + 0 := rfl
    have e : sumW (allS (.undo ns b) n) = sumW (allB b n) := rfl
    omega
  | .with_ e l ks b, n => by
    have h1 := wt_B b n
    have h : ndP (.with_ e l ks b) = (1 + ndD.ndL (stsD b)) + 0 := rfl
    have e : sumW (allS (.with_ e l ks b) n) = sumW (allB b n) := rfl
    omega
  | .set _ _, _ => Nat.zero_le _
  | .input _, _ => Nat.zero_le _
  | .call _ _ _, _ => Nat.zero_le _
  | .risk _, _ => Nat.zero_le _
  | .raise _, _ => Nat.zero_le _
  | .ret _, _ => Nat.zero_le _
theorem wt_B : ∀ (b : List St) (n : Nat), sumW (allB b n) ≤ ndD.ndL (stsD b)
  | [], _ => Nat.zero_le _
  | s :: r, n => by
    have h1 := wt_S s (n + 1)
    have h2 := wt_B r (n + 1 + szS s)
    have h3 := wt_own s
    have e : sumW (allB (s :: r) n) = wtF s + sumW (allS s (n + 1) ++ allB r (n + 1 + szS s)) := by
      show sumW ((n, s) :: (allS s (n + 1) ++ allB r (n + 1 + szS s))) = _
      unfold sumW
      rw [List.map_cons, List.sum_cons]
    rw [sumW_app] at e
    have h : ndD.ndL (stsD (s :: r)) = ndD (stD s) + ndD.ndL (stsD r) := rfl
    omega
theorem wt_Hs : ∀ (hs : List Hd) (n : Nat), sumW (allHs hs n) ≤ ((hs.map Hd.b).map fun p => ndD (blD p)).sum
  | [], _ => Nat.zero_le _
  | .mk ks b :: r, n => by
    have h1 := wt_B b n
    have h2 := wt_Hs r (n + szH (.mk ks b))
    have e : sumW (allHs (.mk ks b :: r) n) = _ := sumW_app (allB b n) (allHs r (n + szH (.mk ks b)))
    have h : (((Hd.mk ks b :: r).map Hd.b).map fun p => ndD (blD p)).sum = (1 + ndD.ndL (stsD b)) + ((r.map Hd.b).map fun p => ndD (blD p)).sum := by
      rw [List.map_cons, List.map_cons, List.sum_cons]
      rfl
    omega
end
theorem sum_le2 {α : Type} {f g : α → Nat} (h : ∀ x, f x ≤ g x) : ∀ l : List α, (l.map f).sum ≤ (l.map g).sum
  | [] => Nat.le_refl _
  | x :: r => by
    have := sum_le2 h r
    have := h x
    rw [List.map_cons, List.map_cons, List.sum_cons, List.sum_cons]
    omega
theorem sum_one {α : Type} : ∀ l : List α, (l.map fun _ => 1).sum = l.length
  | [] => rfl
  | x :: r => by rw [List.map_cons, List.sum_cons, sum_one r, List.length_cons]; omega
theorem sz_nd (b : List St) : szB b ≤ ndD.ndL (stsD b) := by
  have h := wt_B b 0
  have := sum_le2 (f := fun _ => 1) (g := fun p : Nat × St => wtF p.2) (fun p => by unfold wtF; omega) (allB b 0)
  rw [sum_one, allB_len] at this
  exact Nat.le_trans this h
theorem ex_nd (b : List St) : ((allB b 0).flatMap fun p => exprS p.2).length ≤ ndD.ndL (stsD b) := by
  have h := wt_B b 0
  have e : ((allB b 0).flatMap fun p => exprS p.2).length = ((allB b 0).map fun p => (exprS p.2).length).sum := by rw [List.length_flatMap]
  rw [e]
  exact Nat.le_trans (sum_le2 (fun p => by unfold wtF; omega) _) h
theorem nm_nd (b : List St) : ∀ p ∈ allB b 0, (namedS p.2).length ≤ ndD.ndL (stsD b) := fun p hp => by
  have h := wt_B b 0
  have m : wtF p.2 ≤ sumW (allB b 0) := by
    unfold sumW
    generalize allB b 0 = l at hp
    induction l with
    | nil => cases hp
    | cons y r ih =>
      rw [List.map_cons, List.sum_cons]
      rcases List.mem_cons.mp hp with z | z
      · rw [z]; omega
      · have := ih z; omega
  unfold wtF at m
  omega
theorem part_nd {b : List St} {s : St} {p : List St} (hs : s ∈ b) (hp : p ∈ parts s) : ndD (blD p) ≤ ndD (blD b) := by
  have h1 : ndD (blD p) ≤ ndP s := by
    unfold ndP
    generalize parts s = l at hp
    induction l with
    | nil => cases hp
    | cons y r ih =>
      rw [List.map_cons, List.sum_cons]
      rcases List.mem_cons.mp hp with z | z
      · rw [z]; omega
      · have := ih z; omega
  have h2 := wt_own s
  have h3 : ndD (stD s) ≤ ndD.ndL (stsD b) := ndL_mem (by rw [stsD_map]; exact List.mem_map_of_mem hs)
  have h4 : ndD (blD b) = 1 + ndD.ndL (stsD b) := rfl
  omega
theorem flat_nd : ∀ b : List St, (b.flatMap parts).length ≤ ndD.ndL (stsD b)
  | [] => Nat.le_refl _
  | s :: r => by
    have h1 := flat_nd r
    have h2 := wt_own s
    have h3 : (parts s).length ≤ ndP s := by
      unfold ndP
      have := sum_le2 (f := fun _ => 1) (g := fun p : List St => ndD (blD p)) (fun p => nd_pos _) (parts s)
      rwa [sum_one] at this
    rw [List.flatMap_cons, List.length_append]
    have h4 : ndD.ndL (stsD (s :: r)) = ndD (stD s) + ndD.ndL (stsD r) := rfl
    omega
mutual
theorem gb_allS : ∀ (s : St) (n : Nat), GB (stD s) → ∀ p ∈ allS s n, GB (stD p.2)
  | .ite a b, n, h, p, hp => by
    rcases List.mem_append.mp (show p ∈ allB a n ++ allB b (n + szB a) from hp) with z | z
    · exact gb_allB a _ (h.mem (d := blD a) (by simp [blD])) p z
    · exact gb_allB b _ (h.mem (d := blD b) (by simp [blD])) p z
  | .whl b, n, h, p, hp => gb_allB b n (h.mem (d := blD b) (by simp [blD])) p hp
  | .try_ b hs f, n, h, p, hp => by
    rcases List.mem_append.mp (show p ∈ allB b n ++ (allHs hs (n + szB b) ++ allB f (n + szB b + szHs hs)) from hp) with z | z
    · exact gb_allB b _ (h.mem (d := blD b) (by simp [blD])) p z
    · rcases List.mem_append.mp z with z | z
      · exact gb_allHs hs _ (h.mem (d := .tuple (hdsD hs)) (by simp)) p z
      · exact gb_allB f _ (h.mem (d := blD f) (by simp [blD])) p z
  | .undo ns b, n, h, p, hp => gb_allB b n (h.mem (d := blD b) (by simp [blD])) p hp
  | .with_ e l ks b, n, h, p, hp => gb_allB b n (h.mem (d := blD b) (by simp [blD])) p hp
  | .set _ _, _, _, p, hp => nomatch hp
  | .input _, _, _, p, hp => nomatch hp
  | .call _ _ _, _, _, p, hp => nomatch hp
  | .risk _, _, _, p, hp => nomatch hp
  | .raise _, _, _, p, hp => nomatch hp
  | .ret _, _, _, p, hp => nomatch hp
theorem gb_allB : ∀ (b : List St) (n : Nat), GB (blD b) → ∀ p ∈ allB b n, GB (stD p.2)
  | [], _, _, p, hp => nomatch hp
  | s :: r, n, h, p, hp => by
    have hs : GB (stD s) := h.mem (d := stD s) (by simp [stsD])
    have hr : GB (blD r) := by
      have h1 : bdD.bdL (stD s :: stsD r) = true := h.b
      have h2 : 1 + (ndD (stD s) + ndD.ndL (stsD r)) ≤ 20000 := h.c
      simp only [bdD.bdL, Bool.and_eq_true] at h1
      exact ⟨h1.2, by show 1 + ndD.ndL (stsD r) ≤ _; omega⟩
    rcases List.mem_cons.mp (show p ∈ (n, s) :: (allS s (n + 1) ++ allB r (n + 1 + szS s)) from hp) with z | z
    · rw [z]; exact hs
    · rcases List.mem_append.mp z with z | z
      · exact gb_allS s _ hs p z
      · exact gb_allB r _ hr p z
theorem gb_allHs : ∀ (hs : List Hd) (n : Nat), GB (.tuple (hdsD hs)) → ∀ p ∈ allHs hs n, GB (stD p.2)
  | [], _, _, p, hp => nomatch hp
  | .mk ks b :: r, n, h, p, hp => by
    have hh : GB (hdD (.mk ks b)) := h.mem (d := hdD (.mk ks b)) (by simp [hdsD])
    have hr : GB (.tuple (hdsD r)) := by
      have h1 : bdD.bdL (hdD (.mk ks b) :: hdsD r) = true := h.b
      have h2 : 1 + (ndD (hdD (.mk ks b)) + ndD.ndL (hdsD r)) ≤ 20000 := h.c
      simp only [bdD.bdL, Bool.and_eq_true] at h1
      exact ⟨h1.2, by show 1 + ndD.ndL (hdsD r) ≤ _; omega⟩
    rcases List.mem_append.mp (show p ∈ allB b n ++ allHs r (n + szH (.mk ks b)) from hp) with z | z
    · exact gb_allB b _ (hh.mem (d := blD b) (by simp [blD])) p z
    · exact gb_allHs r _ hr p z
end
theorem gb_arg {as : List Arg} (h : GB (.tuple (as.map argD))) : ∀ e ∈ as.filterMap valE, GB (exD e) := fun e he => by
  obtain ⟨a, ha, hv⟩ := List.mem_filterMap.mp he
  cases a with
  | place n => cases hv
  | value x =>
    cases hv
    exact (h.mem (d := argD (.value e)) (List.mem_map_of_mem ha)).mem (d := exD e) (by simp)
theorem gb_exprS {s : St} (h : GB (stD s)) : ∀ e ∈ exprS s, GB (exD e) := fun e he => by
  cases s with
  | set t x => rw [List.mem_singleton.mp he]; exact h.mem (d := exD x) (by simp)
  | ret x => rw [List.mem_singleton.mp he]; exact h.mem (d := exD x) (by simp)
  | call t g as => exact gb_arg (h.mem (d := .tuple (as.map argD)) (by simp)) e he
  | with_ a l ks b =>
    rw [show exprS (.with_ a l ks b) = a.2.filterMap valE ++ l.2.filterMap valE from List.filterMap_append] at he
    rcases List.mem_append.mp he with z | z
    · exact gb_arg ((h.mem (d := calD a) (by simp)).mem (d := .tuple (a.2.map argD)) (by simp)) e z
    · exact gb_arg ((h.mem (d := calD l) (by simp)).mem (d := .tuple (l.2.map argD)) (by simp)) e z
  | _ => cases he

/-! ### every statement within a good block is good -/
mutual
theorem ok_allS : ∀ (s : St) (n : Nat), okS s → ∀ p ∈ allS s n, okS p.2
  | .ite a b, n, h, p, hp => by
    have h : (a.length ≤ 20000 ∧ okL a) ∧ (b.length ≤ 20000 ∧ okL b) := h
    rcases List.mem_append.mp (show p ∈ allB a n ++ allB b (n + szB a) from hp) with z | z
    · exact ok_allB a _ h.1.2 p z
    · exact ok_allB b _ h.2.2 p z
  | .whl b, n, h, p, hp => ok_allB b n (show b.length ≤ 20000 ∧ okL b from h).2 p hp
  | .try_ b hs f, n, h, p, hp => by
    have h : (b.length ≤ 20000 ∧ okL b) ∧ (hs.length ≤ 20000 ∧ okHs hs) ∧ (f.length ≤ 20000 ∧ okL f) := h
    rcases List.mem_append.mp (show p ∈ allB b n ++ (allHs hs (n + szB b) ++ allB f (n + szB b + szHs hs)) from hp) with z | z
    · exact ok_allB b _ h.1.2 p z
    · rcases List.mem_append.mp z with z | z
      · exact ok_allHs hs _ h.2.1.2 p z
      · exact ok_allB f _ h.2.2.2 p z
  | .undo ns b, n, h, p, hp => ok_allB b n (show (ns ≠ [] ∧ okNs ns) ∧ (b.length ≤ 20000 ∧ okL b) from h).2.2 p hp
  | .with_ e l ks b, n, h, p, hp => ok_allB b n (show (okCal e ∧ okCal l ∧ okNs ks) ∧ (b.length ≤ 20000 ∧ okL b) from h).2.2 p hp
  | .set _ _, _, _, p, hp => nomatch hp
  | .input _, _, _, p, hp => nomatch hp
  | .call _ _ _, _, _, p, hp => nomatch hp
  | .risk _, _, _, p, hp => nomatch hp
  | .raise _, _, _, p, hp => nomatch hp
  | .ret _, _, _, p, hp => nomatch hp
theorem ok_allB : ∀ (b : List St) (n : Nat), okL b → ∀ p ∈ allB b n, okS p.2
  | [], _, _, p, hp => nomatch hp
  | s :: r, n, h, p, hp => by
    have h : okS s ∧ okL r := h
    rcases List.mem_cons.mp (show p ∈ (n, s) :: (allS s (n + 1) ++ allB r (n + 1 + szS s)) from hp) with z | z
    · rw [z]; exact h.1
    · rcases List.mem_append.mp z with z | z
      · exact ok_allS s _ h.1 p z
      · exact ok_allB r _ h.2 p z
theorem ok_allH : ∀ (x : Hd) (n : Nat), okH x → ∀ p ∈ allH x n, okS p.2
  | .mk ks b, n, h, p, hp => ok_allB b n (show (ks ≠ [] ∧ okNs ks) ∧ (b.length ≤ 20000 ∧ okL b) from h).2.2 p hp
theorem ok_allHs : ∀ (hs : List Hd) (n : Nat), okHs hs → ∀ p ∈ allHs hs n, okS p.2
  | [], _, _, p, hp => nomatch hp
  | x :: r, n, h, p, hp => by
    have h : okH x ∧ okHs r := h
    rcases List.mem_append.mp (show p ∈ allH x n ++ allHs r (n + szH x) from hp) with z | z
    · exact ok_allH x _ h.1 p z
    · exact ok_allHs r _ h.2 p z
end

/-! ### has_great_number -/
abbrev sGrt : Stmt := topS 53
abbrev NGrt : List Str := ["tree", "found", "name", "params", "block", "place", "statement", "constant", "terms", "word", "factor"]
abbrev PGrt : List Str := ["tree"]
theorem scGrt : FnScope NGrt PGrt (defScope sGrt) := ⟨rfl, rfl, rfl, by decide +kernel, rfl, by decide +kernel, by decide +kernel⟩
def LIM : Int := 1000000000000
def exsF (f : Fn) : List Ex := (allB f.b 0).flatMap fun p => exprS p.2
def exsT (t : Tr) : List Ex := t.keeps ++ t.fns.flatMap exsF
def smallE (e : Ex) : Prop := (e.c.natAbs : Int) < LIM ∧ ∀ p ∈ e.ts, (p.2.natAbs : Int) < LIM
def spGrt (K : PySem.W.Frag) (n : Nat) : Sp := fun vs H Q _ => ∃ (v : V) (t : Tr), vs = [v] ∧ Dp K H v (trD t) ∧ okTr n t ∧ (∀ f ∈ t.fns, szB f.b ≤ 20000) ∧ (exsT t).length ≤ 20000 ∧ (∀ e ∈ exsT t, smallE e ∧ e.ts.length ≤ 20000) ∧ ∀ H', Same H H' → Q (.bl false) H'
section
variable {P : Program} {w : World} {K : PySem.W.Frag} {mg : Str → Option Value} {base : Heap}
def ab (x : Int) : Int := if x < 0 then -x else x
theorem ab_lt {x : Int} (h : (x.natAbs : Int) < LIM) : ab x < LIM := by
  unfold ab
  split <;> omega
theorem bb_max : bootBuiltins "max" = some (.builtin "max") := by decide +kernel
theorem bb_abs : bootBuiltins "abs" = some (.builtin "abs") := by decide +kernel
theorem ok_Grt {n : Nat} {f : Addr} {fd : FuncData} (F : Fun K "has_great_number" "has_great_number" sGrt f fd) (T : TxChk mg) (cL : ∃ u, mg "LIMIT" = some u ∧ RelV (.int LIM) u) (GA : Has P w K mg base CX0 (4 + n) "all_numbered" PAllN (spAllN K n)) (GE : Has P w K mg base CX0 1 "expressions_of" PExs (spExs K)) : FnOk P w K mg base CX0 (4 + n + 1) f fd PGrt (spGrt K n) := by
  refine F.ok scGrt (fun vs H Q E h => ?_) (fun cdv A outer s H vs Q E hr h => ?_)
  · obtain ⟨q, l, rfl, _⟩ := h
    rfl
  · obtain ⟨v, t, rfl, hv, ok, sz, tot, sm, k⟩ := h
    have hr1 := hr.mono (j := 1) (show 1 ≤ 4 + n by omega)
    refine ⟨_, (pss_cons (ps_set (i := 1) scGrt.nd rfl (Or.inl rfl) (pe_callTy call_list_of (by rfl) T.n_list bb_list (pa_cons (pe_ix (r := rIxT K) ix_tup (pv 0) pe_int (fun _ _ => rfl)) pa_nil)))
  (pss_cons (ps_for PassesOwn.never rfl (pi_tup (pe_ix (r := rIxT K) ix_tup (pv 0) pe_int (fun _ _ => rfl))) (pg_tup (by rfl) (pgs_cons (pg_name (i := 2) scGrt.nd rfl (Or.inl rfl)) (pgs_cons (pg_name (i := 3) scGrt.nd rfl (Or.inl rfl)) (pgs_cons (pg_name (i := 4) scGrt.nd rfl (Or.inl rfl)) pgs_nil))))
  (pss_one (ps_for PassesOwn.never rfl (pi_list (pe_callH GA hr rfl pass0 (pa_cons (pv 4) (pa_cons pe_int pa_nil)))) (pg_tup (by rfl) (pgs_cons (pg_name (i := 5) scGrt.nd rfl (Or.inl rfl)) (pgs_cons (pg_name (i := 6) scGrt.nd rfl (Or.inl rfl)) pgs_nil)))
  (pss_one (ps_expr (pe_bm PySem.F.plainAttrs_list PySem.F.slot_list_extend PySem.F.type_list_extend mt_extend (pv 1) (pa_cons (pe_callH GE hr1 rfl pass0 (pa_cons (pv 6) pa_nil)) pa_nil)))))))
  (pss_cons (ps_for PassesOwn.never rfl (pi_list (pv 1)) (pg_tup (by rfl) (pgs_cons (pg_name (i := 7) scGrt.nd rfl (Or.inl rfl)) (pgs_cons (pg_name (i := 8) scGrt.nd rfl (Or.inl rfl)) pgs_nil)))
  (pss_one (ps_if (pt_cmpR op_ge (pe_callB (cr_max rfl) (by rfl) T.n_max bb_max (pa_cons (pe_op op_cat (pe_lst (pa_cons (pe_callB call_abs (by rfl) T.n_abs bb_abs (pa_cons (pv 7) pa_nil)) pa_nil)) (pe_lc (own := [("word", 9), ("factor", 10)]) (g := gTup K 2 (gCons (gName 9) (gCons (gName 10) gNil))) (tt := tYes) rfl scGrt.nd (pi_tup (pv 8)) (blkOk_by (own := [("word", 9), ("factor", 10)]) (N := NGrt) (sc := (defScope sGrt)) (by decide +kernel)) (fun _ _ _ _ _ => (pg_tup (by rfl) (pgs_cons (pg_name (i := 9) scGrt.nd rfl (Or.inl rfl)) (pgs_cons (pg_name (i := 10) scGrt.nd rfl (Or.inl rfl)) pgs_nil)))) (fun _ _ _ _ _ => pts_nil) (fun _ _ _ _ _ => (pe_callB call_abs (by rfl) T.n_abs bb_abs (pa_cons (pv 10) pa_nil))))) pa_nil)) (pe_globE rfl cL) (nomark _))
  (pss_one (ps_ret pe_bl))
  pss_nil)))
  (pss_one (ps_ret pe_bl))))), ?_⟩
    obtain ⟨okn, okk, oke, lf, okf⟩ := ok
    have hv : Dp K H v (.tuple [nmD t.names, nmD t.kinds, .tuple (t.keeps.map exD), .tuple (t.fns.map fnD)]) := hv
    obtain ⟨a, xs, rfl, hq, hd⟩ := hv.tupInv
    obtain ⟨x0, x1, x2, x3, rfl, _, _, h2, h3⟩ := hd.four
    obtain ⟨b, ys, rfl, hb, hbd⟩ := h2.tupInv
    obtain ⟨c, zs, rfl, hc, hcd⟩ := h3.tupInv
    have pk := DpAll.map hbd
    have pf := DpAll.map hcd
    refine ⟨_, rfl, a, _, _, _, rfl, rfl, hq, rfl, b, _, rfl, .inr hb, fun q hq1 => ?_⟩
    have s1 := same_new (o := .lst ys) hq1
    refine ⟨_, rfl, a, _, _, _, rfl, rfl, SqT.same s1 hq, rfl, c, rfl, ⟨_, SqT.same s1 hc⟩, ?_⟩
    refine for_tup (K := K) (a := c) (xs := zs) (fun j σ H' => (∃ x2 x3 x4 x5 x6 x7 : Option V, σ = [some (.ref a), some (.ref q), x2, x3, x4, x5, x6, x7, none, none, none]) ∧ Same H H' ∧ ∃ us, H' q = some (.lst us) ∧ Paired (fun x e => Dp K H' x (exD e)) us (t.keeps ++ (t.fns.take j).flatMap exsF)) ⟨⟨_, _, _, _, _, _, rfl⟩, s1, ys, upd_same, by rw [List.take_zero, List.flatMap_nil, List.append_nil]; exact Paired.mapP pk fun _ _ z => z.same s1⟩ (fun j σ H' _ h' => SqT.same h'.2.1 hc) ?_ ?_
    · rintro j x σ H1 hx ⟨⟨x2, x3, x4, x5, x6, x7, rfl⟩, s2, us, eq, pu⟩
      obtain ⟨fn, hfn, hfd⟩ := Paired.at pf hx
      have mf := List.mem_of_getElem? hfn
      have okn := okf fn mf
      have hfd : Dp K H x (.tuple [.str fn.name, .tuple (fn.ps.map prD), blD fn.b]) := hfd
      obtain ⟨d, ds, rfl, hd1, hdd⟩ := hfd.tupInv
      obtain ⟨u1, u2, u3, rfl, g1, g2, g3⟩ := hdd.three
      refine ⟨d, _, rfl, SqT.same s2 hd1, rfl, _, _, rfl, _, _, rfl, _, _, rfl, rfl, ?_⟩
      refine ⟨_, rfl, u3, fn.b, 0, rfl, g3.same s2, okn.2.2.2.1, okn.2.2.1, sz fn mf, fun L ls H2 s3 nL eL pL => ?_⟩
      have qL : q ≠ L := ne_of_none eq nL
      have efl : (t.fns.take (j + 1)).flatMap exsF = (t.fns.take j).flatMap exsF ++ exsF fn := flat_snoc (f := exsF) hfn
      have lfl := flat_len (f := exsF) (l := t.fns) (j + 1)
      rw [efl, List.length_append] at lfl
      have tot2 : t.keeps.length + (t.fns.flatMap exsF).length ≤ 20000 := by rw [← List.length_append]; exact tot
      refine ⟨L, rfl, ⟨_, SqL.of eL⟩, ?_⟩
      refine for_list (K := K) (a := L) (xs := ls) (fun i σ H' => (∃ x5 x6 x7 : Option V, σ = [some (.ref a), some (.ref q), some u1, some u2, some u3, x5, x6, x7, none, none, none]) ∧ Same H H' ∧ H' L = some (.lst ls) ∧ Tps H2 H' ∧ ∃ us, H' q = some (.lst us) ∧ Paired (fun x e => Dp K H' x (exD e)) us ((t.keeps ++ (t.fns.take j).flatMap exsF) ++ ((allB fn.b 0).take i).flatMap fun p => exprS p.2)) ⟨⟨_, _, _, rfl⟩, s2.trans s3, eL, Tps.refl, us, s3 _ _ eq, by rw [List.take_zero, List.flatMap_nil, List.append_nil]; exact Paired.mapP pu fun _ _ z => z.same s3⟩ (fun j σ H' _ h' => SqL.of h'.2.2.1) ?_ ?_
      · rintro i y σ H3 hy ⟨⟨x5, x6, x7, rfl⟩, s4, eL3, t3, ws, eq3, pw⟩
        obtain ⟨⟨num, st⟩, hp, hpd⟩ := Paired.at pL hy
        obtain ⟨e, u, rfl, hqe, hde⟩ := hpd.tps t3
        have oks := ok_allB fn.b 0 okn.2.2.1.2 _ (List.mem_of_getElem? hp)
        refine ⟨e, _, rfl, hqe, rfl, _, _, rfl, _, _, rfl, rfl, ?_⟩
        refine ⟨_, rfl, .inl ⟨rfl, _, SqL.of eq3⟩, _, rfl, u, st, rfl, hde, oks, fun M ms H4 s5 nM eM pM => ?_⟩
        have e2 : ((allB fn.b 0).take (i + 1)).flatMap (fun p => exprS p.2) = (((allB fn.b 0).take i).flatMap fun p => exprS p.2) ++ exprS st := flat_snoc (f := fun p : Nat × St => exprS p.2) hp
        have l2 := flat_len (f := fun p : Nat × St => exprS p.2) (l := allB fn.b 0) (i + 1)
        rw [e2, List.length_append, ← Paired.length pM] at l2
        have lw := Paired.length pw
        rw [List.length_append, List.length_append] at lw
        have l3 : (exsF fn).length = ((allB fn.b 0).flatMap fun p => exprS p.2).length := rfl
        have eq4 := s5 _ _ eq3
        refine ⟨q, M, _, _, rfl, rfl, eq4, eM, Nat.le_of_lt (sizeBig (by omega)), ?_⟩
        have t5 : Tps H4 (upd H4 q (.lst (ws ++ ms))) := Tps.lst eq4
        have t6 := (Tps.of s5).trans t5
        refine ⟨⟨_, _, _, rfl⟩, fun c o z => ?_, ?_, t3.trans t6, _, upd_same, ?_⟩
        · rw [upd_ne (ne_of_none z hq1)]
          exact s5 _ _ (s4 _ _ z)
        · rw [upd_ne qL.symm]
          exact s5 _ _ eL3
        · rw [e2, ← List.append_assoc]
          exact Paired.app (Paired.mapP pw fun _ e z => z.tps t6 (noL_ex e)) (Paired.mapP pM fun _ e z => z.tps t5 (noL_ex e))
      · rintro σ H3 ⟨⟨x5, x6, x7, rfl⟩, s4, eL3, t3, ws, eq3, pw⟩
        rw [Paired.length pL, List.take_length] at pw
        refine ⟨⟨_, _, _, _, _, _, rfl⟩, s4, ws, eq3, ?_⟩
        rw [efl, ← List.append_assoc]
        exact pw
    · rintro σ H1 ⟨⟨x2, x3, x4, x5, x6, x7, rfl⟩, s2, us, eq, pu⟩
      rw [Paired.length pf, List.take_length] at pu
      have pu : Paired (fun x e => Dp K H1 x (exD e)) us (exsT t) := pu
      refine ⟨_, rfl, q, rfl, ⟨_, SqL.of eq⟩, ?_⟩
      refine for_list (K := K) (a := q) (xs := us) (fun i σ H' => (∃ x7 x8 : Option V, σ = [some (.ref a), some (.ref q), x2, x3, x4, x5, x6, x7, x8, none, none]) ∧ Same H1 H') ⟨⟨_, _, rfl⟩, Same.refl _⟩ (fun j σ H' _ h' => SqL.of (h'.2 _ _ eq)) ?_ ?_
      · rintro j x σ H2 hx ⟨⟨x7, x8, rfl⟩, s3⟩
        obtain ⟨e, he, hed⟩ := Paired.at pu hx
        have ⟨sme, le⟩ := sm e (List.mem_of_getElem? he)
        have hed : Dp K H1 x (.tuple [.int e.c, .tuple (e.ts.map fun p => .tuple [.str p.1, .int p.2])]) := hed
        obtain ⟨d, ds, rfl, hd1, hdd⟩ := hed.tupInv
        obtain ⟨u1, u2, rfl, g1, g2⟩ := hdd.two
        rw [g1.intInv] at hd1
        obtain ⟨b2, ts, rfl, hb2, hbd2⟩ := g2.tupInv
        have pt := DpAll.map hbd2
        have lt : ts.length = e.ts.length := Paired.length pt
        refine ⟨d, _, rfl, SqT.same s3 hd1, rfl, _, _, rfl, _, _, rfl, rfl, ?_⟩
        refine ⟨_, rfl, _, rfl, (by show 1 ≤ sizeLine; decide), fun p hp => ?_⟩
        have s4 := same_new (o := .lst [V.int (ab e.c)]) hp
        have ep : upd H2 p (.lst [V.int (ab e.c)]) p = some (.lst [V.int (ab e.c)]) := upd_same
        have s5 := s3.trans s4
        refine ⟨_, rfl, b2, rfl, ⟨_, SqT.same s5 hb2⟩, fun D hD => ?_⟩
        refine lc_tup (K := K) (a := b2) (xs := ts) (fun i H' => Same (upd H2 p (.lst [V.int (ab e.c)])) H' ∧ H' D = some (.lst (((e.ts.take i).map fun p => ab p.2).map V.int))) ⟨same_new hD, upd_same⟩ (fun i H' _ h' => SqT.same (s5.trans h'.1) hb2) ?_ ?_
        · rintro i z H4 hz ⟨s6, eD⟩
          obtain ⟨pr, ht, htd⟩ := Paired.at pt hz
          obtain ⟨c3, zs3, rfl, hc3, hcd3⟩ := htd.tupInv
          obtain ⟨u, w, rfl, hu, hw⟩ := hcd3.two
          rw [hu.strInv, hw.intInv] at hc3
          have hi : i < ts.length := (List.getElem?_eq_some_iff.mp hz).1
          refine ⟨c3, _, rfl, SqT.same (s5.trans s6) hc3, rfl, _, _, rfl, _, _, rfl, rfl, rfl, ?_⟩
          refine ⟨_, rfl, _, rfl, _, eD, smallX (by rw [List.length_map, List.length_map, List.length_take]; omega), fun c o z => ?_, ?_⟩
          · rw [upd_ne (ne_of_none z hD)]
            exact s6 _ _ z
          · rw [upd_same, take_snoc ht, List.map_append, List.map_append]
            rfl
        · rintro H4 ⟨s6, eD⟩
          rw [lt, List.take_length] at eD
          refine ⟨p, D, _, _, rfl, rfl, s6 _ _ ep, eD, Nat.le_of_lt (sizeBig (by rw [List.length_map, List.length_map]; show 1 + _ ≤ _; omega)), fun r hr => ?_⟩
          have s7 := same_new (o := .lst ([V.int (ab e.c)] ++ (e.ts.map fun p => ab p.2).map V.int)) hr
          refine ⟨r, ab e.c :: e.ts.map fun p => ab p.2, rfl, SqL.of upd_same, Nat.succ_pos _, fun m hm _ => ?_⟩
          have hl : m < LIM := by
            rcases List.mem_cons.mp hm with z | z
            · rw [z]; exact ab_lt sme.1
            · obtain ⟨y, hy, rfl⟩ := List.mem_map.mp z
              exact ab_lt (sme.2 y hy)
          refine ⟨_, _, rfl, rfl, _, rfl, iteE (decide_eq_false (by omega)) ?_⟩
          exact ⟨⟨_, _, rfl⟩, (s5.trans s6).trans s7⟩
      · rintro σ H2 ⟨_, s3⟩
        exact k _ (s2.trans s3)
end

/-! ### max(list of ints, default=d) -/
section
variable {prog : Program} {w : World} {A : Around} {R : Result → Shared → Prop} {I : Addr} {fp wr : List Addr} {n : Nat} {P : Nat → Value → Prop} {Sx : Nat → Heap → Prop} {kw : List (Str × Value)}
theorem mxd_step (W : Walks prog w A.in1 I fp wr n P Sx) (bt : Nat → Nat → Bool) (cm : CmpOf prog w A.in1 .Gt P bt) (T : Addr) (nT : T ∉ fp) :
    ∀ (k j : Nat) (s : Shared) (best : Value) (c : Nat), n - (j + 1) = k → j + 1 ≤ n → Sx (j + 1) s.heap → P (argBest bt j) best →
      s.heap.get? T = some { cls := .type "list", dict := none, data := .seq #[best, best] c, slots := #[] } →
      (∀ v h2 tk, P (argBest bt (n - 1)) v → (∀ b o, b ∉ wr → b ≠ T → s.heap.get? b = some o → h2.get? b = some o) → R (.ok (.ret v)) { s with heap := h2, toks := tk }) →
      codeAny (model prog w) A (.builtin "max.loop" ⟨[.ref I, .none, .ref T], kw⟩) R s := by
  have wT : T ∉ wr := fun z => nT (W.sub _ z)
  have nm : (toString "max" ++ toString ".loop" : String) = "max.loop" := by decide
  intro k
  induction k with
  | zero =>
    intro j s best c ek hj st hp hT hR
    have ej : j + 1 = n := by omega
    refine codeAny_builtin PySem.F.entry_max_loop ?_
    rw [Around.under_plainId PySem.F.plain_max_loop]
    show wpAny _ A.in1 (seqItems? (.ref T) >>= _) _ _ _
    refine wpAny_bind (wpAny_seqItems hT rfl ?_)
    show wpAny _ A.in1 (tryCatch (pyNext (.ref I)) _ >>= _) _ _ _
    refine wpAny_bind (wpAny_tryCatch (W.done s _ _ (ej ▸ st) fun h2 tk kp => ?_))
    have hT2 := kp T _ wT hT
    show wpAny _ A.in1 (updateSeq T (fun _ => #[]) >>= _) _ _ _
    refine wpAny_bind (wpAny_updateSeq hT2 rfl (wpAny_bind (wpAny_letGo (wpAny_pure ?_))))
    exact hR best _ tk (by rw [← ej]; exact hp) fun b o hb hbT e => (Heap.get?_update_other _ _ (Ne.symm hbT)).trans (kp b o hb e)
  | succ k ih =>
    intro j s best c ek hj st hp hT hR
    have lt : j + 1 < n := by omega
    refine codeAny_builtin PySem.F.entry_max_loop ?_
    rw [Around.under_plainId PySem.F.plain_max_loop]
    show wpAny _ A.in1 (seqItems? (.ref T) >>= _) _ _ _
    refine wpAny_bind (wpAny_seqItems hT rfl ?_)
    show wpAny _ A.in1 (tryCatch (pyNext (.ref I)) _ >>= _) _ _ _
    refine wpAny_bind (wpAny_tryCatch (W.item (j + 1) s _ _ lt st fun v h2 tk hv st2 kp => ?_))
    have hT2 := kp T _ wT hT
    show wpAny _ A.in1 (tryCatch (holding [v, v] (richCompare .Gt v best >>= _)) _ >>= _) _ _ _
    refine wpAny_bind (wpAny_tryCatch (wpAny_holding (wpAny_bind (cm (j + 1) (argBest bt j) v best _ _ _ hv hp ?_))))
    refine wpAny_bind (wpAny_holding (wpAny_truthy_bool ?_))
    refine wpAny_bind (wpAny_letGo (wpAny_pure ?_))
    cases hb : bt (j + 1) (argBest bt j) with
    | true =>
      simp only [if_true]
      refine wpAny_bind (wpAny_updateSeq hT2 rfl (wpAny_bind (wpAny_letGo ?_)))
      rw [nm]
      have sf : Sx (j + 1 + 1) (h2.update T (Obj.mapSeq fun _ => #[v, v])) := W.frame _ _ _ st2 fun b hbf o e => (Heap.get?_update_other _ _ (fun z : T = b => nT (by rw [z]; exact hbf))).trans e
      refine wpAny_pure ⟨plainId_quiet PySem.F.plain_max_loop _, ih (j + 1) _ v _ (by omega) lt sf (by simp only [argBest, hb, if_true]; exact hv) (Heap.get?_update_self _ hT2 rfl) fun v3 h3 tk3 hp3 kp3 => ?_⟩
      exact hR v3 h3 tk3 hp3 fun b o q1 q2 e => kp3 b o q1 q2 ((Heap.get?_update_other _ _ (Ne.symm q2)).trans (kp b o q1 e))
    | false =>
      simp only [Bool.false_eq_true, if_false]
      refine wpAny_bind (wpAny_letGo ?_)
      rw [nm]
      refine wpAny_pure ⟨plainId_quiet PySem.F.plain_max_loop _, ih (j + 1) _ best c (by omega) lt st2 (by simp only [argBest, hb, Bool.false_eq_true, if_false]; exact hp) hT2 fun v3 h3 tk3 hp3 kp3 => ?_⟩
      exact hR v3 h3 tk3 hp3 fun b o q1 q2 e => kp3 b o q1 q2 (kp b o q1 e)
theorem mxd_first (W : Walks prog w A.in1 I fp wr n P Sx) (bt : Nat → Nat → Bool) (cm : CmpOf prog w A.in1 .Gt P bt) (T : Addr) (nT : T ∉ fp) (hn : 0 < n) {s : Shared} {c : Nat} (st : Sx 0 s.heap)
    (hT : s.heap.get? T = some { cls := .type "list", dict := none, data := .seq #[] c, slots := #[] })
    (hR : ∀ v h2 tk, P (argBest bt (n - 1)) v → (∀ b o, b ∉ wr → b ≠ T → s.heap.get? b = some o → h2.get? b = some o) → R (.ok (.ret v)) { s with heap := h2, toks := tk }) :
    codeAny (model prog w) A (.builtin "max.loop" ⟨[.ref I, .none, .ref T], kw⟩) R s := by
  have wT : T ∉ wr := fun z => nT (W.sub _ z)
  have nm : (toString "max" ++ toString ".loop" : String) = "max.loop" := by decide
  refine codeAny_builtin PySem.F.entry_max_loop ?_
  rw [Around.under_plainId PySem.F.plain_max_loop]
  show wpAny _ A.in1 (seqItems? (.ref T) >>= _) _ _ _
  refine wpAny_bind (wpAny_seqItems hT rfl ?_)
  show wpAny _ A.in1 (tryCatch (pyNext (.ref I)) _ >>= _) _ _ _
  refine wpAny_bind (wpAny_tryCatch (W.item 0 s _ _ hn st fun v h2 tk hv st2 kp => ?_))
  have hT2 := kp T _ wT hT
  show wpAny _ A.in1 (updateSeq T (fun _ => #[v, v]) >>= _) _ _ _
  refine wpAny_bind (wpAny_updateSeq hT2 rfl ?_)
  rw [nm]
  have sf : Sx (0 + 1) (h2.update T (Obj.mapSeq fun _ => #[v, v])) := W.frame _ _ _ st2 fun b hbf o e => (Heap.get?_update_other _ _ (fun z : T = b => nT (by rw [z]; exact hbf))).trans e
  refine wpAny_pure ⟨plainId_quiet PySem.F.plain_max_loop _, mxd_step W bt cm T nT _ 0 _ v _ rfl hn sf hv (Heap.get?_update_self _ hT2 rfl) fun v3 h3 tk3 hp3 kp3 => ?_⟩
  exact hR v3 h3 tk3 hp3 fun b o q1 q2 e => kp3 b o q1 q2 ((Heap.get?_update_other _ _ (Ne.symm q2)).trans (kp b o q1 e))
theorem mxd_none {d : Value} {x : Str} (W : Walks prog w A.in1 I fp wr 0 P Sx) (T : Addr) (nT : T ∉ fp) {s : Shared} {c : Nat} (st : Sx 0 s.heap)
    (hT : s.heap.get? T = some { cls := .type "list", dict := none, data := .seq #[] c, slots := #[] })
    (hR : ∀ h2 tk, (∀ b o, b ∉ wr → b ≠ T → s.heap.get? b = some o → h2.get? b = some o) → R (.ok (.ret d)) { s with heap := h2, toks := tk }) :
    codeAny (model prog w) A (.builtin "max.loop" ⟨[.ref I, .none, .ref T], [(x, d)]⟩) R s := by
  refine codeAny_builtin PySem.F.entry_max_loop ?_
  rw [Around.under_plainId PySem.F.plain_max_loop]
  show wpAny _ A.in1 (seqItems? (.ref T) >>= _) _ _ _
  refine wpAny_bind (wpAny_seqItems hT rfl ?_)
  show wpAny _ A.in1 (tryCatch (pyNext (.ref I)) _ >>= _) _ _ _
  refine wpAny_bind (wpAny_tryCatch (W.done s _ _ st fun h2 tk kp => ?_))
  show wpAny _ A.in1 (rule _ >>= _) _ _ _
  refine wpAny_bind (wpAny_rule (wpAny_pure ?_))
  exact hR h2 tk fun b o q1 _ e => kp b o q1 e
end
section
variable {prog : Program} {w : World} {A : Around} {E : Value → Shared → Prop} {s : Shared}
theorem mxd_args (a d : Value) : argsOk "max" ⟨[a], [(Str.ofString "default", d)]⟩ := by unfold argsOk; kernel_rfl
theorem mxd_call {x d : Value} {Q : Value → Shared → Prop}
    (h : wpAny (model prog w) A.in1 (pyIter x) (fun it s₂ => ∃ I fp wr n P Sx bt, it = .ref I ∧ Walks prog w A.in1 I fp wr n P Sx ∧ Sx 0 s₂.heap ∧ (∀ b ∈ fp, b < s₂.heap.objs.size) ∧ CmpOf prog w A.in1 .Gt P bt ∧
      (n = 0 → ∀ h2 tk, (∀ b o, b ∉ wr → s₂.heap.get? b = some o → h2.get? b = some o) → Q d { s₂ with heap := h2, toks := tk }) ∧
      (0 < n → ∀ v h2 tk, P (argBest bt (n - 1)) v → (∀ b o, b ∉ wr → s₂.heap.get? b = some o → h2.get? b = some o) → Q v { s₂ with heap := h2, toks := tk })) E s) :
    wpAny (model prog w) A (call (.builtin "max") [x] [(Str.ofString "default", d)]) Q E s := by
  have nm : (toString "max" ++ toString ".loop" : String) = "max.loop" := by decide
  refine PyProof.Rows.kmk_tree PySem.F.kind_max PySem.F.plain_max PySem.F.entry_max (mxd_args _ _) ?_
  show wpAny _ A.in1 (Builtin.Builtins.bindParams "max" ["key", "default"] 0 ⟨[], [(Str.ofString "default", d)]⟩ >>= _) _ _ s
  refine wpAny_bind (wpAny_of_eq (show Builtin.Builtins.bindParams "max" ["key", "default"] 0 ⟨[], [(Str.ofString "default", d)]⟩ = pure [none, some d] from rfl) ?_)
  refine wpAny_bind (wpAny_pure ?_)
  refine wpAny_bind (wpAny_mono h (fun it s₂ h₂ => ?_) fun _ _ e => e)
  obtain ⟨I, fp, wr, n, P, Sx, bt, rfl, W, st, hfp, cm, h0, h1⟩ := h₂
  refine wpAny_bind (wpAny_newObj_type ?_)
  have nS : s₂.heap.objs.size ∉ fp := fun hm => Nat.lt_irrefl _ (hfp _ hm)
  have sf : Sx 0 (s₂.heap.push { cls := .type "list", data := .seq #[] 0 }) := W.frame _ _ _ st fun b _ o e => Heap.get?_push_of_some _ e
  rw [nm]
  by_cases hn : n = 0
  · subst hn
    refine wpAny_pure ⟨plainId_quiet PySem.F.plain_max_loop _, mxd_none W s₂.heap.objs.size nS sf (Heap.get?_push_size _ rfl) fun h2 tk kp => ?_⟩
    exact h0 rfl h2 tk fun b o q e => kp b o q (Nat.ne_of_lt (Heap.lt_size e)) (Heap.get?_push_of_some _ e)
  · refine wpAny_pure ⟨plainId_quiet PySem.F.plain_max_loop _, mxd_first W bt cm s₂.heap.objs.size nS (by omega) sf (Heap.get?_push_size _ rfl) fun v h2 tk hp kp => ?_⟩
    exact h1 (by omega) v h2 tk hp fun b o q e => kp b o q (Nat.ne_of_lt (Heap.lt_size e)) (Heap.get?_push_of_some _ e)
end
/-- m is the greatest of ns, or d if there is none -/
def MaxIs (d : Int) (ns : List Int) (m : Int) : Prop := (ns = [] ∧ m = d) ∨ (m ∈ ns ∧ ∀ y ∈ ns, y ≤ m)
def rMaxDf (K : PySem.W.Frag) : List V → List V → Hp → VK → Prop := fun vs zs H Q => ∃ (a : Addr) (ns : List Int) (d : Int), vs = [.ref a] ∧ zs = [.int d] ∧ SqL K H a (ns.map V.int) ∧ ∀ m, MaxIs d ns m → Q (.int m) H
theorem cr_maxDf {X : Cx} (hc : X.calm = true) : CallRK X (.builtin "max") [Str.ofString "default"] (rMaxDf X.K) := by
  intro pins s σ H vs zs us ws Q I r rz h
  obtain ⟨a, ns, d, rfl, rfl, hs, q⟩ := h
  obtain ⟨its, rv, hl, _⟩ := I.list hs
  rw [Vals.ref1 r]
  obtain ⟨w1, rfl, ⟨td, rfl⟩⟩ := vals1 rz
  have hl := hl.isList
  have hi := rv.ints
  obtain ⟨xs, e⟩ := hi.allInts.items
  have hn : numsOf (intItems xs).toList = ns := by rw [← e]; exact hi.numsOf
  rw [nums_intItems] at hn
  subst hn
  rw [e] at hl
  refine mxd_call (iter_intList hl fun s₂ e st hfp hlI => ?_)
  subst e
  refine ⟨_, _, _, _, _, _, _, rfl, Walks.list (A := X.A.in1) (I.ok.hd hc) _ a hlI (intItems xs), st, hfp, CmpOf.ints_gt (numAt xs) (fun _ _ => intItems_at), fun h0 h2 tk kp => ?_, fun h0 v h2 tk hp kp => ?_⟩
  · have h0 : xs.size = 0 := by simpa [intItems] using h0
    exact ⟨.int d, H, I.kept (old_kept kp), ⟨_, rfl⟩, q _ (.inl ⟨by rw [List.map_eq_nil_iff, ← List.length_eq_zero_iff, Array.length_toList]; exact h0, rfl⟩)⟩
  · have h0 : 0 < xs.size := by simpa [intItems] using h0
    have hp : (intItems xs)[argBest (fun i j => decide (numAt xs i > numAt xs j)) (xs.size - 1)]? = some v := by simpa [intItems] using hp
    obtain ⟨t, rfl⟩ := intItems_at hp
    obtain ⟨h1, h3⟩ := argBest_gt (numAt xs) (xs.size - 1)
    refine ⟨.int _, H, I.kept (old_kept kp), ⟨_, rfl⟩, q _ (.inr ⟨?_, fun y hy => ?_⟩)⟩
    · rw [numAt_eq]; exact PySem.getD_mem (by rw [List.length_map, Array.length_toList]; omega)
    · obtain ⟨j, hj, rfl⟩ := mem_getD hy
      rw [List.length_map, Array.length_toList] at hj
      rw [← numAt_eq]; exact h3 j (by omega)

/-! ### depth_of -/
abbrev sDep : Stmt := topS 51
abbrev NDep : List Str := ["block", "statement", "part"]
abbrev PDep : List Str := ["block"]
theorem scDep : FnScope NDep PDep (defScope sDep) := ⟨rfl, rfl, rfl, by decide +kernel, rfl, by decide +kernel, by decide +kernel⟩
theorem dp_ex_hs : ∀ hs : List Hd, hs = [] ∨ ∃ p ∈ hs.map Hd.b, dpB p = dpHs hs
  | [] => .inl rfl
  | .mk ks b :: r => by
    refine .inr ?_
    show ∃ p ∈ b :: r.map Hd.b, dpB p = max (dpB b) (dpHs r)
    rcases dp_ex_hs r with e | ⟨p, hp, e⟩
    · subst e
      exact ⟨b, List.mem_cons_self, (Nat.max_eq_left (Nat.zero_le _)).symm⟩
    · rcases Nat.le_total (dpB b) (dpHs r) with h | h
      · exact ⟨p, List.mem_cons_of_mem _ hp, by rw [e, Nat.max_eq_right h]⟩
      · exact ⟨b, List.mem_cons_self, by rw [Nat.max_eq_left h]⟩
theorem dp_max2 {a b m : Nat} {A B : Prop} (ha : A → a = m) (hb : B → b = m) (h : A ∨ B) : a = m ∨ b = m := h.elim (fun x => .inl (ha x)) fun x => .inr (hb x)
theorem dp_ex_s (s : St) : parts s = [] ∨ ∃ p ∈ parts s, dpB p = dpS s := by
  cases s with
  | ite a b =>
    refine .inr ?_
    show ∃ p ∈ [a, b], dpB p = max (dpB a) (dpB b)
    rcases Nat.le_total (dpB a) (dpB b) with h | h
    · exact ⟨b, by simp, by rw [Nat.max_eq_right h]⟩
    · exact ⟨a, by simp, by rw [Nat.max_eq_left h]⟩
  | whl b => exact .inr ⟨b, List.mem_cons_self, rfl⟩
  | undo _ b => exact .inr ⟨b, List.mem_cons_self, rfl⟩
  | with_ _ _ _ b => exact .inr ⟨b, List.mem_cons_self, rfl⟩
  | try_ b hs f =>
    refine .inr ?_
    show ∃ p ∈ b :: (hs.map Hd.b ++ [f]), dpB p = max (dpB b) (max (dpHs hs) (dpB f))
    have inner : ∃ p ∈ hs.map Hd.b ++ [f], dpB p = max (dpHs hs) (dpB f) := by
      rcases dp_ex_hs hs with e | ⟨p, hp, e⟩
      · subst e
        exact ⟨f, by simp, (Nat.max_eq_right (Nat.zero_le _)).symm⟩
      · rcases Nat.le_total (dpHs hs) (dpB f) with h | h
        · exact ⟨f, by simp, by rw [Nat.max_eq_right h]⟩
        · exact ⟨p, List.mem_append_left _ hp, by rw [Nat.max_eq_left h, e]⟩
    obtain ⟨p, hp, e⟩ := inner
    rcases Nat.le_total (dpB b) (max (dpHs hs) (dpB f)) with h | h
    · exact ⟨p, List.mem_cons_of_mem _ hp, by rw [Nat.max_eq_right h, e]⟩
    · exact ⟨b, List.mem_cons_self, by rw [Nat.max_eq_left h]⟩
  | _ => exact .inl rfl
theorem dp_none {s : St} (h : parts s = []) : dpS s = 0 := by
  cases s with
  | try_ _ _ _ => cases h
  | ite _ _ => cases h
  | whl _ => cases h
  | undo _ _ => cases h
  | with_ _ _ _ _ => cases h
  | _ => rfl
theorem dp_ex : ∀ b : List St, dpIn b = 0 ∨ ∃ p ∈ b.flatMap parts, dpB p = dpIn b
  | [] => .inl rfl
  | s :: r => by
    have hs : dpS s = 0 ∨ ∃ p ∈ parts s, dpB p = dpS s := (dp_ex_s s).imp_left dp_none
    have e : dpIn (s :: r) = max (dpS s) (dpIn r) := rfl
    rw [e, List.flatMap_cons]
    rcases Nat.le_total (dpS s) (dpIn r) with h | h
    · rw [Nat.max_eq_right h]
      exact (dp_ex r).imp_right fun ⟨p, hp, q⟩ => ⟨p, List.mem_append_right _ hp, q⟩
    · rw [Nat.max_eq_left h]
      exact hs.imp_right fun ⟨p, hp, q⟩ => ⟨p, List.mem_append_left _ hp, q⟩
theorem dp_flatp {b : List St} {p : List St} (h : p ∈ b.flatMap parts) : dpB p ≤ dpIn b := by
  obtain ⟨s, hs, hp⟩ := List.mem_flatMap.mp h
  exact Nat.le_trans (dp_part hp) (dp_mem hs)
theorem dp_max {b : List St} {m : Int} (h : MaxIs 0 ((b.flatMap parts).map fun p => ((dpB p : Nat) : Int)) m) : m = ((dpIn b : Nat) : Int) := by
  rcases h with ⟨e, rfl⟩ | ⟨hm, hle⟩
  · rw [List.map_eq_nil_iff] at e
    rcases dp_ex b with z | ⟨p, hp, _⟩
    · rw [z]; rfl
    · rw [e] at hp; cases hp
  · obtain ⟨p, hp, rfl⟩ := List.mem_map.mp hm
    have l1 := dp_flatp hp
    rcases dp_ex b with z | ⟨p2, hp2, e2⟩
    · have := dpB_eq p; omega
    · have := hle _ (List.mem_map.mpr ⟨p2, hp2, rfl⟩)
      have l2 : ((dpB p2 : Nat) : Int) ≤ ((dpB p : Nat) : Int) := this
      omega
theorem flat_small {b : List St} (ok : okL b) : (b.flatMap parts).length ≤ 20002 * b.length := by
  induction b with
  | nil => simp
  | cons s r ih =>
    have ok : okS s ∧ okL r := ok
    have l1 := parts_len ok.1
    have l2 := ih ok.2
    rw [List.flatMap_cons, List.length_append, List.length_cons]
    omega
def spDep (K : PySem.W.Frag) (n : Nat) : Sp := fun vs H Q _ => ∃ (v : V) (b : List St), vs = [v] ∧ Dp K H v (blD b) ∧ dpB b ≤ n ∧ okB b ∧ ndD (blD b) ≤ 20000 ∧ ∀ H', Same H H' → Q (.int (dpB b : Int)) H'
theorem sizeHuge {n : Nat} (h : n ≤ 1000000) : n < sizeLine := Nat.lt_of_le_of_lt h (by decide)
section
variable {P : Program} {w : World} {K : PySem.W.Frag} {mg : Str → Option Value} {base : Heap}
theorem ok_Dep {f : Addr} {fd : FuncData} (F : Fun K "depth_of" "depth_of" sDep f fd) (T : TxChk mg) (GP : Has P w K mg base CX0 1 "parts_of" PParts (spParts K)) (m : mg "depth_of" = some (.ref f)) (kp : PySem.W.keepIn K (.ref f) = true) (bd : Binds K fd PDep []) : ∀ n, FnOk P w K mg base CX0 (2 + n) f fd PDep (spDep K n) := by
  intro n
  induction n with
  | zero => exact ⟨fun vs H Q E h => by obtain ⟨_, _, _, _, h, _⟩ := h; exact (no_dp h).elim, fun _ _ _ _ _ _ _ _ _ _ _ _ _ h => by obtain ⟨_, _, _, _, h, _⟩ := h; exact (no_dp h).elim⟩
  | succ n ih =>
    have GS : Has P w K mg base CX0 (2 + n) "depth_of" PDep (spDep K n) := ⟨f, fd, ih, m, kp, bd⟩
    refine F.ok scDep (fun vs H Q E h => ?_) (fun cdv A outer s H vs Q E hr h => ?_)
    · obtain ⟨v, b, rfl, _⟩ := h
      rfl
    · obtain ⟨v, b, rfl, hv, hn, ok, gb, k⟩ := h
      have hr1 := hr.mono (j := 1) (show 1 ≤ 2 + n by omega)
      refine ⟨_, (pss_one (ps_ret (pe_op op_add pe_int (pe_callBK (cr_maxDf rfl) (by rfl) T.n_max bb_max (pa_cons (pe_lc2 (own := [("statement", 1), ("part", 2)]) (vs1 := [2]) (wi1 := iTup K (tCall (spParts K) [] E0 (tCons (tVar 1) tNil))) (g := gName 1) (g1 := gName 2) (tt := tYes) (tt1 := tYes) rfl scDep.nd (pi_tup (pv 0)) (blkOk_by (own := [("statement", 1), ("part", 2)]) (N := NDep) (sc := (defScope sDep)) (by decide +kernel)) (by decide) (fun _ _ _ _ _ => (pg_name (i := 1) scDep.nd rfl (Or.inl rfl))) (fun _ _ _ _ _ => pts_nil) (fun _ _ _ _ _ => (pi_tup (pe_callH GP hr1 rfl pass0 (pa_cons (pv 1) pa_nil)))) (fun _ _ _ _ _ => (pg_name (i := 2) scDep.nd rfl (Or.inl rfl))) (fun _ _ _ _ _ => pts_nil) (fun _ _ _ _ _ => (pe_callH GS hr rfl pass0 (pa_cons (pv 2) pa_nil)))) pa_nil) (pk_cons pe_int pk_nil))))), ?_⟩
      obtain ⟨a, xs, rfl, hq, hd⟩ := hv.tupInv
      rw [stsD_map] at hd
      have pb := hd.map
      have lx : xs.length = b.length := Paired.length pb
      have l9 : b.length ≤ 20000 := ok.1
      have lf := flat_nd b
      have gb2 : 1 + ndD.ndL (stsD b) ≤ 20000 := gb
      refine ⟨_, rfl, a, rfl, ⟨_, hq⟩, fun D hD => ?_⟩
      refine walkB (K := K) (a := a) (xs := xs) (fun i H' => Same H H' ∧ H' D = some (.lst (((b.take i).flatMap parts).map fun p => V.int (dpB p : Int)))) ⟨same_new hD, upd_same⟩ (fun i H' _ h' => SqT.same h'.1 hq) ?_ ?_
      · rintro i x H1 hx ⟨s1, eD⟩
        obtain ⟨st, hst, hsd⟩ := Paired.at pb hx
        have ms := List.mem_of_getElem? hst
        have oks := okL_mem ok.2 ms
        have fl : (b.take (i + 1)).flatMap parts = (b.take i).flatMap parts ++ parts st := flat_snoc (f := parts) hst
        have ll := flat_len (f := parts) (l := b) (i + 1)
        rw [fl, List.length_append] at ll
        refine ⟨rfl, _, rfl, x, st, rfl, hsd.same s1, okS_few oks, fun t ts H2 s2 e2 p2 => ?_⟩
        refine ⟨t, rfl, ⟨_, SqT.of e2⟩, ?_⟩
        have lt : ts.length = (parts st).length := Paired.length p2
        refine walkB (K := K) (a := t) (xs := ts) (fun j H' => Same H H' ∧ Tps H2 H' ∧ H' D = some (.lst (((b.take i).flatMap parts ++ (parts st).take j).map fun p => V.int (dpB p : Int)))) ⟨s1.trans s2, Tps.refl, by rw [List.take_zero, List.append_nil]; exact s2 _ _ eD⟩ (fun j H' _ h' => h'.2.1.sqt (SqT.of e2)) ?_ ?_
        · rintro j y H3 hy ⟨s3, t3, eD3⟩
          obtain ⟨p, hp, hpd⟩ := Paired.at p2 hy
          have hj : j < ts.length := (List.getElem?_eq_some_iff.mp hy).1
          have mp := List.mem_of_getElem? hp
          have hdp := dp_lt ms mp
          refine ⟨rfl, _, rfl, y, p, rfl, hpd.tps t3 (noL_bl p), by omega, okS_parts oks mp, Nat.le_trans (part_nd ms mp) gb, fun H4 s4 => ?_⟩
          refine ⟨_, s4 _ _ eD3, sizeHuge (by rw [List.length_map, List.length_append, List.length_take]; omega), fun c o z => ?_, t3.trans ((Tps.of s4).trans (Tps.lst (s4 _ _ eD3))), ?_⟩
          · rw [upd_ne (ne_of_none z hD)]
            exact s4 _ _ (s3 _ _ z)
          · rw [upd_same, take_snoc hp, ← List.append_assoc, List.map_append (l₂ := [p])]
            rfl
        · rintro H3 ⟨s3, t3, eD3⟩
          rw [lt, List.take_length, ← fl] at eD3
          exact ⟨s3, eD3⟩
      · rintro H1 ⟨s1, eD⟩
        rw [lx, List.take_length] at eD
        refine ⟨D, (b.flatMap parts).map fun p => ((dpB p : Nat) : Int), 0, rfl, rfl, SqL.of (by rw [eD, List.map_map]; rfl), fun m hm => ?_⟩
        rw [dp_max hm]
        have e : (1 : Int) + ((dpIn b : Nat) : Int) = ((dpB b : Nat) : Int) := by rw [dpB_eq]; omega
        refine ⟨_, _, rfl, rfl, ?_⟩
        show Q (V.int (1 + ((dpIn b : Nat) : Int))) H1
        rw [e]
        exact k _ s1
end


/-! ### wiped slots, without looking at the others -/
theorem wipe_hit {σ : L2.St} {i : Nat} : ∀ {vs : List Nat}, i ∈ vs → (wipe σ vs)[i]? = σ[i]?.map fun _ => none
  | v :: vs, h => by
    show ((wipe σ vs).set v none)[i]? = _
    rw [List.getElem?_set]
    by_cases e : v = i
    · subst e
      rw [if_pos rfl, wipe_length]
      by_cases hl : v < σ.length
      · rw [if_pos hl, List.getElem?_eq_getElem hl]; rfl
      · rw [if_neg hl, List.getElem?_eq_none (Nat.le_of_not_lt hl)]; rfl
    · rw [if_neg e]
      exact wipe_hit ((List.mem_cons.mp h).resolve_left fun z => e z.symm)
theorem wipe_in {σ : L2.St} {i : Nat} {x : Option V} {vs : List Nat} (h : i ∈ vs) : wipe (List.set σ i x) vs = wipe σ vs := by
  refine List.ext_getElem? fun j => ?_
  by_cases hj : j ∈ vs
  · rw [wipe_hit hj, wipe_hit hj, List.getElem?_set]
    by_cases e : i = j
    · subst e
      rw [if_pos rfl]
      by_cases hl : i < σ.length
      · rw [if_pos hl, List.getElem?_eq_getElem hl]; rfl
      · rw [if_neg hl, List.getElem?_eq_none (Nat.le_of_not_lt hl)]
    · rw [if_neg e]
  · rw [wipe_out hj, wipe_out hj, List.getElem?_set, if_neg (fun z : i = j => hj (by rw [← z]; exact h))]
theorem wipe_id {σ : L2.St} {vs : List Nat} : wipe (wipe σ vs) vs = wipe σ vs := by
  refine List.ext_getElem? fun j => ?_
  by_cases hj : j ∈ vs
  · rw [wipe_hit hj, wipe_hit hj]
    cases σ[j]? <;> rfl
  · rw [wipe_out hj]
theorem wipe1 {σ : L2.St} {i : Nat} {x : Option V} {vs : List Nat} (h : i ∈ vs) : wipe (List.set (wipe σ vs) i x) vs = wipe σ vs := (wipe_in h).trans wipe_id
theorem wipe2 {σ : L2.St} {i j : Nat} {x y : Option V} {vs : List Nat} (h : i ∈ vs) (h2 : j ∈ vs) : wipe (List.set (List.set (wipe σ vs) i x) j y) vs = wipe σ vs := (wipe_in h2).trans (wipe1 h)
theorem wipe3 {σ : L2.St} {i j k : Nat} {x y z : Option V} {vs : List Nat} (h : i ∈ vs) (h2 : j ∈ vs) (h3 : k ∈ vs) : wipe (List.set (List.set (List.set (wipe σ vs) i x) j y) k z) vs = wipe σ vs := (wipe_in h3).trans (wipe2 h h2)

/-! ### check_sizes -/
abbrev sChS : Stmt := topS 54
abbrev NChS : List Str := ["tree", "names", "kinds", "keeps", "functions", "own", "one", "places", "by_place", "name", "params", "block", "sizes", "other", "word", "size", "most"]
abbrev PChS : List Str := ["tree"]
theorem scChS : FnScope NChS PChS (defScope sChS) := ⟨rfl, rfl, rfl, by decide +kernel, rfl, by decide +kernel, by decide +kernel⟩
def rListOf (K : PySem.W.Frag) : List V → Hp → VK → Prop := fun xs H Q => ∃ p ys, xs = [.ref p] ∧ (SqL K H p ys ∨ SqT K H p ys) ∧ ∀ l, H l = none → Q (.ref l) (upd H l (.lst ys))
def rTupOf (K : PySem.W.Frag) : List V → Hp → VK → Prop := fun xs H Q => ∃ p ys, xs = [.ref p] ∧ ((SqL K H p ys ∧ ∀ l, H l = none → Q (.ref l) (upd H l (.tup ys))) ∨ (SqT K H p ys ∧ Q (.ref p) H))
def rLenS (K : PySem.W.Frag) : List V → Hp → VK → Prop := fun xs H Q => ∃ p ys, xs = [.ref p] ∧ (SqL K H p ys ∨ SqT K H p ys) ∧ Q (.int (ys.length : Nat)) H
def plN (f : Fn) : List Str := (f.ps.filter fun p => p.2).map Prod.fst
structure SmallT (t : Tr) : Prop where
  names : t.names.length ≤ 4
  kinds : t.kinds.length ≤ 3
  keeps : t.keeps.length ≤ 4
  fns : t.fns.length ≤ 6
  ps : ∀ f ∈ t.fns, f.ps.length ≤ 3
  pl : ∀ f ∈ t.fns, (plN f).length ≤ 2
  inn : ∀ f ∈ t.fns, (innerF t.names (prs f) f.b).length ≤ 3
  sz : (t.fns.map fun f => szB f.b).sum ≤ 60
  dp : ∀ f ∈ t.fns, dpB f.b ≤ 6
  num : (exsT t).length ≤ 20000 ∧ ∀ e ∈ exsT t, smallE e ∧ e.ts.length ≤ 20000
theorem sum_mem {α : Type} {f : α → Nat} {l : List α} {x : α} (h : x ∈ l) : f x ≤ (l.map f).sum := by
  induction l with
  | nil => cases h
  | cons y r ih =>
    rw [List.map_cons, List.sum_cons]
    rcases List.mem_cons.mp h with z | z
    · rw [z]; omega
    · have := ih z; omega
theorem SmallT.sz1 {t : Tr} (s : SmallT t) {f : Fn} (h : f ∈ t.fns) : szB f.b ≤ 60 := Nat.le_trans (sum_mem (f := fun f : Fn => szB f.b) h) s.sz
/-- what own_names gives -/
def OwnAt (D : Addr) (t : Tr) (H : Hp) (x : V) (f : Fn) : Prop := ∃ r a c, x = .ref r ∧ a ≠ D ∧ c ≠ D ∧ H r = some (.tup [.ref a, .ref c]) ∧ H a = some (.lst ((prs f).map V.str)) ∧ H c = some (.lst ((innerF t.names (prs f) f.b).map V.str))
theorem OwnAt.same {D : Addr} {H H' : Hp} (s : Same H H') {t : Tr} {x : V} {f : Fn} (h : OwnAt D t H x f) : OwnAt D t H' x f := let ⟨r, a, c, e, n1, n2, h1, h2, h3⟩ := h; ⟨r, a, c, e, n1, n2, s _ _ h1, s _ _ h2, s _ _ h3⟩
theorem OwnAt.upd {D : Addr} {H : Hp} {us zs : List V} (hD : H D = some (.lst us)) {t : Tr} {x : V} {f : Fn} (h : OwnAt D t H x f) : OwnAt D t (upd H D (.lst zs)) x f := by
  obtain ⟨r, a, c, e, n1, n2, h1, h2, h3⟩ := h
  refine ⟨r, a, c, e, n1, n2, ?_, ?_, ?_⟩
  · rw [upd_ne (ne_of h1 hD (by intro z; cases z))]; exact h1
  · rw [upd_ne n1]; exact h2
  · rw [upd_ne n2]; exact h3
/-- an entry of sizes -/
structure TxSz (mg : Str → Option Value) : Prop extends TxChk mg where
  n_int : mg "int" = none
theorem MaxIs.le {d m b : Int} {ns : List Int} (h : MaxIs d ns m) (hd : d ≤ b) (hn : ∀ y ∈ ns, y ≤ b) : m ≤ b := by
  rcases h with ⟨_, rfl⟩ | ⟨hm, _⟩
  · exact hd
  · exact hn m hm
section
variable {P : Program} {w : World} {K : PySem.W.Frag} {mg : Str → Option Value} {base : Heap}
end

/-! ### errors of own classes over any of the built-in ones: made with their one field -/
namespace XC
open PySem.W PySem.Calls PyProof.Rows
/-- which built-in makes the class: the tail of its mro, its maker -/
structure Bas (bmB : List Value) (newId : String) : Prop where
  ex : ∃ (B initId : String) (bm0 : List Value), ExcBaseFacts B newId initId bm0 ∧ bmB.contains (.type B) = true
  noA : bmB.contains (.type "AttributeError") = false
  noN : bmB.contains (.type "NameError") = false
  ob : bmB.contains (.type "object") = true
  pass : ∀ self, PySem.refuseLoop self "__setattr__" bmB = pure ()
abbrev tlV : List Value := [.type "ValueError", .type "Exception", .type "BaseException", .type "object"]
abbrev tlR : List Value := [.type "RuntimeError", .type "Exception", .type "BaseException", .type "object"]
abbrev tlK : List Value := [.type "KeyError", .type "LookupError", .type "Exception", .type "BaseException", .type "object"]
theorem basV : Bas tlV "ValueError.__new__" := ⟨⟨_, _, _, F.excBase_ValueError, by decide +kernel⟩, by decide +kernel, by decide +kernel, by decide +kernel, fun _ => by kernel_rfl⟩
theorem basR : Bas tlR "RuntimeError.__new__" := ⟨⟨_, _, _, F.excBase_RuntimeError, by decide +kernel⟩, by decide +kernel, by decide +kernel, by decide +kernel, fun _ => by kernel_rfl⟩
theorem basK : Bas tlK "LookupError.__new__" := ⟨⟨_, _, _, F.excBase_LookupError, by decide +kernel⟩, by decide +kernel, by decide +kernel, by decide +kernel, fun _ => by kernel_rfl⟩

abbrev xObj (C t : Addr) : Obj := { cls := .ref C, data := .fields #[.ref t, .none, .none, .none, .bool false, .none] }
section
variable {prog : Program} {w : World} {A : Around} {R : Result → Shared → Prop} {h : Heap} {g : Array GenState} {d : Drawn} {t : Nat} {os : OsState}
variable {nm q : Str} {C N : Addr} {bs bm bm0 : List Value} {hdct : Bool} {sn : List Str} {sub : List Value} {ab : Bool} {col : Option Bool} {dd : Option Addr} {k0 k1 k2 k3 k5 : Option Value} {B newId initId : String}
/-- C(..): the maker, then C's own __init__ -/
theorem call_x (F : ExcBaseFacts B newId initId bm0) (hB : bm.contains (.type B) = true) (hA : bm.contains (.type "AttributeError") = false) (hN : bm.contains (.type "NameError") = false) {us : List Value} {fI : Addr}
    (hC : h.get? C = some (excClassObj nm q C N bs bm hdct sn sub ab col dd k0 k1 k2 k3 k5 newId)) (hi : Looks (model prog w) h (typeLookup (.ref C) "__init__") (some (.ref fI)))
    (hb : ∀ self, Looks (model prog w) h (bindSpecial (.ref fI) self) (.ref fI, [self])) (hz : us.length ≤ sizeLine)
    (go : codeAny (model prog w) (A.under (.builtin "type.__call__" ⟨.ref C :: us, []⟩)) (.call (.ref fI) ⟨.ref (h.objs.size + 1) :: us, []⟩) (InitBack (h.objs.size + 1) R) ⟨(h.push (kdv_tup us)).push (xObj C h.objs.size), g, d, t, os⟩) :
    codeAny (model prog w) A (.call (.ref C) ⟨us, []⟩) R ⟨h, g, d, t, os⟩ := by
  have cB : (Value.ref C :: bm).contains (.type B) = true := by rw [List.contains_cons, hB, Bool.or_true]
  have cA : (Value.ref C :: bm).contains (.type "AttributeError") = false := by rw [List.contains_cons, hA]; rfl
  have cN : (Value.ref C :: bm).contains (.type "NameError") = false := by rw [List.contains_cons, hN]; rfl
  have lk := tc_lookup; have bd := tc_bind (.ref C); have st := F.noStar; have en := F.ends
  have ty : (⟨h, g, d, t, os⟩ : Shared).TypeIs (.ref C) "type" := ⟨_, hC, rfl⟩
  -- what the maker is asked
  have ask : ∀ {A' : Around} {Q : Unit → Shared → Prop} {E : Value → Shared → Prop}, Q () ⟨h, g, d, t, os⟩ → wpAny (model prog w) A' (checkBuiltinCall newId ⟨.ref C :: us, []⟩) Q E ⟨h, g, d, t, os⟩ := fun {A' Q E} y => by
    simp only [checkBuiltinCall, F.newSplit, F.newKind, F.newRow]
    repeat (first | refine wpAny_loadPart_at hC ?_ | (refine wpAny_isSubtype_exc hC ?_; rw [cB]) | refine wpAny_madeBy_exc hC ?_ | refine wpAny_staticBase_exc hC ?_ | simp only [bne_self_eq_false, Bool.false_eq_true, if_false] | wp_step)
    exact y
  -- the maker
  have make : ∀ {A' : Around} {S : Result → Shared → Prop}, S (.ok (.ret (.ref (h.objs.size + 1)))) ⟨(h.push (kdv_tup us)).push (xObj C h.objs.size), g, d, t, os⟩ → codeAny (model prog w) A' (.builtin newId ⟨.ref C :: us, []⟩) S ⟨h, g, d, t, os⟩ := fun {A' S} y => by
    refine PySem.codeAny_builtinAt F.entry ?_; unfold Builtin.«BaseException.__new__»
    refine PySem.wpAt_bind ?_; show PySem.wpAt _ _ _ (stack >>= _) _ _ _
    refine PySem.wpAt_bind (PySem.wpAt_stack fun p below => PySem.wpAt_of_wpAny ?_); wp_walk
    refine PySem.wpAt_of_wpAny ?_; rw [F.owner]
    repeat (first | with_reducible refine wpAny_madeHere_exc F.canon hC ?_ | with_reducible refine wpAny_loadPart_at hC ?_ | (with_reducible refine wpAny_isSubtype_exc hC ?_; first | rw [cB] | rw [cA] | rw [cN]) | wp_step)
    show S _ _; rw [Heap.size_push]; exact y
  have k : ∀ b o, h.get? b = some o → ((h.push (kdv_tup us)).push (xObj C h.objs.size)).get? b = some o := fun b o e => Heap.get?_push_of_some _ (Heap.get?_push_of_some _ e)
  have hC1 := k _ _ hC
  have hx : ((h.push (kdv_tup us)).push (xObj C h.objs.size)).get? (h.objs.size + 1) = some (xObj C h.objs.size) := by heap_get
  have cC : (Value.ref C :: bm).contains (.ref C) = true := by simp
  have i1 := hi.keeps k; have b1 := (hb (.ref (h.objs.size + 1))).keeps k
  refine codeAny_of_tree ?_; show wpAny _ _ (callAny (.ref C) _) _ _ _
  repeat (any_goals (first | assumption | with_reducible refine wpAny_loadPart_at hC ?_ | wp_step))
  refine ⟨rfl, codeAny_call_builtin_at (Code.quiet_builtin _ (by decide +kernel)) entry_typeCall (wpAny_check_type_call_sub hC ?_)⟩
  repeat (first | with_reducible refine wpAny_loadPart_at hC ?_ | with_reducible refine wpAny_madeBy_exc hC ?_ | wp_step)
  refine codeAny_call_builtin_code (Code.quiet_builtin _ F.quiet) (ask (make ?_))
  show wpAny _ _ _ _ _ _
  unfold isInstance
  repeat (first | with_reducible refine wpAny_loadPart_at hx ?_ | (with_reducible refine wpAny_isSubtype_exc hC1 ?_; rw [cC]) | wp_step)
  show wpAny _ _ (typeLookup (.ref C) _) _ _ _
  refine i1.at (wpAny_holding (wpAny_bind (b1.at (wpAny_bind (wpAny_call (codeAny_mono go fun r s' z => ?_))))))
  rcases r with e | (v | _ | _ | _) <;> first | exact z | exact z.elim | skip
  obtain ⟨rfl, z⟩ := z
  first
    | exact wpAny_pure (wpAny_pure z)
    | (wp_walk; exact z)
end
end XC
namespace XC
open PySem.W PySem.Calls PyProof.Rows Builtin Builtin.ObjectAttr
section
variable {prog : Program} {w : World} {A : Around} {R : Result → Shared → Prop} {hp : Heap} {g : Array GenState} {d : Drawn} {t : Nat} {os : OsState}
/-- self.f = v on an error that has no dict as yet -/
theorem osa_x {K : Frag} {f : Str} {tk : Tok} {v : Value} {x C : Addr} {fv : Array Value} {bmB : List Value} {newId : String} (B : Bas bmB newId) (X : K.In hp) (hx : hp.get? x = some { cls := .ref C, data := .fields fv }) (ho : excOver K C bmB = true) (hh : hasDictIn K C = true)
    (ha : findIn K (.ref C) f = some none)
    (go : ∀ h' tk' dx, (∀ b o, b ≠ x → hp.get? b = some o → h'.get? b = some o) → hp.objs.size ≤ dx → dx ≠ x → h'.get? x = some { cls := .ref C, dict := some dx, data := .fields fv } → h'.Ns1 dx (fun y => if y = f then some v else none) → R (.ok (.ret .none)) ⟨h', g, d, tk', os⟩) :
    codeAny (model prog w) A (.call (.builtin "object.__setattr__") ⟨[.ref x, .str f tk, v], []⟩) R ⟨hp, g, d, t, os⟩ := by
  obtain ⟨cd, hcd, hdct⟩ := any_some hh
  obtain ⟨bm, hm, ht⟩ : ∃ bm, cd.mro = .ref C :: bm ∧ excTail bmB bm = true := by
    unfold excOver at ho
    rw [hcd] at ho
    have ho : (match cd.mro with | .ref C' :: bm => C' == C && excTail bmB bm | _ => false) = true := ho
    split at ho
    · rename_i C' bm e
      obtain ⟨h1, h2⟩ := Bool.and_eq_true_iff.mp ho
      rw [beq_iff_eq.mp h1] at e
      exact ⟨bm, e, h2⟩
    · cases ho
  have ob : cd.mro.contains (.type "object") = true := by rw [hm, List.contains_cons, excTail_contains _ _ ht, B.ob, Bool.or_true]
  have ne : cd.mro.isEmpty = false := by rw [hm]; rfl
  have ps : ∀ self, PySem.refuseLoop self "__setattr__" cd.mro = pure () := fun self => excTail_pass self (B.pass self) _ (by rw [hm]; exact ht)
  have I : InstAt hp x { cls := .ref C, data := .fields fv } C none := ⟨hx, rfl, rfl, trivial⟩
  have xs : x ≠ hp.objs.size := Nat.ne_of_lt (Heap.lt_size hx)
  have SF := F.store_object
  have su : Looks (model prog w) hp (isInstance (.ref x) (.type "object")) true := I.type.andThen (looks_mroIn X (by unfold mroIn; rw [hcd, Option.bind_some, if_neg (by rw [ne]; decide), ob]))
  have lm : Looks (model prog w) hp (mroOf (.ref C)) cd.mro := (looks_clsIn X hcd).andThen .now
  have ls : Looks (model prog w) hp (storeTaker? none) none := .now
  have lc : Looks (model prog w) hp (classData C) cd := looks_clsIn X hcd
  refine codeAny_call_builtin SF.slot.plain SF.entry (@check_slot (model prog w) _ _ ⟨hp, g, d, t, os⟩ "object.__setattr__" "object" "__setattr__" (.ref x) [.str f tk, v] [] _ SF.kind SF.split su (SF.args (.ref x) (.str f tk) v) ?_)
  rw [osa_eq, refuse_eq]
  refine wpAny_bind (wpAny_bind (I.type.at (wpAny_bind (lm.at ?_)))); rw [ps]
  refine wpAny_pure (wpAny_bind (I.type.at (wpAny_bind ((looks_findIn X ha).at (wpAny_bind (ls.at ?_)))))); show wpAny _ _ (storeInOwnDict (.ref x) (.ref C) (.str f tk) f v false) _ _ _
  obtain ⟨nm, bs, mro, ns, qn, hd, sn, sb, ab, col, del⟩ := cd
  have hdct : hd = true := hdct
  subst hdct
  unfold storeInOwnDict ownDictForStores
  repeat (first | with_reducible refine HandSPX.store_in_new ?_ ?_ | with_reducible refine wpAny_loadPart_at hx ?_ | with_reducible refine lc.at ?_ | wp_step)
  · exact ⟨_, #[], _, (Heap.get?_update_ne _ _ _ _ xs.symm).trans (Heap.get?_push_at rfl rfl), rfl, fun e he => absurd he (by simp), fun _ => rfl⟩
  · intro h' tk' hn' hs
    have hx1 : (hp.push { cls := .type "dict", data := .dict #[] }).get? x = some { cls := .ref C, data := .fields fv } := Heap.get?_push_of_some _ hx
    exact go h' tk' hp.objs.size (fun b o hb ho => (hs.2 b (Nat.ne_of_lt (Heap.lt_size ho))).trans ((Heap.get?_update_ne _ _ _ _ hb).trans (Heap.get?_push_of_some _ ho))) (Nat.le_refl _) xs.symm ((hs.2 x xs).trans (Heap.get?_update_self _ hx1 rfl)) hn'
end
end XC
/-- what the written part says of an error class -/
structure OexG (K : PySem.W.Frag) (C : Addr) : Prop where
  ex : ∃ (bmB : List Value) (newId : String), XC.Bas bmB newId ∧ PySem.W.excInitIn K C bmB newId = true ∧ PySem.W.excOver K C bmB = true
  hd : PySem.W.hasDictIn K C = true
  sa : PySem.W.findIn K (.ref C) "__setattr__" = some (some (.builtin "object.__setattr__"))
  exC : PySem.W.subIn K (.ref C) (.type "BaseException") = some true
  tyC : PySem.W.typeIn K (.ref C) = some (.type "type")
  kC : PySem.W.keepIn K (.ref C) = true
section
variable {X : Cx} {pins : List (Addr × Obj)} {σ : L2.St} {H : Hp} {s : Shared} {a C : Addr} {f : Str} {y : V} {u : Value} {Q : Unit → Shared → Prop} {E : Value → Shared → Prop} {A : Around}
/-- self.f = y, the first one -/
theorem ostG (T : OexG X.K C) (I : Inv X pins σ H s) (e : H a = some (exo a C none)) (hno : PySem.W.findIn X.K (.ref C) f = some none) (ry : RelV y u)
    (go : ∀ dx s', H dx = none → dx ≠ a → Inv X pins σ (upd (upd H dx (exd dx [(f, y)])) a (exo a C (some dx))) s' → Q () s') : wpAny (model X.prog X.w) A (setAttr (.ref a) f u) Q E s := by
  obtain ⟨bmB, newId, B, _, ov⟩ := T.ex
  obtain ⟨t1, ho⟩ := exo_at I.hok e
  obtain ⟨hp, g, d, t, os⟩ := s
  refine PySem.W.set_plain I.kIn (ox := { cls := .ref C, dict := none, data := .fields #[.ref t1, .none, .none, .none, .bool false, .none] }) (od := none) ⟨ho, rfl, rfl, trivial⟩ T.sa (XC.osa_x B I.kIn ho ov T.hd hno fun h' tk' dx k dn dne hx hn => ?_)
  have hnd : H dx = none := I.hok.fresh dn
  have ndx : ∀ {b : Addr} {o : Obj}, hp.get? b = some o → b ≠ dx := fun {b o} q => Nat.ne_of_lt (Nat.lt_of_lt_of_le (Heap.lt_size q) dn)
  have nea : ∀ {b : Addr}, H b = none → b ≠ a := fun {b} n z => by rw [z, e] at n; cases n
  have U : Un X.fs [] H (upd (upd H dx (exd dx [(f, y)])) a (exo a C (some dx))) hp h' := {
    keep := fun b o q n _ _ => k b o (nea n) q
    slot := fun b o q n _ _ => ⟨o.slots, k b o (nea n) q⟩
    free := fun b o q n _ => (upd_ne (nea n)).trans ((upd_ne (ndx q)).trans n)
    there := fun b o q _ => by
      by_cases hb : b = a
      · exact ⟨_, hb ▸ hx⟩
      · exact ⟨o, k b o hb q⟩
    tups := fun b xs q => (upd_ne (at_ne e q exo_tup)).trans ((upd_ne (ne_of_none q hnd)).trans q)
    frzs := fun b o v q => (upd_ne (at_ne e q exo_frz)).trans ((upd_ne (ne_of_none q hnd)).trans q)
    tbls := fun b ps q => ⟨#[], by rw [upd_ne (at_ne e q exo_tbl), upd_ne (ne_of_none q hnd), q]; simp⟩ }
  refine go dx _ hnd dne (I.un (t' := tk') U fun b o q => ?_)
  by_cases hb : b = a
  · subst hb
    rw [upd_same] at q
    cases q
    exact exo_ok hx
  · rw [upd_ne hb] at q
    by_cases hbd : b = dx
    · subst hbd
      rw [upd_same] at q
      cases q
      refine exd_ok hn fun g => ?_
      rw [lookup_put]
      by_cases hg : g = f
      · rw [if_pos hg, if_pos hg]; exact ry
      · rw [if_neg hg, if_neg hg]; exact trivial
    · rw [upd_ne hbd] at q
      refine (I.hok b o q).stay (fun c v hc z => k c v ?_ z) (fun c hc => (upd_ne (at_ne e hc exo_own)).trans ((upd_ne (ne_of_none hc hnd)).trans hc)) (fun c xs hc => (upd_ne (at_ne e hc exo_tup)).trans ((upd_ne (ne_of_none hc hnd)).trans hc))
      rcases hc with hc | hc
      · rw [hc]; exact hb
      · exact at_ne e hc exo_own
end
/-- self.f = e in an error's __init__ -/
def tOstG (K : PySem.W.Frag) (f : Str) (to te : TE) : TS := fun D σ H => te σ H fun y H1 => to σ H1 fun x H2 => ∃ a C : Addr, x = .ref a ∧ OexG K C ∧ PySem.W.findIn K (.ref C) f = some none ∧ H2 a = some (exo a C none) ∧
  ∀ dx, H2 dx = none → dx ≠ a → D.nx σ (upd (upd H2 dx (exd dx [(f, y)])) a (exo a C (some dx)))
theorem ps_ostG {X : Cx} {o e : Expr} {to te : TE} {f : Str} {p' pos : Pos} (ho : PE X o to) (he : PE X e te) (hs : swapsWith e (some (.Attribute o f p')) pos.line X.env = pure false := by rfl) : PS X (.Assign [.Attribute o f p'] e pos) (tOstG X.K f to te) := by
  refine ⟨fun pins s σ H D I h => plainObj_wpAny_Assign_Attribute (thn (he.run pins s σ H _ I h) fun v s1 ⟨y, H1, I1, r1, q1⟩ => thn (ho.run pins s1 σ H1 _ I1 q1) fun u s2 ⟨x, H2, I2, r2, a, C, ex, T, hno, ea, q⟩ => ?_) hs⟩
  subst ex
  obtain rfl : u = Value.ref a := r2
  exact ostG T I2 ea hno r1 fun dx s' n ne J => ⟨σ, _, J, q dx n ne⟩
/-- what the __init__ of an error class with one field does -/
def spX (C : Addr) (f : Str) : Sp := fun vs H Q _ => ∃ (a : Addr) (v : V), vs = [.ref a, v] ∧ H a = some (exo a C none) ∧ ∀ dx, H dx = none → dx ≠ a → Q .non (upd (upd H dx (exd dx [(f, v)])) a (exo a C (some dx)))
/-- an error class under its name -/
structure HasX (P : Program) (w : World) (K : PySem.W.Frag) (mg : Str → Option Value) (base : Heap) (k : Nat) (x : Str) (C : Addr) (f : Str) : Prop where
  ex : ∃ (fI : Addr) (fd : FuncData) (ps : List Str), OexG K C ∧ PySem.W.findIn K (.ref C) "__init__" = some (some (.ref fI)) ∧ PySem.W.typeIn K (.ref fI) = some (.type "function") ∧ FnOk P w K mg base CX0 k fI fd ps (spX C f) ∧ mg x = some (.ref C) ∧ Binds K fd ps []
/-- C(e), to be raised -/
def tMkX (C : Addr) (f : Str) (ta : TA) : L2.St → Hp → XK → Prop := fun σ H Q => ta σ H fun vs H1 => ∃ v, vs = [v] ∧ ∀ d, H1 d = none → Q (.ref C) (some d) (upd H1 d (.xd [(f, v)]))
theorem pmk_x {X : Cx} {x : Str} {C : Addr} {f : Str} {k : Nat} {e : Expr} {ta : TA} {p pos : Pos} (T : HasX X.prog X.w X.K X.mg X.base k x C f) (hr : Room (k + 1) X.A) (hg : Gl X x) (ha : PA X [e] ta)
    (hdb : (x == ("__debug__" : Str)) = false := by decide) (he : starEach [e] X.env = (false, eval e X.env) :: starEach [] X.env := by rfl) : L2N.PMk X (.Call (.Name x p) [e] [] pos) (tMkX C f ta) := by
  intro pins s σ H Q I h
  obtain ⟨fI, fd, ps, T, iC, tI, F1, hm, hb⟩ := T.ex
  obtain ⟨bmB, newId, B, hini, ov⟩ := T.ex
  refine wpAny_Call_Name_kw (ld_glob I hg hm ?_ hdb)
  refine PySem.W.callWith_K (h₀ := X.base) I.ok.mod.kin T.kC (thn (ha.run pos pins s σ H _ I h) fun us s1 ⟨vs, H1, I1, r1, v, ev, q1⟩ => ⟨I1.kIn, ?_⟩) he rfl
  subst ev
  cases r1 with
  | @cons _ u _ ur ru rn =>
    cases rn
    show wpAny _ _ (call (.ref C) [u]) _ _ _
    obtain ⟨hp, g, dr, tk, os⟩ := s1
    obtain ⟨nm, N, qn, bs, bm, hdct, sn, sub, ab, col, dd, k0, k1, k2, k3, k5, hC, hT⟩ := PySem.W.excInit_of I1.kIn hini
    obtain ⟨B0, i0, bm0, FB, cB⟩ := B.ex
    have hn : H1 (hp.objs.size + 1) = none := I1.hok.fresh (Nat.le_succ _)
    have kk : ∀ b o, hp.get? b = some o → ((hp.push (PySem.W.kdv_tup [u])).push (XC.xObj C hp.objs.size)).get? b = some o := fun b o z => Heap.get?_push_of_some _ (Heap.get?_push_of_some _ z)
    have hget : ((hp.push (PySem.W.kdv_tup [u])).push (XC.xObj C hp.objs.size)).get? (hp.objs.size + 1) = some (XC.xObj C hp.objs.size) := by heap_get
    have I2 : Inv X pins σ (upd H1 (hp.objs.size + 1) (exo (hp.objs.size + 1) C none)) ⟨(hp.push (PySem.W.kdv_tup [u])).push (XC.xObj C hp.objs.size), g, dr, tk, os⟩ :=
      I1.laid (t' := tk) (a := hp.objs.size + 1) (o := exo (hp.objs.size + 1) C none) kk (Nat.le_succ _) (exo_ok hget)
    have r2 : Vals [V.ref (hp.objs.size + 1), v] [Value.ref (hp.objs.size + 1), u] := .cons rfl (.cons ru .nil)
    have hq : spX C f [.ref (hp.objs.size + 1), v] (upd H1 (hp.objs.size + 1) (exo (hp.objs.size + 1) C none)) (fun r H2 => r = .non ∧ ∃ d, H1 d = none ∧ d ≠ hp.objs.size + 1 ∧ H2 = upd (upd (upd H1 (hp.objs.size + 1) (exo (hp.objs.size + 1) C none)) d (exd d [(f, v)])) (hp.objs.size + 1) (exo (hp.objs.size + 1) C (some d))) (fun _ _ _ => False) :=
      ⟨_, _, rfl, upd_same, fun dx z ne => ⟨rfl, dx, by rw [upd_ne ne] at z; exact z, ne, rfl⟩⟩
    have hl : ([Value.ref (hp.objs.size + 1), u] ++ []).length = ps.length := by
      rw [List.append_nil, ← F1.len _ _ _ _ hq, ← r2.length]
    have b2 := hb _ [Value.ref (hp.objs.size + 1), u] I2.kIn hl
    rw [List.append_nil] at b2
    refine wpAny_call (XC.call_x FB (by rw [hT]; exact cB) (by rw [hT]; exact B.noA) (by rw [hT]; exact B.noN) hC (PySem.W.looks_findIn I1.kIn iC) (fun self => PySem.W.bind_fn I1.kIn self tI) (by show 1 ≤ sizeLine; rw [sizeLine_eq]; omega)
      (codeAny_mono (F1.run _ X.stack _ _ ⟨[Value.ref (hp.objs.size + 1), u], []⟩ [Value.ref (hp.objs.size + 1), u] _ _ (fun _ _ _ => False) (hr.make C [u] []) (I2.env0.make C [u] []) b2 r2 hq) fun r s' hq' => ?_))
    cases r with
    | error er => exact hq'.elim
    | ok fl =>
      cases fl with
      | ret y =>
        obtain ⟨v2, H2, os2, bare2, un2, hok2, rv, ev, d, hd1, dne, eH⟩ := hq'
        subst ev
        obtain ⟨h2, g2, d2, t2, os'⟩ := s'
        obtain ⟨t0, G, J, kG, ge, hoe, na⟩ := mk_end0 (d2 := d2) (t2 := t2) (fs := [(f, v)]) I1 (Nat.le_succ _) kk un2 hok2 os2 bare2 (by rw [eH, upd_same]) (by rw [eH, upd_ne dne, upd_same]) hd1
        have eq : upd (del H2 (hp.objs.size + 1)) d (.xd [(f, v)]) = upd H1 d (.xd [(f, v)]) := by
          funext b
          by_cases hbd : b = d
          · rw [hbd, upd_same, upd_same]
          · rw [upd_ne hbd, upd_ne hbd]
            by_cases hba : b = hp.objs.size + 1
            · rw [hba, del_same, hn]
            · rw [del_ne hba, eH, upd_ne hba, upd_ne hbd, upd_ne hba]
        rw [eq] at J na
        exact ⟨rv, ⟨hp.objs.size + 1, _, _, ⟨G, g2, d2, t2, os'⟩, _, .ref C, some d, rfl, J, kG, ge, hoe, ⟨rfl, rfl, fun vs hv => by cases hv; rfl⟩, rfl, rfl, na, rfl, bare2, raises_own T.exC T.tyC, q1 d hd1⟩⟩
      | next => exact hq'.elim
      | brk => exact hq'.elim
      | cont => exact hq'.elim

/-! ### try with several clauses, each with a class or a tuple of classes, with or without a name -/
namespace TX
open PySem.W PySem.Calls PyProof.Rows
section
variable {M : Model} {h : Heap} {K : Frag}
theorem look_each {α : Type} {f : α → PUnit → Sem (ForInStep PUnit)} : ∀ {cs : List α}, (∀ c ∈ cs, Looks M h (f c ⟨⟩) (.yield ⟨⟩)) → Looks M h (forIn cs PUnit.unit f) ⟨⟩
  | [], _ => fun A Q E s k q => wpAny_pure q
  | c :: r, hf => by
    rw [List.forIn_cons]
    exact (hf c List.mem_cons_self).andThen (look_each fun d hd => hf d (List.mem_cons_of_mem _ hd))
theorem look_first {α β : Type} {f : α → β → Sem (ForInStep β)} {b0 bd : β} {p : α → Bool} : ∀ {cs : List α}, (∀ c ∈ cs, Looks M h (f c b0) (if p c = true then .done bd else .yield b0)) → Looks M h (forIn cs b0 f) (if cs.any p = true then bd else b0)
  | [], _ => fun A Q E s k q => wpAny_pure q
  | c :: r, hf => by
    rw [List.forIn_cons, List.any_cons]
    have h1 := hf c List.mem_cons_self
    cases hp : p c with
    | true =>
      rw [hp, if_pos rfl] at h1
      rw [Bool.true_or, if_pos rfl]
      exact h1.andThen fun A Q E s k q => wpAny_pure q
    | false =>
      rw [hp, if_neg Bool.false_ne_true] at h1
      rw [Bool.false_or]
      exact h1.andThen (look_first fun d hd => hf d (List.mem_cons_of_mem _ hd))
theorem exmAny_all {cls : Value} : ∀ {cs : List Value} {b : Bool}, exmAny K cls cs = some b → (∀ c ∈ cs, exmOne K cls c = some ((exmOne K cls c).getD false)) ∧ b = cs.any fun c => (exmOne K cls c).getD false
  | [], b, e => ⟨fun c hc => (by cases hc), (Option.some.inj (show some false = some b from e)).symm⟩
  | c :: r, b, e => by
    obtain ⟨b1, d1, x1, y1, z1⟩ := exmAny_cons e
    obtain ⟨i1, i2⟩ := exmAny_all y1
    refine ⟨fun d hd => ?_, ?_⟩
    · rcases List.mem_cons.mp hd with rfl | hd
      · rw [x1]; rfl
      · exact i1 d hd
    · rw [List.any_cons, x1, ← i2]; exact z1
/-- the clause's tuple of classes -/
theorem exm_tupN {cls : Value} {tp e : Addr} {cs : List Value} {b : Bool} (X : K.In h) (LT : Looks M h (typeOf (.ref e)) cls) (hp : h.get? tp = some { cls := .type "tuple", data := .seq cs.toArray }) (hx : exmAny K cls cs = some b) : Looks M h (excMatches (.ref e) (.ref tp)) b := by
  obtain ⟨h1, h2⟩ := exmAny_all hx
  have tt : Looks M h (isInstance (.ref tp) (.type "tuple")) true := ((Looks.ld hp).andThen .now).andThen (Looks.of_pure isSubtype_tuple_tuple)
  intro A Q E s k q
  unfold excMatches
  refine wpAny_bind ((tt.keeps k).here ?_)
  rw [if_pos rfl]
  first
    | refine wpAny_bind (wpAny_seqItems (k _ _ hp) rfl ?_)
    | refine wpAny_bind (wpAny_bind (wpAny_seqItems (k _ _ hp) rfl (wpAny_pure ?_)))
  dsimp only [Option.getD_some, Option.getD]
  refine wpAny_bind (wpAny_pure ?_)
  refine wpAny_bind ((look_each (h := h) (cs := cs) fun c hc => ?_) _ _ _ _ k ?_)
  · intro A' Q' E' s' k' q'
    refine wpAny_bind ((((exm_cls (M := M) X (h1 c hc)).1).keeps k').here ?_)
    simp only [Bool.not_true, Bool.false_eq_true, if_false]
    exact wpAny_pure q'
  · refine wpAny_bind ((LT.keeps k).here ?_)
    refine wpAny_bind ((look_first (h := h) (p := fun c => (exmOne K cls c).getD false) (bd := (some true, ())) (cs := cs) fun c hc => ?_) _ _ _ _ k ?_)
    · intro A' Q' E' s' k' q'
      refine wpAny_bind ((((exm_cls (M := M) X (h1 c hc)).2).keeps k').here ?_)
      cases hv : (exmOne K cls c).getD false with
      | true => rw [hv, if_pos rfl] at q'; rw [if_pos rfl]; exact wpAny_pure q'
      | false => rw [hv, if_neg Bool.false_ne_true] at q'; rw [if_neg Bool.false_ne_true]; exact wpAny_pure q'
    · rw [← h2]
      cases b with
      | true => rw [if_pos rfl]; exact wpAny_pure q
      | false => rw [if_neg Bool.false_ne_true]; exact wpAny_pure q
end
end TX
/-- own classes under these names -/
inductive NamesAll (X : Cx) : List Expr → List Value → Prop
  | nil : NamesAll X [] []
  | cons {x : Str} {p : Pos} {c : Value} {es : List Expr} {cs : List Value} (h : Names X x c) (r : NamesAll X es cs) : NamesAll X (.Name x p :: es) (c :: cs)
/-- what an except clause tests -/
inductive Tst (X : Cx) : Expr → List Value → Prop
  | one {x : Str} {p : Pos} {c : Value} (h : Names X x c) : Tst X (.Name x p) [c]
  | tup {es : List Expr} {cs : List Value} {k : Nat} {p : Pos} (h : NamesAll X es cs) (hl : cs.length ≤ 100) : Tst X (.Tuple es k p) cs
section
variable {X : Cx} {a : Addr} {pn : List (Addr × Obj)} {σ : L2.St} {H : Hp} {s : Shared}
theorem name_test {x : Str} {c : Value} {p : Pos} (h : Names X x c) (I : Inv (X.suite a pn) [] σ H s) {Q : Value → Shared → Prop} {E : Value → Shared → Prop} (q : Q c s) : wpAny (model X.prog X.w) (X.A.mark (some (.ref a))) (eval (.Name x p) X.env) Q E s := by
  obtain ⟨hg, hd, hm | ⟨hm, hv, hn⟩⟩ := h
  · exact ld_glob (X := X.suite a pn) I hg hm q hd
  · exact ld_blt (X := X.suite a pn) I hg hm hv q hn hd
theorem names_test {es : List Expr} {cs : List Value} {pos : Pos} (h : NamesAll X es cs) (I : Inv (X.suite a pn) [] σ H s) : ∀ {Q : List Value → Shared → Prop} {E : Value → Shared → Prop}, Q cs s → wpAny (model X.prog X.w) (X.A.mark (some (.ref a))) (spliced (backTo pos (starEach es X.env))) Q E s := by
  induction h with
  | nil => exact fun q => wpAny_pure q
  | cons h r ih => exact fun q => wpAny_items_cons (name_test h I (ih q))
theorem Tst.run {t : Expr} {cs : List Value} {cls : Value} {b : Bool} (T : Tst X t cs) (I : Inv (X.suite a pn) [] σ H s) (LT : PySem.W.Looks (model X.prog X.w) s.heap (typeOf (.ref a)) cls) (hx : PySem.W.exmAny X.K cls cs = some b) {Q : Bool → Shared → Prop} {E : Value → Shared → Prop}
    (q : ∀ h', (∀ b o, s.heap.get? b = some o → h'.get? b = some o) → Q b { s with heap := h' }) :
    wpAny (model X.prog X.w) (X.A.mark (some (.ref a))) (eval t X.env) (fun c s1 => wpAny (model X.prog X.w) (X.A.mark (some (.ref a))) (excMatches (.ref a) c) Q E s1) E s := by
  cases T with
  | one h =>
    obtain ⟨b1, d1, x1, y1, z1⟩ := PySem.W.exmAny_cons hx
    have e : d1 = false := (Option.some.inj (show some false = some d1 from y1)).symm
    subst e
    rw [Bool.or_false] at z1
    subst z1
    exact name_test h I ((PySem.W.exm_one (M := model X.prog X.w) I.kIn LT x1).here (q _ fun _ _ z => z))
  | tup h hl =>
    refine wpAny_Tuple_spliced (names_test h I ⟨by rw [sizeLine_eq]; omega, ?_⟩)
    have k : ∀ b o, s.heap.get? b = some o → (s.heap.push { cls := .type "tuple", data := .seq cs.toArray }).get? b = some o := fun b o z => Heap.get?_push_of_some _ z
    exact (TX.exm_tupN (I.kIn.keeps k) (LT.keeps k) (Heap.get?_push_size _ rfl) hx).here (q _ k)
end
/-- the suite of a clause, for any error that it takes -/
abbrev SuOk (X : Cx) (suite : List Stmt) (ts : Addr → Value → Option Addr → TS) : Prop :=
  ∀ (a : Addr) (oe : Obj) (cls : Value) (d : Option Addr) (pn : List (Addr × Obj)), L2N.Zn cls d oe → (∃ vs, oe.data = .fields vs) → PSs (X.suite a ((a, oe) :: pn)) suite (ts a cls d)
inductive HdX (X : Cx) : List ExceptHandler → List (List Value × Option Nat × (Addr → Value → Option Addr → TS)) → Prop
  | nil : HdX X [] []
  | only {t : Expr} {cs : List Value} {ts : Addr → Value → Option Addr → TS} {b₀ : Stmt} {suite : List Stmt} {pos' : Pos} {hds : List ExceptHandler} {l : List (List Value × Option Nat × (Addr → Value → Option Addr → TS))} (ht : Tst X t cs) (hsu : SuOk X (b₀ :: suite) ts) (r : HdX X hds l) :
      HdX X (.ExceptHandler (some t) none (b₀ :: suite) pos' :: hds) ((cs, none, ts) :: l)
  | named {t : Expr} {n : Str} {i : Nat} {cs : List Value} {ts : Addr → Value → Option Addr → TS} {b₀ : Stmt} {suite : List Stmt} {pos' : Pos} {hds : List ExceptHandler} {l : List (List Value × Option Nat × (Addr → Value → Option Addr → TS))} (ht : Tst X t cs)
      (hi : X.N[i]? = some n) (hln : X.env.kindOf n = some .local) (hsu : SuOk X (b₀ :: suite) ts) (r : HdX X hds l) : HdX X (.ExceptHandler (some t) (some n) (b₀ :: suite) pos' :: hds) ((cs, some i, ts) :: l)
/-- a slot that is emptied behind the suite -/
def Ends.less (D : Ends) (i : Nat) : Ends := { nx := fun σ H => D.nx (σ.set i none) H, rt := D.rt, bk := fun σ H => D.bk (σ.set i none) H, ct := fun σ H => D.ct (σ.set i none) H }
/-- what the clauses wish of an error of the body -/
def wX (K : PySem.W.Frag) (Wout : WX) (D : Ends) : List (List Value × Option Nat × (Addr → Value → Option Addr → TS)) → WX
  | [] => Wout
  | (cs, none, ts) :: r => fun cls d σ H => ∃ b, PySem.W.exmAny K cls cs = some b ∧ (b = true → ∀ a, H a = none → ts a cls d D σ H) ∧ (b = false → wX K Wout D r cls d σ H)
  | (cs, some i, ts) :: r => fun cls d σ H => ∃ b, PySem.W.exmAny K cls cs = some b ∧ (b = true → ∀ a, H a = none → ts a cls d (Ends.less D i) (σ.set i (some (.ref a))) H) ∧ (b = false → wX K Wout D r cls d σ H)
theorem flying_keeps {B h h' : Heap} {l : List Env} {a : Addr} {Z : Obj → Prop} (k : ∀ b o, h.get? b = some o → h'.get? b = some o) (x : HandSPX.FlyingZ B l a Z h) : HandSPX.FlyingZ B l a Z h' := by
  obtain ⟨k1, k2, k3, oe, vs, T, oT, ts, he, hz, hd, h1, hT0, hne, hT, hdT, h3⟩ := x
  exact ⟨fun b o z => k b o (k1 b o z), k2, k3.of_keeps fun b o z _ => ⟨o, k b o z, rfl⟩, oe, vs, T, oT, ts, k _ _ he, hz, hd, h1, hT0, hne, k _ _ hT, hdT, h3⟩
theorem up_keeps {h h' : Heap} (k : ∀ b o, h.get? b = some o → h'.get? b = some o) : h.UpToSlots h' := fun b o z _ => ⟨o.slots, k b o z⟩
section
variable {X : Cx} {body : List Stmt} {h₀ : ExceptHandler} {hds : List ExceptHandler} {l : List (List Value × Option Nat × (Addr → Value → Option Addr → TS))} {pos : Pos} {tb : WX → TS} {Wout : WX}
/-- the clauses, one after the other, at an error that has landed -/
theorem clauses (hs : X.stack = X.env :: X.outer) (hf : X.env.frame = some X.env.locals) (hN : X.N.Nodup) (tk : L2N.Takes X Wout) {pins : List (Addr × Obj)} {σ : L2.St} {H : Hp} {sI : Shared} {a : Addr} {B : Heap} {cls : Value} {d : Option Addr} {D : Ends}
    (J : Inv X pins σ H sI) (nb : ∀ b o, sI.heap.get? b = some o → b ∉ frs X.stack → B.get? b = some o) (na : H a = none) (hh : HdX X hds l) : wX X.K Wout D l cls d σ H →
    ∀ s : Shared, HandSPX.FlyingZ B (X.env :: X.outer) a (L2N.Zn cls d) s.heap → sI.heap.UpToSlots s.heap → s.os = sI.os → PyProof.Rows.AllBare s.gens → wpAny (model X.prog X.w) X.A (handleBy (.ref a) X.env hds) (SP X pins D) X.xe s := by
  have ok := J.ok
  have land : ∀ {h : Heap} {s : Shared}, HandSPX.FlyingZ B (X.env :: X.outer) a (L2N.Zn cls d) h → sI.heap.UpToSlots h → s.os = sI.os → PyProof.Rows.AllBare s.gens → Inv X pins σ H { s with heap := h } := fun {h s} fl up os ag => J.landed (s' := { s with heap := h }) nb fl.1 up os ag
  have suit : ∀ {h : Heap} {s : Shared}, HandSPX.FlyingZ B (X.env :: X.outer) a (L2N.Zn cls d) h → sI.heap.UpToSlots h → s.os = sI.os → PyProof.Rows.AllBare s.gens →
      ∃ oe, L2N.Zn cls d oe ∧ (∃ vs, oe.data = .fields vs) ∧ h.get? a = some oe ∧ Inv (X.suite a ((a, oe) :: (X.pn ++ pins))) [] σ H { s with heap := h } := fun {h s} fl up os ag => by
    obtain ⟨oe, vs, he, hz, hd⟩ := fl.there
    have nfr : a ∉ frs (X.env :: X.outer) := fun hm => by
      obtain ⟨_, o', e', hnf⟩ := fl.2.2.1.mem hm
      rw [he] at e'; cases e'
      exact hnf _ hd
    have nL : a ≠ X.env.locals := fun z => nfr (List.mem_filterMap.mpr ⟨X.env, List.mem_cons_self, by rw [hf, z]⟩)
    have nF : a ∉ X.fs := fun hm => by
      obtain ⟨e, he, q⟩ := List.mem_filterMap.mp hm
      exact nfr (List.mem_filterMap.mpr ⟨e, List.mem_cons_of_mem _ he, q⟩)
    exact ⟨oe, hz, ⟨vs, hd⟩, he, (land fl up os ag).suite he hd na nL nF⟩
  induction hh with
  | nil =>
    intro w s fl up os ag
    refine wpAny_handleBy_nil ?_
    obtain ⟨k1, k2, k3, oe, vs, T, oT, ts', he, hz, hd, h1, hr⟩ := id fl
    unfold PySem.passOn
    refine wpAny_bind (wpAny_field he hd h1 ?_); rw [if_neg (show ¬ ((Value.ref T == Value.none) = true) from by simp)]
    have last : wpAny (model X.prog X.w) X.A (setFlight (.ref a) X.env.frame) (fun _ s4 => wpAny (model X.prog X.w) X.A (throw (.ref a) : Sem Flow) (SP X pins D) X.xe s4) X.xe s := by
      rw [hf]
      exact HandSPX.setFlight_upZ fl fun h4 hh4 up4 => wpAny_throw (tk _ _ ⟨a, B, sI, pins, σ, H, cls, d, rfl, J, nb, up.trans up4, .inr (.inr (by rw [hs]; exact hh4)), na, os, ag, w⟩)
    first
      | exact wpAny_bind (wpAny_pure (wpAny_bind last))
      | exact wpAny_bind last
  | @only t cs ts b₀ suite pos' hds2 l2 ht hsu r ih =>
    rintro ⟨b, hb1, yes, no⟩ s fl up os ag
    obtain ⟨oe, hz, hd, he, S⟩ := suit (s := s) fl up os ag
    have LT : PySem.W.Looks (model X.prog X.w) s.heap (typeOf (.ref a)) cls := fun A Q E s' k q => wpAny_typeOf_ref (k _ _ he) (by rw [hz.1]; exact q)
    refine wpAny_handleBy_cons (codeAny_handlers_test (ht.run S LT hb1 fun h1 k => ?_)) (by intro q; cases q)
    have fl1 := flying_keeps k fl; have up1 := up.trans (up_keeps k)
    cases b with
    | false => exact ih (no rfl) { s with heap := h1 } fl1 up1 os ag
    | true =>
      refine codeAny_handlers_suite (HandSPX.lands_againZ (s := { s with heap := h1 }) fl1 fun h4 fl4 up4 => ?_)
      obtain ⟨oe4, hz4, hd4, he4, S4⟩ := suit (s := s) fl4 (up1.trans up4) os ag
      refine wpAny_mono ((hsu a oe4 cls d (X.pn ++ pins) hz4 hd4).run [] _ _ H _ S4 (yes rfl a na)) (fun f s6 hsp => ?_) (fun _ _ z => False.elim z)
      cases f with
      | ret u => obtain ⟨v6, σ6, H6, S6, r6, q6⟩ := hsp; exact ⟨_, _, _, S6.unsuite ok, r6, q6⟩
      | next => obtain ⟨σ6, H6, S6, q6⟩ := hsp; exact ⟨_, _, S6.unsuite ok, q6⟩
      | brk => obtain ⟨σ6, H6, S6, q6⟩ := hsp; exact ⟨_, _, S6.unsuite ok, q6⟩
      | cont => obtain ⟨σ6, H6, S6, q6⟩ := hsp; exact ⟨_, _, S6.unsuite ok, q6⟩
  | @named t n i cs ts b₀ suite pos' hds2 l2 ht hi hln hsu r ih =>
    rintro ⟨b, hb1, yes, no⟩ s fl up os ag
    obtain ⟨oe, hz, hd, he, S⟩ := suit (s := s) fl up os ag
    have LT : PySem.W.Looks (model X.prog X.w) s.heap (typeOf (.ref a)) cls := fun A Q E s' k q => wpAny_typeOf_ref (k _ _ he) (by rw [hz.1]; exact q)
    refine wpAny_handleBy_cons (codeAny_handlers_test (ht.run S LT hb1 fun h1 k => ?_)) (by intro q; cases q)
    have fl1 := flying_keeps k fl; have up1 := up.trans (up_keeps k)
    cases b with
    | false => exact ih (no rfl) { s with heap := h1 } fl1 up1 os ag
    | true =>
      refine codeAny_handlers_suite_as (HandSPX.lands_againZ (s := { s with heap := h1 }) fl1 fun h4 fl4 up4 => ?_)
      obtain ⟨oe4, hz4, hd4, he4, S4⟩ := suit (s := s) fl4 (up1.trans up4) os ag
      refine store_ok (X := X.suite a ((a, oe4) :: (X.pn ++ pins))) (v := .ref a) S4 hN hi (.inl hln) rfl (fun s5 S5 => ?_) (.inr hln)
      refine wpAny_mono ((hsu a oe4 cls d (X.pn ++ pins) hz4 hd4).run [] s5 _ H _ S5 (yes rfl a na)) (fun f s6 hsp => ?_) (fun _ _ z => False.elim z)
      have back : ∀ {σ6 : L2.St} {H6 : Hp} {Q : Shared → Prop}, Inv (X.suite a ((a, oe4) :: (X.pn ++ pins))) [] σ6 H6 s6 → (∀ s7, Inv X pins (σ6.set i none) H6 s7 → Q s7) → wpAny (model X.prog X.w) X.A (do bindName X.env n .none; unbindBehindTheSuite X.env n pos') (fun _ s7 => Q s7) X.xe s6 :=
        fun {σ6 H6 Q} S6 hq => gone_ok (S6.unsuite ok) hN hi hln hq
      cases f with
      | ret u => obtain ⟨v6, σ6, H6, S6, r6, q6⟩ := hsp; exact back S6 fun s7 J7 => ⟨_, _, _, J7, r6, q6⟩
      | next => obtain ⟨σ6, H6, S6, q6⟩ := hsp; exact back S6 fun s7 J7 => ⟨_, _, J7, q6⟩
      | brk => obtain ⟨σ6, H6, S6, q6⟩ := hsp; exact back S6 fun s7 J7 => ⟨_, _, J7, q6⟩
      | cont => obtain ⟨σ6, H6, S6, q6⟩ := hsp; exact back S6 fun s7 J7 => ⟨_, _, J7, q6⟩
theorem ps_tryX (hs : X.stack = X.env :: X.outer) (hf : X.env.frame = some X.env.locals) (hN : X.N.Nodup) (tk : L2N.Takes X Wout)
    (hb : ∀ (W : WX) (pn : List (Addr × Obj)) (xe : Value → Shared → Prop), L2N.Takes (X.tr pn xe) W → PassesOwn (model X.prog X.w) X.A X.env xe → PSs (X.tr pn xe) body (tb W))
    (hh : HdX X (h₀ :: hds) l) : PS X (.Try body (h₀ :: hds) [] [] pos) (fun D σ H => tb (wX X.K Wout D l) D σ H) := by
  refine ⟨fun pins s σ H D I h => wpAny_Try_except ?_⟩
  have ok := I.ok
  have hfr : X.A.frames = some (X.env :: X.outer) := by rw [ok.frames, hs]
  refine wpAny_mono ((hb (wX X.K Wout D l) (X.pn ++ pins) (fun e s1 => wpAny (model X.prog X.w) X.A (noteFrame e X.env) (fun _ s2 => wpAny (model X.prog X.w) X.A (setFlight e none) (fun _ s3 =>
    wpAny (model X.prog X.w) X.A (handleBy e X.env (h₀ :: hds)) (SP X pins D) X.xe s3) X.xe s2) X.xe s1) (fun u s' xx => ?_) PassesOwn.looking).run [] s σ H D (I.toTry _) h) (fun f s1 hsp => ?_) (fun e s1 he => he)
  · obtain ⟨a, B, sI, pins', σ', H', cls, d, rfl, J', nb, up, sky, na, os, ag, w⟩ := xx
    exact L2N.Sky.land L2N.Zn.steady hfr hf (by rw [← hs]; exact sky) fun h3 fl3 up3 => clauses hs hf hN tk (J'.ofTry ok) nb na hh w { s' with heap := h3 } fl3 (up.trans up3) os ag
  · cases f with
    | ret u => obtain ⟨v, σ', H', J', r, q⟩ := hsp; exact ⟨v, σ', H', J'.ofTry ok, r, q⟩
    | next => obtain ⟨σ', H', J', q⟩ := hsp; exact wpAny_execs_nil ⟨σ', H', J'.ofTry ok, q⟩
    | brk => obtain ⟨σ', H', J', q⟩ := hsp; exact ⟨σ', H', J'.ofTry ok, q⟩
    | cont => obtain ⟨σ', H', J', q⟩ := hsp; exact ⟨σ', H', J'.ofTry ok, q⟩
end

/-! ### isinstance of an error that is pinned, its dict tracked -/
namespace TX
open PySem.W PySem.Calls PyProof.Rows
section
variable {prog : Program} {w : World} {A : Around} {E : Value → Shared → Prop} {s : Shared} {K : Frag} {x D : Addr} {ox od : Obj}
theorem class_x {Q : Option Value → Shared → Prop} (C : ExcC K D) (X : K.In s.heap) (I : InstAt s.heap x ox D (some od)) (go : Q (some (.ref D)) { s with toks := s.toks + 1 }) : wpAny (model prog w) A (getAttr? (.ref x) "__class__") Q E s := by
  have hf : findObj K D (some od) "__class__" = some (.bind (.builtin "getset_descriptor.__get__") (.builtin "object.__class__")) := by
    obtain ⟨cd, hc, _⟩ := any_some C.hd
    unfold findObj
    rw [hc, Option.bind_some, C.ha, Option.bind_some]
    simp [C.hn, C.ht]
  obtain ⟨hp, g, d, t, os⟩ := s
  have L0 := I.type (M := model prog w); have L1 := looks_findIn (M := model prog w) X C.hg; have L2 := looks_findIn (M := model prog w) X C.hk; have L3 := looks_find (M := model prog w) X I hf
  have sub : Looks (model prog w) hp (isInstance (.ref x) (.type "BaseException")) true := L0.andThen (looks_subIn X C.hs)
  have n0 : (false && onTheHeap (Value.builtin "BaseException.__getattribute__")) = false := rfl
  have n2 : (Value.builtin "BaseException.__getattribute__" == Value.builtin "object.__getattribute__") = false := by decide +kernel
  have n1 : (onTheHeap (Value.ref D) && Value.builtin "BaseException.__getattribute__" == Value.builtin "object.__getattribute__") = false := by rw [n2]; rfl
  unfold getAttr? getAttrBy? getAttrBy
  refine wpAny_bind (wpAny_mkText (wpAny_bind (wpAny_attempt (wpAny_holding (wpAny_bind (L0.at (wpAny_bind (L1.at ?_)))))))); show wpAny _ _ (if (onTheHeap (Value.ref D) && Value.builtin "BaseException.__getattribute__" == Value.builtin "object.__getattribute__") = true then _ else _) _ _ _
  rw [n1, if_neg Bool.false_ne_true]; unfold getAttrByItsOwn hookBefore
  refine wpAny_bind ?_; rw [if_pos (show onTheHeap (Value.ref D) = true from rfl)]
  refine L2.at (wpAny_bind (wpAny_attempt (wpAny_holding ?_))); unfold callGetattribute
  rw [n0, if_neg Bool.false_ne_true]; unfold boundAndCalled; rw [PySem.F.excAttr_ValueError.ga.bind (.ref x)]
  refine wpAny_bind (wpAny_pure ?_); show wpAny _ _ (call (.builtin "BaseException.__getattribute__") [.ref x, .str "__class__" t]) _ _ _
  refine wpAny_call (codeAny_call_builtin PySem.F.excAttr_ValueError.ga.plain PySem.F.entry_bexc_ga (@check_slot (model prog w) _ _ ⟨hp, g, d, t + 1, os⟩ "BaseException.__getattribute__" "BaseException" "__getattribute__" (.ref x) [.str "__class__" t] [] _ (by decide +kernel) (by decide +kernel) sub (PySem.F.args_bexc_ga (.ref x) (.str "__class__" t)) ?_))
  unfold Builtin.«object.__getattribute__»
  refine wpAny_bind (wpAny_of_eq (a := ((Value.ref x : Value), [Value.str "__class__" t])) (by first | rfl | (simp only [slotArgs]; rfl)) (wpAny_bind (wpAny_pure (wpAny_bind (L0.at (wpAny_bind (L3.at ?_)))))))
  show wpAny _ _ (holding [Value.builtin "object.__class__"] (call (.builtin "getset_descriptor.__get__") [.builtin "object.__class__", .ref x, .ref D]) >>= ret) _ _ _
  refine wpAny_bind (wpAny_holding (wpAny_call (class_get (s := ⟨hp, g, d, t + 1, os⟩) X I C.hm (wpAny_pure ?_)))); show wpAny _ _ (handedOut (.ref D)) _ _ _
  rw [handedOut_of (v := .ref D) rfl]
  first
    | exact wpAny_pure (wpAny_pure go)
    | exact wpAny_pure go
    | exact wpAny_pure (wpAny_bind (wpAny_pure (wpAny_pure go)))
theorem kitx_x (C : ExcC K D) : KitX K (.ref x) (.ref D) (fun h => InstAt h x ox D (some od)) := by
  obtain ⟨cd, hc, _⟩ := any_some C.hd
  have hc2 := hc
  unfold clsIn at hc
  split at hc
  · rename_i c' d' cd' sl' ho
    refine ⟨fun _ _ _ I => I.type, fun _ _ X _ => ?_, fun h tp dd its n sl X htp => Bool.eq_false_iff.mpr fun q => ?_, fun X I k => class_x C X I k⟩
    · intro A' Q' E' s' k q
      unfold isType loadHead
      exact wpAny_bind (wpAny_loadPart (k _ _ (X _ _ ho)) (wpAny_pure q))
    · have e : D = tp := Value.ref.inj (beq_iff_eq.mp q)
      subst e
      have z := (X _ _ ho).symm.trans htp
      cases z
  · cases hc
end
end TX
/-- isinstance(e, c), e a pinned error of the class at D with its dict at dd -/
def rIsX (K : PySem.W.Frag) (D a dd : Addr) : List V → Hp → VK → Prop := fun xs H Q => ∃ (c : V) (cv : Value) (b : Bool) (fs : List (Str × V)), xs = [.ref a, c] ∧ (∀ u, RelV c u → u = cv) ∧ PySem.W.kitOne K (.ref D) cv = some b ∧ H dd = some (.xd fs) ∧ Q (.bl b) H
theorem call_isX {X : Cx} {a D dd : Addr} {oe : Obj} (C : ExcC X.K D) (hz : L2N.Zn (.ref D) (some dd) oe) (hf : ∃ vs, oe.data = .fields vs) (hp : (a, oe) ∈ X.pn) : CallR X (.builtin "isinstance") (rIsX X.K D a dd) := by
  intro pins s σ H xs us Q I r h
  obtain ⟨c, cv, b, fs, rfl, hcv, e, ed, q⟩ := h
  cases r with
  | cons rx rr =>
    cases rr with
    | cons rt rr =>
      cases rr
      cases rx
      have ec := hcv _ rt
      subst ec
      obtain ⟨hget, _⟩ := I.pin (a, oe) (List.mem_append.mpr (.inl hp))
      obtain ⟨vs, hv⟩ := hf
      have hx : ObjOk X.prog X.w H s.heap dd (.xd fs) := I.hok dd _ ed
      obtain ⟨mA, hns, _⟩ := hx
      obtain ⟨od, es, ep, ho, _⟩ := hns
      have J : PySem.W.InstAt s.heap a oe D (some od) := ⟨hget, hz.1, by unfold PySem.W.notCls; rw [hv] <;> rfl, by rw [hz.2.1]; exact ho⟩
      exact PySem.W.kia_one (TX.kitx_x C) I.kIn J e (fun z => nomatch z) fun tk => ⟨.bl b, H, I.kept (t' := tk) fun _ _ z => z, rfl, q⟩
/-! ### a def that is called within an except suite and handed the error -/
open L2H in
/-- its promise may speak of the error p that is handled -/
structure FnP (P : Program) (w : World) (K : PySem.W.Frag) (mg : Str → Option Value) (base : Heap) (k : Nat) (f : Addr) (fd : FuncData) (ps : List Str) (sp : Addr × Obj → Sp) : Prop where
  len : ∀ p vs H Q E, sp p vs H Q E → vs.length = ps.length
  run : ∀ (A : Around) (outer : List Env) (s : Shared) (H : Hp) (us : List Value) (vs : List V) (Q : VK) (E : XK) (p : Addr × Obj), RoomH k A → Hot1 A p → PinOk outer H s p → Env0 P w K mg base A outer s H → BindsTo s fd ⟨us, []⟩ (ps.zip us) → Vals vs us → sp p vs H Q E →
    codeAny (model P w) A (.call (.ref f) ⟨us, []⟩) (CR CX0 outer P w H s Q E) s
open L2H PyProof.Rows in
theorem Fun.okP {P : Program} {w : World} {K : PySem.W.Frag} {mg : Str → Option Value} {base : Heap} {x qual : Str} {st : Stmt} {f : Addr} {fd : FuncData} {N ps : List Str} {k : Nat} {sp : Addr × Obj → Sp} (F : Fun K x qual st f fd) (S : FnScope N ps (defScope st)) (len : ∀ p vs H Q E, sp p vs H Q E → vs.length = ps.length)
    (hbody : ∀ (cdv : Value) (A : Around) (outer : List Env) (s : Shared) (H : Hp) (vs : List V) (Q : VK) (E : XK) (p : Addr × Obj), Hot1 A p → RoomH k (A.deeper (envOfC qual (defScope st) s.heap.objs.size f cdv)) → sp p vs H Q E →
      ∃ t, PSs (cxH CX0 P w K mg base N qual (defScope st) f cdv A outer s H E p).nox (defBody st) t ∧ t { nx := fun _ H' => Q .non H', rt := Q } (start N vs) H) : FnP P w K mg base (k + 1) f fd ps sp := by
  obtain ⟨oc, od, kV, doc, pm, an, cdv, ct, osl, rfl, lk, hcd⟩ := F.ex
  refine ⟨len, fun A outer s H us vs Q E p hr hot hpin e0 hb r hsp => ?_⟩
  have hl := len _ _ _ _ _ hsp
  have KX : K.In s.heap := e0.mod.kin.keeps fun b o e => (e0.bs b o e).1
  have lim : s.heap.NoLimit := e0.mod.nolimit.keeps fun b o e => (e0.bs b o e).1
  refine codeAny_call_function hr.depth (KX _ _ lk) rfl S.co S.gen rfl (PySem.W.codeRec_of KX hcd) (hb _ _ _ _ (wpAny_newFunctionEnv_cells S.kind (fun ⟨n, v⟩ hy => ?_) fun env he s1 x => ?_))
  · rcases S.par n (List.of_mem_zip hy).1 with q | q
    · exact .inl q
    · exact .inr ⟨q, PySem.W.cellsFrom_some _ _ _ (.inl q)⟩
  · subst he
    obtain ⟨t, ht, hq⟩ := hbody cdv A outer s H vs Q E p hot (hr.deeper _) hsp
    have I : Inv (cxH CX0 P w K mg base N qual (defScope st) f cdv A outer s H E p) [] (start N vs) H s1 := inv_startH S hpin e0 hl r x
    refine ⟨lim.keeps x.toInCall.keep, codeAny_func (wpAny_mono (ht.nox.run [] s1 (start N vs) H _ I hq) (fun fl s' hs => ?_) fun e s' hs => hs)⟩
    cases fl with
    | ret u => obtain ⟨v, σ', H', J, rv, q⟩ := hs; exact ⟨v, H', J.os, J.bare, J.base, J.hok, rv, q⟩
    | next => obtain ⟨σ', H', J, q⟩ := hs; exact ⟨.non, H', J.os, J.bare, J.base, J.hok, rfl, q⟩
    | brk => obtain ⟨_, _, _, q⟩ := hs; exact q.elim
    | cont => obtain ⟨_, _, _, q⟩ := hs; exact q.elim
/-- f(e, ..), p the error that is handled here -/
def tCallP (sp : Sp) (t : TA) : TE := fun σ H Q => t σ H fun vs H1 => sp vs H1 Q (fun _ _ _ => False)
open L2H PyProof.Rows in
theorem pe_callP {X : Cx} {k : Nat} {f : Addr} {fd : FuncData} {ps : List Str} {sp : Addr × Obj → Sp} {x : Str} {q pos : Pos} {e : Expr} {es : List Expr} {t : TA} {p : Addr × Obj} (F : FnP X.prog X.w X.K X.mg X.base k f fd ps sp) (hr : RoomH k X.A) (hot : Hot1 X.A p) (hp : p ∈ X.pn) (hg : Gl X x) (hm : X.mg x = some (.ref f))
    (hk : PySem.W.keepIn X.K (.ref f) = true) (hb : Binds X.K fd ps []) (ha : PA X (e :: es) t) (hdb : (x == ("__debug__" : Str)) = false := by decide) (he : starEach (e :: es) X.env = (false, eval e X.env) :: starEach es X.env := by rfl) (hpl : (backTo pos (starEach es X.env)).any (·.1) = false := by rfl) :
    PE X (.Call (.Name x q) (e :: es) [] pos) (tCallP (sp p) t) := by
  refine ⟨fun pins s σ H Q I h => wpAny_Call_Name_kw (ld_glob I hg hm (PySem.W.callWith_K (h₀ := X.base) I.ok.mod.kin hk (thn (ha.run pos pins s σ H _ I h) fun us s1 ⟨vs, H1, I1, r, q⟩ => ⟨I1.kIn, ?_⟩) he hpl) hdb)⟩
  have hl : us.length = ps.length := by rw [← r.length]; exact F.len _ _ _ _ _ q
  have b := hb s1 us I1.kIn (by rw [List.append_nil]; exact hl)
  rw [List.append_nil] at b
  have P1 := I1.pin p (List.mem_append_left _ hp)
  show wpAny _ _ (call (.ref f) us) _ _ _
  refine wpAny_call (codeAny_mono (F.run X.A X.stack s1 H1 us vs Q (fun _ _ _ => False) p hr hot ⟨P1.1, P1.2.1, fun hm => (List.mem_cons.mp (I1.stkSub p.1 hm)).elim P1.2.2.1 P1.2.2.2.1, P1.2.2.2.2⟩ I1.env0 b r q) fun r s' hq => ?_)
  cases r with
  | error e => exact hq.elim
  | ok fl =>
    cases fl with
    | ret u => exact I1.after hq
    | next => exact hq.elim
    | brk => exact hq.elim
    | cont => exact hq.elim
/-- the error that a suite holds is handled there -/
theorem hot_suite {X : Cx} {a : Addr} {oe : Obj} {cls : Value} {d : Option Addr} {pn : List (Addr × Obj)} (hz : L2N.Zn cls d oe) (hf : ∃ vs, oe.data = .fields vs) : L2H.Hot1 (X.suite a ((a, oe) :: pn)).A (a, oe) := by
  obtain ⟨vs, hv⟩ := hf
  exact ⟨rfl, vs, hv, hz.2.2 vs hv⟩
/-! ### [elt for name in range(..)] within an except suite -/
/-- a comprehension's block, the handled error pinned -/
abbrev blkP (X : Cx) (p : Addr × Obj) (s : Shared) (H : Hp) (scope : Scope) (ce : Env) (fp : List Addr) : Cx := { X.blk s H scope ce fp with pn := [p] }
section
open L2H PyProof.Rows
variable {X : Cx} {p : Addr × Obj}
theorem blk_pin {pins : List (Addr × Obj)} {σ : L2.St} {H H0 : Hp} {s s0 : Shared} {scope : Scope} {ce : Env} {fp : List Addr} (I : Inv (X.blk s0 H0 scope ce fp) pins σ H s) (h : s.heap.get? p.1 = some p.2 ∧ H p.1 = none ∧ p.1 ≠ ce.locals ∧ p.1 ∉ frs X.stack ∧ ∀ v, p.2.data ≠ .cell v) : Inv (blkP X p s0 H0 scope ce fp) pins σ H s :=
  ⟨⟨I.ok.mod, I.ok.kind, I.ok.glob, I.ok.blt, I.ok.above, I.ok.inj, I.ok.has, I.ok.cab, I.ok.hd, I.ok.frames, I.ok.stk, I.ok.exf, I.ok.bs, I.ok.bsz, I.ok.noex, I.ok.exfs, I.ok.funs, I.ok.frf⟩, I.os, I.bare, I.base, I.loc, I.cell, I.free, I.freeC, fun q hq => by
    rcases List.mem_append.mp hq with hq | hq
    · rw [List.mem_singleton.mp hq]; exact h
    · exact I.pin q (List.mem_append_right _ hq), I.hok, I.len⟩
theorem pe_lcP {elt tg iter : Expr} {scope : Scope} {own : List (Str × Nat)} {pos : Pos} {wi : TI} {g : TG} {te : TE} (hot : Hot1 X.A p) (hp : p ∈ X.pn) (hN : X.N.Nodup) (hi : PIH X tg iter wi) (ok : BlkOk X.N X.env.scope scope own)
    (hg : ∀ (s : Shared) (H : Hp) (C : Addr) (cl : List (Str × Addr)) (fp : List Addr), PG (blkP X p s H scope (compEnvC scope cl C X.env) fp) tg g)
    (he : ∀ (s : Shared) (H : Hp) (C : Addr) (cl : List (Str × Addr)) (fp : List Addr), PE (blkP X p s H scope (compEnvC scope cl C X.env) fp) elt te) (hs : ∀ x, foldedSetIterable iter X.env x = pure x := by intro _; rfl) :
    PE X (.ListComp elt [⟨tg, iter, [], 0⟩] scope pos) (tLc wi g tYes te (own.map (·.2))) := by
  refine ⟨fun pins s σ H Q I h => ?_⟩
  rw [eval_ListComp]
  refine wpAny_comprehension_free (use := none) rfl hs (closure_ok fun y hy e => ?_) ok.kind (fun y hy e => by rw [ok.uniq y hy, e]) (thn (hi.run pins s σ H _ I h) fun xv s1 hx => thn hx fun itv s2 h2 => ?_)
  · rcases ok.free y hy e with k | k
    · exact I.ok.has _ (.inl k)
    · exact I.ok.has _ (.inr k)
  obtain ⟨it, fp, tn, J, H2, e, I2, T, st2, f2, q⟩ := h2
  subst e
  refine wpAny_newObj_type (newEnv_comp ?_) (by show 0 ≤ sizeLine; decide)
  generalize hD : s2.heap.objs.size = D
  obtain ⟨W, ⟨m0, w0⟩, turn⟩ := q D (I2.hok.fresh (Nat.le_of_eq hD))
  generalize hs3 : ({ s2 with heap := s2.heap.push { cls := .type "list", data := .seq ([] : List Value).toArray } } : Shared) = s3
  have h3 : s3.heap = s2.heap.push { cls := .type "list", data := .seq ([] : List Value).toArray } := by rw [← hs3]
  have I3 : Inv X pins σ (upd H2 D (.lst [])) s3 := by
    rw [← hs3]
    exact I2.laid (t' := s2.toks) (fun b o e => Heap.get?_push_of_some _ e) (Nat.le_of_eq hD) ⟨Nat.zero_le _, [], 0, .nil, by rw [← hD]; exact Heap.get?_push_size _ rfl⟩
  have f3 : ∀ b ∈ fp, FpOk X pins (upd H2 D (.lst [])) b ∧ b < s3.heap.objs.size := fun b hb => by
    obtain ⟨o, e, _⟩ := T.obj _ _ st2 b hb
    have lt := Heap.lt_size e
    exact ⟨⟨by rw [upd_ne (by rw [← hD]; exact Nat.ne_of_lt lt)]; exact (f2 b hb).1, (f2 b hb).2⟩, by rw [h3, Heap.size_push]; exact Nat.lt_succ_of_lt lt⟩
  have P3 := I3.pin p (List.mem_append_left _ hp)
  have I4 := block_start I3 ok hN f3
  have pg := hg s3 (upd H2 D (.lst [])) s3.heap.objs.size (cellsFrom (s3.heap.objs.size + 1) scope.names (cloFrom X.env.cells scope.names [])) fp
  have pe := he s3 (upd H2 D (.lst [])) s3.heap.objs.size (cellsFrom (s3.heap.objs.size + 1) scope.names (cloFrom X.env.cells scope.names [])) fp
  have nfp : ∀ b ∈ fp, (upd H2 D (.lst [])) b = none := fun b hb => (f3 b hb).1.1
  show codeAny _ _ (.compStart (.ListComp elt [⟨tg, iter, [], 0⟩] scope pos) 0 (.ref it) (.ref D) (compEnvC scope (cellsFrom (s3.heap.objs.size + 1) scope.names (cloFrom X.env.cells scope.names [])) s3.heap.objs.size X.env)) (compPost (model X.prog X.w) X.A X.xe none (EP X pins σ Q) (.ref D) s3.heap.objs.size) { s3 with heap := pushCells (s3.heap.push { cls := .type "dict", data := .dict #[] }) scope.names }
  generalize hce : compEnvC scope (cellsFrom (s3.heap.objs.size + 1) scope.names (cloFrom X.env.cells scope.names [])) s3.heap.objs.size X.env = ce at I4 pg pe ⊢
  have cL : ce.locals = s3.heap.objs.size := by subst hce; rfl
  generalize hH3 : upd H2 D (.lst []) = H3 at I3 I4 pg pe w0 nfp f3 P3
  generalize hs4 : ({ s3 with heap := pushCells (s3.heap.push { cls := .type "dict", data := .dict #[] }) scope.names } : Shared) = s4 at I4 ⊢
  have kp4 : ∀ b o, s3.heap.get? b = some o → s4.heap.get? b = some o := fun b o e => by rw [← hs4]; exact pushCells_keeps _ _ _ _ (Heap.get?_push_of_some _ e)
  have st4 : tn 0 s4.heap := T.keep _ _ _ st2 fun b _ o e => kp4 b o (by rw [h3]; exact Heap.get?_push_of_some _ e)
  have I5 : Inv (blkP X p s3 H3 scope ce fp) [] (wipe σ (own.map (·.2))) H3 s4 := blk_pin I4 ⟨kp4 _ _ P3.1, P3.2.1, by rw [cL]; exact Nat.ne_of_lt (Heap.lt_size P3.1), fun hm => (List.mem_cons.mp (I3.stkSub p.1 hm)).elim P3.2.2.1 P3.2.2.2.1, P3.2.2.2.2⟩
  have hotB : HotC (blkP X p s3 H3 scope ce fp) := ⟨p, hot, List.mem_singleton.mpr rfl⟩
  have stat : ∀ {σ' : L2.St} {H' : Hp} {s' : Shared}, Inv (blkP X p s3 H3 scope ce fp) [] σ' H' s' → (∀ b ∈ fp, H' b = none) → ∀ b ∈ fp, FpOk (blkP X p s3 H3 scope ce fp) [] H' b := fun {σ' H' s'} I' hn b hb =>
    ⟨hn b hb, (I'.ok.exf b hb).1, I'.ok.exfs b hb, .inl hb, fun x c e => (I'.ok.exf b hb).2 x c e, fun r hr => by
      have er : r = p := by simpa using (show r ∈ [p] ++ ([] : List (Addr × Obj)) from hr)
      rw [er]
      exact (f3 b hb).1.2.2.2.2.2 p (List.mem_append_left _ hp)⟩
  have loop : codeAny (model X.prog X.w) X.A (.compLoop (.ListComp elt [⟨tg, iter, [], 0⟩] scope pos) 0 (.ref it) (.ref D) ce) (compPost (model X.prog X.w) X.A X.xe none (EP X pins σ Q) (.ref D) s3.heap.objs.size) s4 := by
    refine compLoop_any (fun n s' => ∃ i H', Inv (blkP X p s3 H3 scope ce fp) [] (wipe σ (own.map (·.2))) H' s' ∧ tn i s'.heap ∧ (∀ b ∈ fp, H' b = none) ∧ W i n H') ?_ m0 ⟨0, H3, I5, st4, nfp, w0⟩
    rintro n s5 ⟨i, H5, I5, st5, n5, w5⟩
    rcases turn i n H5 w5 with ⟨stop, qq⟩ | ⟨go, Nx, hNx, step⟩
    · refine thnF (T.done (blkP X p s3 H3 scope ce fp) rfl rfl rfl hotB i [] s5 _ H5 (fun _ _ => False) I5 (stat I5 n5) st5 stop) fun r s6 ⟨hr, I6⟩ => ?_
      subst hr
      have I7 : Inv X pins σ H5 s6 := I3.call' (ch := fp) I6.os I6.base I6.hok I6.bare fun b hb => ⟨(f3 b hb).1.2.2.2.1, (f3 b hb).1.2.1, (f3 b hb).1.2.2.2.2.1, (f3 b hb).1.2.2.2.2.2⟩
      have nC : H5 s3.heap.objs.size = none := cL ▸ (show H5 ce.locals = none from I6.free)
      obtain ⟨m, hn, _⟩ := I6.loc
      have hn : s6.heap.Ns s3.heap.objs.size m := cL ▸ (show s6.heap.Ns ce.locals m from hn)
      obtain ⟨f0, f1, f2', f3', f4, f5⟩ := I3.fpOk (Nat.le_refl _) nC
      exact ⟨m, hn, fun h'' sb => ⟨.ref D, H5, I7.turned (t' := s6.toks) (fun b o hb e => (sb.2 b hb).trans e) f0 f1 f3' f4 f5, rfl, qq⟩⟩
    · refine thnF (T.item (blkP X p s3 H3 scope ce fp) rfl rfl rfl hotB i [] s5 _ H5 (fun _ _ => False) I5 (stat I5 n5) st5 go) fun r s6 ⟨u, hr, h6⟩ => ?_
      subst hr
      refine thnF h6 fun _ s7 ⟨x, H7, I7, r7, y7, st7, n7⟩ => thnF (pg.run _ s7 _ H7 x u _ (I7.pinned (stat I7 n7) (T.obj _ _ st7)) r7 (step x H7 y7)) fun _ s8 ⟨σ8, H8, I8, hw8, q8⟩ => thnF ((pts_nil (X := blkP X p s3 H3 scope ce fp)).run _ s8 σ8 H8 _ I8 q8) fun b s9 ⟨H9, I9, q9⟩ => ?_
      have fin : ∀ {s' : Shared} {H' : Hp}, Inv (blkP X p s3 H3 scope ce fp) ([] ++ pinsAt fp s7.heap) σ8 H' s' → Nx H' → ∃ m, m < n ∧ ∃ i H', Inv (blkP X p s3 H3 scope ce fp) [] (wipe σ (own.map (·.2))) H' s' ∧ tn i s'.heap ∧ (∀ b ∈ fp, H' b = none) ∧ W i m H' := fun {s' H'} I' nx => by
        obtain ⟨m', hm, w'⟩ := hNx H' nx
        have pin' : ∀ b ∈ fp, ∀ o, s7.heap.get? b = some o → s'.heap.get? b = some o ∧ H' b = none := fun b hb o e => ⟨(I'.pin (b, o) (List.mem_append_right _ (List.mem_append_right _ (mem_pinsAt hb e)))).1, (I'.pin (b, o) (List.mem_append_right _ (List.mem_append_right _ (mem_pinsAt hb e)))).2.1⟩
        refine ⟨m', hm, i + 1, H', (I'.unpinned (pins := [])).weak (by rw [← hw8, wipe_length]) (fun j v e => (wipe_some (by rw [← hw8] at e; exact e)).1), T.keep _ _ _ st7 fun b hb o e => (pin' b hb o e).1, fun b hb => ?_, w'⟩
        obtain ⟨o, e, _⟩ := T.obj _ _ st7 b hb
        exact (pin' b hb o e).2
      cases b with
      | false =>
        simp only [Bool.false_eq_true, if_false] at q9 ⊢
        exact fin I9 q9
      | true =>
        simp only [if_true] at q9 ⊢
        exact thnF (pe.run _ s9 σ8 H9 _ I9 q9) fun z s10 ⟨yv, H10, I10, r10, acc, hD10, hz10, nx⟩ => app_ok (X := blkP X p s3 H3 scope ce fp) I10 hD10 hz10 r10 fun s11 I11 => fin I11 nx
  exact codeAny_compStart_list loop (T.self X.A 0 _ _ _ st4 loop)
end

/-! ### the errors -/
abbrev sXI2 : Stmt := inClass (topS 5) 0
abbrev NXI2 : List Str := ["self", "value"]
abbrev PXI2 : List Str := ["self", "value"]
theorem scXI2 : FnScope NXI2 PXI2 (defScope sXI2) := ⟨rfl, rfl, rfl, by decide +kernel, rfl, by decide +kernel, by decide +kernel⟩
theorem ok_XI2 {P : Program} {w : World} {K : PySem.W.Frag} {mg : Str → Option Value} {base : Heap} {f C : Addr} {fd : FuncData} (F : Fun K "__init__" "InvalidTree.__init__" sXI2 f fd) (T : OexG K C) (hn : PySem.W.findIn K (.ref C) "value" = some none) : FnOk P w K mg base CX0 1 f fd PXI2 (spX C "value") := by
  refine F.ok scXI2 (fun vs H Q E h => ?_) fun cdv A outer s H vs Q E hr h => ⟨_, pss_one (ps_ostG (pv 0) (pv 1)), ?_⟩
  · obtain ⟨a, v, rfl, _⟩ := h; rfl
  · obtain ⟨a, v, rfl, ea, q⟩ := h; exact ⟨_, rfl, _, rfl, a, C, rfl, T, hn, ea, q⟩
abbrev sXI3 : Stmt := inClass (topS 6) 0
abbrev NXI3 : List Str := ["self", "name"]
abbrev PXI3 : List Str := ["self", "name"]
theorem scXI3 : FnScope NXI3 PXI3 (defScope sXI3) := ⟨rfl, rfl, rfl, by decide +kernel, rfl, by decide +kernel, by decide +kernel⟩
theorem ok_XI3 {P : Program} {w : World} {K : PySem.W.Frag} {mg : Str → Option Value} {base : Heap} {f C : Addr} {fd : FuncData} (F : Fun K "__init__" "DuplicateName.__init__" sXI3 f fd) (T : OexG K C) (hn : PySem.W.findIn K (.ref C) "name" = some none) : FnOk P w K mg base CX0 1 f fd PXI3 (spX C "name") := by
  refine F.ok scXI3 (fun vs H Q E h => ?_) fun cdv A outer s H vs Q E hr h => ⟨_, pss_one (ps_ostG (pv 0) (pv 1)), ?_⟩
  · obtain ⟨a, v, rfl, _⟩ := h; rfl
  · obtain ⟨a, v, rfl, ea, q⟩ := h; exact ⟨_, rfl, _, rfl, a, C, rfl, T, hn, ea, q⟩
abbrev sXI4 : Stmt := inClass (topS 7) 0
abbrev NXI4 : List Str := ["self", "name"]
abbrev PXI4 : List Str := ["self", "name"]
theorem scXI4 : FnScope NXI4 PXI4 (defScope sXI4) := ⟨rfl, rfl, rfl, by decide +kernel, rfl, by decide +kernel, by decide +kernel⟩
theorem ok_XI4 {P : Program} {w : World} {K : PySem.W.Frag} {mg : Str → Option Value} {base : Heap} {f C : Addr} {fd : FuncData} (F : Fun K "__init__" "UnknownName.__init__" sXI4 f fd) (T : OexG K C) (hn : PySem.W.findIn K (.ref C) "name" = some none) : FnOk P w K mg base CX0 1 f fd PXI4 (spX C "name") := by
  refine F.ok scXI4 (fun vs H Q E h => ?_) fun cdv A outer s H vs Q E hr h => ⟨_, pss_one (ps_ostG (pv 0) (pv 1)), ?_⟩
  · obtain ⟨a, v, rfl, _⟩ := h; rfl
  · obtain ⟨a, v, rfl, ea, q⟩ := h; exact ⟨_, rfl, _, rfl, a, C, rfl, T, hn, ea, q⟩
abbrev sXI5 : Stmt := inClass (topS 8) 0
abbrev NXI5 : List Str := ["self", "place"]
abbrev PXI5 : List Str := ["self", "place"]
theorem scXI5 : FnScope NXI5 PXI5 (defScope sXI5) := ⟨rfl, rfl, rfl, by decide +kernel, rfl, by decide +kernel, by decide +kernel⟩
theorem ok_XI5 {P : Program} {w : World} {K : PySem.W.Frag} {mg : Str → Option Value} {base : Heap} {f C : Addr} {fd : FuncData} (F : Fun K "__init__" "WrongArguments.__init__" sXI5 f fd) (T : OexG K C) (hn : PySem.W.findIn K (.ref C) "place" = some none) : FnOk P w K mg base CX0 1 f fd PXI5 (spX C "place") := by
  refine F.ok scXI5 (fun vs H Q E h => ?_) fun cdv A outer s H vs Q E hr h => ⟨_, pss_one (ps_ostG (pv 0) (pv 1)), ?_⟩
  · obtain ⟨a, v, rfl, _⟩ := h; rfl
  · obtain ⟨a, v, rfl, ea, q⟩ := h; exact ⟨_, rfl, _, rfl, a, C, rfl, T, hn, ea, q⟩
abbrev sXI6 : Stmt := inClass (topS 9) 0
abbrev NXI6 : List Str := ["self", "place"]
abbrev PXI6 : List Str := ["self", "place"]
theorem scXI6 : FnScope NXI6 PXI6 (defScope sXI6) := ⟨rfl, rfl, rfl, by decide +kernel, rfl, by decide +kernel, by decide +kernel⟩
theorem ok_XI6 {P : Program} {w : World} {K : PySem.W.Frag} {mg : Str → Option Value} {base : Heap} {f C : Addr} {fd : FuncData} (F : Fun K "__init__" "InvalidFinally.__init__" sXI6 f fd) (T : OexG K C) (hn : PySem.W.findIn K (.ref C) "place" = some none) : FnOk P w K mg base CX0 1 f fd PXI6 (spX C "place") := by
  refine F.ok scXI6 (fun vs H Q E h => ?_) fun cdv A outer s H vs Q E hr h => ⟨_, pss_one (ps_ostG (pv 0) (pv 1)), ?_⟩
  · obtain ⟨a, v, rfl, _⟩ := h; rfl
  · obtain ⟨a, v, rfl, ea, q⟩ := h; exact ⟨_, rfl, _, rfl, a, C, rfl, T, hn, ea, q⟩
abbrev sXI7 : Stmt := inClass (topS 10) 0
abbrev NXI7 : List Str := ["self", "word"]
abbrev PXI7 : List Str := ["self", "word"]
theorem scXI7 : FnScope NXI7 PXI7 (defScope sXI7) := ⟨rfl, rfl, rfl, by decide +kernel, rfl, by decide +kernel, by decide +kernel⟩
theorem ok_XI7 {P : Program} {w : World} {K : PySem.W.Frag} {mg : Str → Option Value} {base : Heap} {f C : Addr} {fd : FuncData} (F : Fun K "__init__" "TooLarge.__init__" sXI7 f fd) (T : OexG K C) (hn : PySem.W.findIn K (.ref C) "word" = some none) : FnOk P w K mg base CX0 1 f fd PXI7 (spX C "word") := by
  refine F.ok scXI7 (fun vs H Q E h => ?_) fun cdv A outer s H vs Q E hr h => ⟨_, pss_one (ps_ostG (pv 0) (pv 1)), ?_⟩
  · obtain ⟨a, v, rfl, _⟩ := h; rfl
  · obtain ⟨a, v, rfl, ea, q⟩ := h; exact ⟨_, rfl, _, rfl, a, C, rfl, T, hn, ea, q⟩
structure ErrH (P : Program) (w : World) (K : PySem.W.Frag) (mg : Str → Option Value) (base : Heap) (C : Nat → Addr) : Prop where
  h2 : HasX P w K mg base 1 "InvalidTree" (C 2) "value"
  h3 : HasX P w K mg base 1 "DuplicateName" (C 3) "name"
  h4 : HasX P w K mg base 1 "UnknownName" (C 4) "name"
  h5 : HasX P w K mg base 1 "WrongArguments" (C 5) "place"
  h6 : HasX P w K mg base 1 "InvalidFinally" (C 6) "place"
  h7 : HasX P w K mg base 1 "TooLarge" (C 7) "word"
open PyProof.Rows in
/-- as Fun.ok, for a def that errors leave -/
theorem Fun.okN {P : Program} {w : World} {K : PySem.W.Frag} {mg : Str → Option Value} {base : Heap} {x qual : Str} {st : Stmt} {f : Addr} {fd : FuncData} {N ps : List Str} {k : Nat} {sp : Sp} (F : Fun K x qual st f fd) (S : FnScope N ps (defScope st)) (len : ∀ vs H Q E, sp vs H Q E → vs.length = ps.length)
    (hbody : ∀ (cdv : Value) (A : Around) (outer : List Env) (s : Shared) (H : Hp) (vs : List V) (Q : VK) (E : XK), Room k (A.deeper (envOfC qual (defScope st) s.heap.objs.size f cdv)) → sp vs H Q E →
      ∃ t, PSs (cxOf (L2N.CX P w) P w K mg base N qual (defScope st) f cdv A outer s H E) (defBody st) t ∧ t { nx := fun _ H' => Q .non H', rt := Q } (start N vs) H) : FnOk P w K mg base (L2N.CX P w) (k + 1) f fd ps sp := by
  obtain ⟨oc, od, kV, doc, pm, an, cdv, ct, osl, rfl, lk, hcd⟩ := F.ex
  exact fn_of lk hcd S len fun A outer s H vs Q E hr hsp => hbody cdv A outer s H vs Q E hr hsp
theorem pe_callSH {X : Cx} {CX : CXT} {k : Nat} {x : Str} {ps : List Str} {sp : Sp} {E : L2.St → XK} {e : Expr} {es : List Expr} {t : TA} {p pos : Pos} (F : Has X.prog X.w X.K X.mg X.base CX k x ps sp) (hr : Room k X.A) (hg : Gl X x) (hx : ∀ σ, PassesAt CX X σ (E σ)) (ha : PA X (e :: es) t)
    (hd : (x == ("__debug__" : Str)) = false := by decide) (he : starEach (e :: es) X.env = (false, eval e X.env) :: starEach es X.env := by rfl) (hpl : (backTo pos (starEach es X.env)).any (·.1) = false := by rfl) :
    PE X (.Call (.Name x p) (e :: es) [] pos) (tCallS sp E t) := by
  obtain ⟨f, fd, F, m, kp, b⟩ := F.ex
  exact pe_callS F hr hg m kp b hx ha hd he hpl
/-- raise C(e) in a def that errors leave -/
theorem ps_raiseX {X : Cx} {W : WX} {x : Str} {C : Addr} {f : Str} {k : Nat} {e : Expr} {ta : TA} {p pos pos' : Pos} (hc : X.calm = true) (tk : L2N.Takes X W) (T : HasX X.prog X.w X.K X.mg X.base k x C f) (hr : Room (k + 1) X.A) (hg : Gl X x) (ha : PA X [e] ta)
    (hdb : (x == ("__debug__" : Str)) = false := by decide) (he : starEach [e] X.env = (false, eval e X.env) :: starEach [] X.env := by rfl) : PS X (.Raise (some (.Call (.Name x p) [e] [] pos)) none pos') (fun _ σ H => tMkX C f ta σ H fun cls d H' => W cls d σ H') :=
  L2N.ps_raise hc tk (pmk_x T hr hg ha hdb he)

/-! ### check_sizes, both answers -/
structure BigT (t : Tr) : Prop where
  sz : (t.fns.map fun f => szB f.b).sum ≤ 20000
  nd : ∀ f ∈ t.fns, ndD (blD f.b) ≤ 20000
  num : (exsT t).length ≤ 20000 ∧ ∀ e ∈ exsT t, smallE e ∧ e.ts.length ≤ 20000
  nmd : ∀ f ∈ t.fns, ∀ p ∈ allB f.b 0, (namedS p.2).length ≤ 20000
theorem BigT.sz1 {t : Tr} (s : BigT t) {f : Fn} (h : f ∈ t.fns) : szB f.b ≤ 20000 := Nat.le_trans (sum_mem (f := fun f : Fn => szB f.b) h) s.sz
abbrev e3 (w : Str) (i m : Int) : Str × Int × Int := (w, i, m)
def bigE (e : Str × Int × Int) : Str × Bool := (e.1, decide (e.2.2 < e.2.1))
def szL (t : Tr) : List (Str × Bool) :=
  [("globals", decide ((4 : Int) < ((t.names.length : Nat) : Int))), ("kinds", decide ((3 : Int) < ((t.kinds.length : Nat) : Int))), ("keeps", decide ((4 : Int) < ((t.keeps.length : Nat) : Int))), ("functions", decide ((6 : Int) < ((t.fns.length : Nat) : Int))),
    ("parameters", (t.fns.map fun f => ((prs f).length : Int)).any fun y => decide (3 < y)), ("parameters", (t.fns.map fun f => ((plN f).length : Int)).any fun y => decide (2 < y)), ("locals", (t.fns.map fun f => ((innerF t.names (prs f) f.b).length : Int)).any fun y => decide (3 < y)),
    ("statements", decide ((60 : Int) < (((t.fns.map fun f => szB f.b).sum : Nat) : Int))), ("nesting", (t.fns.map fun f => (dpB f.b : Int)).any fun y => decide (6 < y)), ("numbers", false)]
/-- the first word whose count is too great -/
def bigW (t : Tr) : Option Str := ((szL t).find? fun e => e.2).map Prod.fst
theorem MaxIs.anyB {ns : List Int} {m b : Int} (h : MaxIs 0 ns m) (hb : 0 ≤ b) : decide (b < m) = ns.any fun y => decide (b < y) := by
  cases e : ns.any fun y => decide (b < y) with
  | true =>
    obtain ⟨y, hy, hb2⟩ := List.any_eq_true.mp e
    have := of_decide_eq_true hb2
    rcases h with ⟨z, _⟩ | ⟨_, hl⟩
    · rw [z] at hy; cases hy
    · have := hl y hy
      exact decide_eq_true (by omega)
  | false =>
    refine decide_eq_false fun z => ?_
    rcases h with ⟨_, w⟩ | ⟨hm, _⟩
    · omega
    · rw [List.any_eq_true.mpr ⟨m, hm, decide_eq_true z⟩] at e
      cases e
theorem big_find {l : List (Str × Int × Int)} {i : Nat} {e : Str × Int × Int} (h : l[i]? = some e) (al : ∀ x ∈ l.take i, (bigE x).2 = false) (hb : (bigE e).2 = true) : (l.map bigE).find? (fun e => e.2) = some (bigE e) := by
  induction l generalizing i with
  | nil => simp at h
  | cons y r ih =>
    cases i with
    | zero =>
      simp only [List.getElem?_cons_zero, Option.some.injEq] at h
      subst h
      rw [List.map_cons, List.find?_cons, hb]
    | succ i =>
      have h0 := al y (by simp)
      rw [List.map_cons, List.find?_cons, h0]
      exact ih (by simpa using h) fun x hx => al x (by rw [List.take_succ_cons]; exact List.mem_cons_of_mem _ hx)
theorem small_of {t : Tr} (b : BigT t) (h : bigW t = none) : SmallT t := by
  unfold bigW at h
  have h := List.find?_eq_none.mp (Option.map_eq_none_iff.mp h)
  have no : ∀ e ∈ szL t, e.2 = false := fun e he => Bool.eq_false_iff.mpr (h e he)
  have an : ∀ {ns : List Int} {c : Int}, (ns.any fun y => decide (c < y)) = false → ∀ y ∈ ns, y ≤ c := fun {ns c} e y hy => by
    have := List.any_eq_false.mp e y hy
    simp only [decide_eq_true_eq] at this
    omega
  have d : ∀ {a c : Int}, decide (a < c) = false → c ≤ a := fun e => by
    have := of_decide_eq_false e
    omega
  have n1 := d (no ("globals", decide ((4 : Int) < ((t.names.length : Nat) : Int))) (by simp [szL]))
  have n2 := d (no ("kinds", decide ((3 : Int) < ((t.kinds.length : Nat) : Int))) (by simp [szL]))
  have n3 := d (no ("keeps", decide ((4 : Int) < ((t.keeps.length : Nat) : Int))) (by simp [szL]))
  have n4 := d (no ("functions", decide ((6 : Int) < ((t.fns.length : Nat) : Int))) (by simp [szL]))
  have n5 := an (no ("parameters", (t.fns.map fun f => ((prs f).length : Int)).any fun y => decide (3 < y)) (.tail _ (.tail _ (.tail _ (.tail _ (.head _))))))
  have n6 := an (no ("parameters", (t.fns.map fun f => ((plN f).length : Int)).any fun y => decide (2 < y)) (.tail _ (.tail _ (.tail _ (.tail _ (.tail _ (.head _)))))))
  have n7 := an (no ("locals", (t.fns.map fun f => ((innerF t.names (prs f) f.b).length : Int)).any fun y => decide (3 < y)) (.tail _ (.tail _ (.tail _ (.tail _ (.tail _ (.tail _ (.head _))))))))
  have n8 := d (no ("statements", decide ((60 : Int) < (((t.fns.map fun f => szB f.b).sum : Nat) : Int))) (by simp [szL]))
  have n9 := an (no ("nesting", (t.fns.map fun f => (dpB f.b : Int)).any fun y => decide (6 < y)) (.tail _ (.tail _ (.tail _ (.tail _ (.tail _ (.tail _ (.tail _ (.tail _ (.head _))))))))))
  have lp : ∀ f : Fn, (prs f).length = f.ps.length := fun f => by unfold prs; rw [List.length_map]
  exact ⟨by omega, by omega, by omega, by omega, fun f hf => by have := n5 _ (List.mem_map_of_mem hf); rw [lp] at this; omega, fun f hf => by have := n6 _ (List.mem_map_of_mem hf); omega, fun f hf => by have := n7 _ (List.mem_map_of_mem hf); omega,
    by omega, fun f hf => by have := n9 _ (List.mem_map_of_mem hf); omega, b.num⟩
/-- an entry of sizes -/
def SzAt (H : Hp) (x : V) (e : Str × Int × Int) : Prop := ∃ a, x = .ref a ∧ H a = some (.tup [.str e.1, .int e.2.1, .int e.2.2])
theorem SzAt.tps {H H' : Hp} (s : Tps H H') {x : V} {e : Str × Int × Int} (h : SzAt H x e) : SzAt H' x e := let ⟨a, z, q⟩ := h; ⟨a, z, s.1 _ _ q⟩
def Szs (HB : Hp) (q : Addr) (n : Nat) (l : List (Str × Int × Int)) (H : Hp) : Prop := Same HB H ∧ ∃ us, H q = some (.lst us) ∧ us.length = n ∧ Paired (SzAt H) us l
theorem Szs.grow {HB H H' : Hp} {q : Addr} {n : Nat} {l : List (Str × Int × Int)} (h : Szs HB q n l H) (s : Same H H') : Szs HB q n l H' :=
  let ⟨s0, us, e, ll, a⟩ := h
  ⟨s0.trans s, us, s _ _ e, ll, Paired.mapP a fun _ _ z => z.tps (Tps.of s)⟩
theorem Szs.push {HB H : Hp} {q t : Addr} {n : Nat} {l : List (Str × Int × Int)} {w : Str} {i m : Int} (h : Szs HB q n l H) (hq : HB q = none) (ht : H t = none) : ∃ us, upd H t (.tup [.str w, .int i, .int m]) q = some (.lst us) ∧ us.length = n ∧ Szs HB q (n + 1) (l ++ [(w, i, m)]) (upd (upd H t (.tup [.str w, .int i, .int m])) q (.lst (us ++ [.ref t]))) := by
  have s1 := same_new (o := .tup [.str w, .int i, .int m]) ht
  obtain ⟨s0, us, e, ll, a⟩ := h.grow s1
  have tp : Tps (upd H t (.tup [.str w, .int i, .int m])) (upd (upd H t (.tup [.str w, .int i, .int m])) q (.lst (us ++ [.ref t]))) := Tps.lst e
  refine ⟨us, e, ll, fun c o z => ?_, us ++ [.ref t], upd_same, by rw [List.length_append, ll]; rfl, Paired.snoc (Paired.mapP a fun _ _ z => z.tps tp) ⟨t, rfl, tp.1 _ _ upd_same⟩⟩
  rw [upd_ne (ne_of_none z hq)]
  exact s0 _ _ z
def ResW (C' : Nat → Addr) (H : Hp) (Q : Hp → Prop) (E : XK) : Option Str → Prop
  | none => ∀ H', Same H H' → Q H'
  | some w => ∀ d H', Same H H' → H' d = none → E (.ref (C' 7)) (some d) (upd H' d (.xd [("word", .str w)]))
def spChZ (K : PySem.W.Frag) (C' : Nat → Addr) (n : Nat) : Sp := fun vs H Q E => ∃ (v : V) (t : Tr), vs = [v] ∧ Dp K H v (trD t) ∧ okTr n t ∧ BigT t ∧ ResW C' H (fun H' => Q .non H') E (bigW t)
section
variable {P : Program} {w : World} {K : PySem.W.Frag} {mg : Str → Option Value} {base : Heap} {C' : Nat → Addr}
theorem ok_ChZ {n : Nat} {f : Addr} {fd : FuncData} (F : Fun K "check_sizes" "check_sizes" sChS f fd) (T : TxChk mg) (n_int : mg "int" = none) (X : ErrH P w K mg base C') (GO : Has P w K mg base CX0 (4 + n + 1 + 1) "own_names" POwn (spOwn K n)) (GS : Has P w K mg base CX0 (2 + n) "size_of" PSize (spSize K n)) (GD : Has P w K mg base CX0 (2 + n) "depth_of" PDep (spDep K n)) (GG : Has P w K mg base CX0 (4 + n + 1) "has_great_number" PGrt (spGrt K n)) : FnOk P w K mg base (L2N.CX P w) (4 + n + 1 + 1 + 1) f fd PChS (spChZ K C' n) := by
  refine Fun.okN F scChS (fun vs H Q E h => ?_) (fun cdv A outer sh H vs Q E hr h => ?_)
  · obtain ⟨v, e, rfl, _⟩ := h
    rfl
  · obtain ⟨v, t, rfl, hv, ok, sm, k⟩ := h
    have tk := L2N.takes_of (X := cxOf (L2N.CX P w) P w K mg base NChS "check_sizes" (defScope sChS) f cdv A outer sh H E) (E := E) rfl rfl rfl rfl
    have n_int := n_int
    have T : TxSz mg := ⟨T, n_int⟩
    have hr2 := hr.mono (j := 2 + n) (by omega)
    have hr5 := hr.mono (j := 4 + n + 1) (by omega)
    refine ⟨_, (pss_cons (ps_asg (pv 0) (pg_tup (by rfl) (pgs_cons (pg_name (i := 1) scChS.nd rfl (Or.inl rfl)) (pgs_cons (pg_name (i := 2) scChS.nd rfl (Or.inl rfl)) (pgs_cons (pg_name (i := 3) scChS.nd rfl (Or.inl rfl)) (pgs_cons (pg_name (i := 4) scChS.nd rfl (Or.inl rfl)) pgs_nil))))))
  (pss_cons (ps_setLc (i := 5) (own := [("one", 6)]) (g := gName 6) (tt := tYes) rfl scChS.nd rfl rfl (sw_true rfl rfl rfl (by decide +kernel)) (pi_tup (pv 4)) (blkOk_by (own := [("one", 6)]) (N := NChS) (sc := (defScope sChS)) (by decide +kernel)) (fun _ _ _ _ _ => (pg_name (i := 6) scChS.nd rfl (Or.inl rfl))) (fun _ _ _ _ _ => pts_nil) (fun _ _ _ _ _ => (pe_callH GO hr rfl pass0 (pa_cons (pv 0) (pa_cons (pv 6) pa_nil)))))
  (pss_cons (ps_setLc (i := 7) (own := [("name", 9), ("params", 10), ("block", 11)]) (g := gTup K 3 (gCons (gName 9) (gCons (gName 10) (gCons (gName 11) gNil)))) (tt := tYes) rfl scChS.nd rfl rfl (sw_true rfl rfl rfl (by decide +kernel)) (pi_tup (pv 4)) (blkOk_by (own := [("name", 9), ("params", 10), ("block", 11)]) (N := NChS) (sc := (defScope sChS)) (by decide +kernel)) (fun _ _ _ _ _ => (pg_tup (by rfl) (pgs_cons (pg_name (i := 9) scChS.nd rfl (Or.inl rfl)) (pgs_cons (pg_name (i := 10) scChS.nd rfl (Or.inl rfl)) (pgs_cons (pg_name (i := 11) scChS.nd rfl (Or.inl rfl)) pgs_nil))))) (fun _ _ _ _ _ => pts_nil) (fun _ _ _ _ _ => (pe_callB (r := rLenS K) call_len_seq (by rfl) T.n_len bb_len (pa_cons (pe_lc (own := [("one", 6), ("by_place", 8)]) (wi := iTup K (tVar 10)) (g := gTup K 2 (gCons (gName 6) (gCons (gName 8) gNil))) rfl scChS.nd (pi_tup (pv 10)) (blkOk_by (own := [("one", 6), ("by_place", 8)]) (N := NChS) (sc := { kind := .function, names := [(".0", .local), ("name", .local), ("params", .local), ("block", .local), ("len", .globalImplicit)], isGenerator := false, isCoroutine := false }) (by decide +kernel)) (fun _ _ _ _ _ => (pg_tup (by rfl) (pgs_cons (pg_name (i := 6) scChS.nd rfl (Or.inl rfl)) (pgs_cons (pg_name (i := 8) scChS.nd rfl (Or.inl rfl)) pgs_nil)))) (fun _ _ _ _ _ => (pts_one (pt_val (pv 8)))) (fun _ _ _ _ _ => (pv 6))) pa_nil))))
  (pss_cons (ps_set (i := 12) scChS.nd rfl (Or.inl rfl) (pe_lst (pa_cons (pe_tup (pa_cons pe_str (pa_cons (pe_callB call_len_seq (by rfl) T.n_len bb_len (pa_cons (pv 1) pa_nil)) (pa_cons pe_int pa_nil)))) (pa_cons (pe_tup (pa_cons pe_str (pa_cons (pe_callB call_len_seq (by rfl) T.n_len bb_len (pa_cons (pv 2) pa_nil)) (pa_cons pe_int pa_nil)))) (pa_cons (pe_tup (pa_cons pe_str (pa_cons (pe_callB call_len_seq (by rfl) T.n_len bb_len (pa_cons (pv 3) pa_nil)) (pa_cons pe_int pa_nil)))) pa_nil)))))
  (pss_cons (ps_expr (pe_bm PySem.F.plainAttrs_list PySem.F.slot_list_append PySem.F.type_list_append mt_append (pv 12) (pa_cons (pe_tup (pa_cons pe_str (pa_cons (pe_callB call_len_seq (by rfl) T.n_len bb_len (pa_cons (pv 4) pa_nil)) (pa_cons pe_int pa_nil)))) pa_nil)))
  (pss_cons (ps_expr (pe_bm PySem.F.plainAttrs_list PySem.F.slot_list_append PySem.F.type_list_append mt_append (pv 12) (pa_cons (pe_tup (pa_cons pe_str (pa_cons (pe_callBK (cr_maxDf rfl) (by rfl) T.n_max bb_max (pa_cons (pe_lc (own := [("one", 6), ("other", 13)]) (g := gTup K 2 (gCons (gName 6) (gCons (gName 13) gNil))) (tt := tYes) rfl scChS.nd (pi_list (pv 5)) (blkOk_by (own := [("one", 6), ("other", 13)]) (N := NChS) (sc := (defScope sChS)) (by decide +kernel)) (fun _ _ _ _ _ => (pg_tup (by rfl) (pgs_cons (pg_name (i := 6) scChS.nd rfl (Or.inl rfl)) (pgs_cons (pg_name (i := 13) scChS.nd rfl (Or.inl rfl)) pgs_nil)))) (fun _ _ _ _ _ => pts_nil) (fun _ _ _ _ _ => (pe_callB (r := rLenS K) call_len_seq (by rfl) T.n_len bb_len (pa_cons (pv 6) pa_nil)))) pa_nil) (pk_cons pe_int pk_nil)) (pa_cons pe_int pa_nil)))) pa_nil)))
  (pss_cons (ps_expr (pe_bm PySem.F.plainAttrs_list PySem.F.slot_list_append PySem.F.type_list_append mt_append (pv 12) (pa_cons (pe_tup (pa_cons pe_str (pa_cons (pe_callBK (cr_maxDf rfl) (by rfl) T.n_max bb_max (pa_cons (pv 7) pa_nil) (pk_cons pe_int pk_nil)) (pa_cons pe_int pa_nil)))) pa_nil)))
  (pss_cons (ps_expr (pe_bm PySem.F.plainAttrs_list PySem.F.slot_list_append PySem.F.type_list_append mt_append (pv 12) (pa_cons (pe_tup (pa_cons pe_str (pa_cons (pe_callBK (cr_maxDf rfl) (by rfl) T.n_max bb_max (pa_cons (pe_lc (own := [("one", 6), ("other", 13)]) (g := gTup K 2 (gCons (gName 6) (gCons (gName 13) gNil))) (tt := tYes) rfl scChS.nd (pi_list (pv 5)) (blkOk_by (own := [("one", 6), ("other", 13)]) (N := NChS) (sc := (defScope sChS)) (by decide +kernel)) (fun _ _ _ _ _ => (pg_tup (by rfl) (pgs_cons (pg_name (i := 6) scChS.nd rfl (Or.inl rfl)) (pgs_cons (pg_name (i := 13) scChS.nd rfl (Or.inl rfl)) pgs_nil)))) (fun _ _ _ _ _ => pts_nil) (fun _ _ _ _ _ => (pe_callB (r := rLenS K) call_len_seq (by rfl) T.n_len bb_len (pa_cons (pv 13) pa_nil)))) pa_nil) (pk_cons pe_int pk_nil)) (pa_cons pe_int pa_nil)))) pa_nil)))
  (pss_cons (ps_expr (pe_bm PySem.F.plainAttrs_list PySem.F.slot_list_append PySem.F.type_list_append mt_append (pv 12) (pa_cons (pe_tup (pa_cons pe_str (pa_cons (pe_callB (cr_sum rfl) (by rfl) T.n_sum bb_sum (pa_cons (pe_lc (own := [("name", 9), ("params", 10), ("block", 11)]) (g := gTup K 3 (gCons (gName 9) (gCons (gName 10) (gCons (gName 11) gNil)))) (tt := tYes) rfl scChS.nd (pi_tup (pv 4)) (blkOk_by (own := [("name", 9), ("params", 10), ("block", 11)]) (N := NChS) (sc := (defScope sChS)) (by decide +kernel)) (fun _ _ _ _ _ => (pg_tup (by rfl) (pgs_cons (pg_name (i := 9) scChS.nd rfl (Or.inl rfl)) (pgs_cons (pg_name (i := 10) scChS.nd rfl (Or.inl rfl)) (pgs_cons (pg_name (i := 11) scChS.nd rfl (Or.inl rfl)) pgs_nil))))) (fun _ _ _ _ _ => pts_nil) (fun _ _ _ _ _ => (pe_callH GS hr2 rfl pass0 (pa_cons (pv 11) pa_nil)))) pa_nil)) (pa_cons pe_int pa_nil)))) pa_nil)))
  (pss_cons (ps_expr (pe_bm PySem.F.plainAttrs_list PySem.F.slot_list_append PySem.F.type_list_append mt_append (pv 12) (pa_cons (pe_tup (pa_cons pe_str (pa_cons (pe_callBK (cr_maxDf rfl) (by rfl) T.n_max bb_max (pa_cons (pe_lc (own := [("name", 9), ("params", 10), ("block", 11)]) (g := gTup K 3 (gCons (gName 9) (gCons (gName 10) (gCons (gName 11) gNil)))) (tt := tYes) rfl scChS.nd (pi_tup (pv 4)) (blkOk_by (own := [("name", 9), ("params", 10), ("block", 11)]) (N := NChS) (sc := (defScope sChS)) (by decide +kernel)) (fun _ _ _ _ _ => (pg_tup (by rfl) (pgs_cons (pg_name (i := 9) scChS.nd rfl (Or.inl rfl)) (pgs_cons (pg_name (i := 10) scChS.nd rfl (Or.inl rfl)) (pgs_cons (pg_name (i := 11) scChS.nd rfl (Or.inl rfl)) pgs_nil))))) (fun _ _ _ _ _ => pts_nil) (fun _ _ _ _ _ => (pe_callH GD hr2 rfl pass0 (pa_cons (pv 11) pa_nil)))) pa_nil) (pk_cons pe_int pk_nil)) (pa_cons pe_int pa_nil)))) pa_nil)))
  (pss_cons (ps_expr (pe_bm PySem.F.plainAttrs_list PySem.F.slot_list_append PySem.F.type_list_append mt_append (pv 12) (pa_cons (pe_tup (pa_cons pe_str (pa_cons (pe_callTy call_int1 (by rfl) T.n_int bb_int (pa_cons (pe_callH GG hr5 rfl pass0 (pa_cons (pv 0) pa_nil)) pa_nil)) (pa_cons pe_int pa_nil)))) pa_nil)))
  (pss_one (ps_for (passes_of rfl) rfl (pi_list (pv 12)) (pg_tup (by rfl) (pgs_cons (pg_name (i := 14) scChS.nd rfl (Or.inl rfl)) (pgs_cons (pg_name (i := 15) scChS.nd rfl (Or.inl rfl)) (pgs_cons (pg_name (i := 16) scChS.nd rfl (Or.inl rfl)) pgs_nil))))
  (pss_one (ps_if (pt_cmpR op_gt (pv 15) (pv 16) (nomark _))
  (pss_one (ps_raiseX rfl tk X.h7 (hr.mono (by omega)) rfl (pa_cons (pv 14) pa_nil)))
  pss_nil))))))))))))))), ?_⟩
    obtain ⟨okn, okk, oke, lf, okf⟩ := ok
    have hv0 := hv
    have hv : Dp K H v (.tuple [nmD t.names, nmD t.kinds, .tuple (t.keeps.map exD), .tuple (t.fns.map fnD)]) := hv
    obtain ⟨a, xs, rfl, hq, hd⟩ := hv.tupInv
    obtain ⟨x, y, z, u, rfl, hx, hy, hz, hu⟩ := hd.four
    obtain ⟨b1, ys1, rfl, hb1, hd1⟩ := hx.tupInv
    obtain ⟨b2, ys2, rfl, hb2, hd2⟩ := hy.tupInv
    obtain ⟨b3, ys3, rfl, hb3, hd3⟩ := hz.tupInv
    obtain ⟨c, zs, rfl, hc, hzd⟩ := hu.tupInv
    have pf := DpAll.map hzd
    have l1 : ys1.length = t.names.length := Paired.length (DpAll.map hd1)
    have l2 : ys2.length = t.kinds.length := Paired.length (DpAll.map hd2)
    have l3 : ys3.length = t.keeps.length := Paired.length (DpAll.map hd3)
    have lz : zs.length = t.fns.length := Paired.length pf
    have lF : t.fns.length ≤ 20000 := lf
    refine ⟨_, rfl, a, _, rfl, hq, rfl, _, _, rfl, _, _, rfl, _, _, rfl, _, _, rfl, rfl, ?_⟩
    refine ⟨_, rfl, c, rfl, ⟨_, hc⟩, fun D hD => ?_⟩
    refine lc_tup (K := K) (a := c) (xs := zs) (fun i H' => Same H H' ∧ ∃ us, H' D = some (.lst us) ∧ us.length = i ∧ Paired (OwnAt D t H') us (t.fns.take i)) ⟨same_new hD, [], upd_same, rfl, .nil⟩ (fun i H' _ h' => SqT.same h'.1 hc) ?_ ?_
    · rintro i x H1 hx ⟨s1, us, eD, lu, pu⟩
      obtain ⟨fn, hfn, hfd⟩ := Paired.at pf hx
      have hi : i < zs.length := (List.getElem?_eq_some_iff.mp hx).1
      have mf := List.mem_of_getElem? hfn
      have sz1 := sm.sz1 mf
      have ps1 : fn.ps.length ≤ 20000 := (okf fn mf).2.1.1
      refine ⟨rfl, _, rfl, _, rfl, _, x, t, fn, rfl, hv0.same s1, okn.1, hfd.same s1, okf fn mf, by omega, by omega, fun r a' c' H2 s2 f1 f2 f3 ne e1 e2 e3 => ?_⟩
      have eD2 := s2 _ _ eD
      have nD : ∀ {z : Addr}, H1 z = none → z ≠ D := fun h z => by rw [z, eD] at h; cases h
      refine ⟨_, eD2, smallX (by omega), fun c o z => ?_, us ++ [.ref r], upd_same, by rw [List.length_append, lu]; rfl, ?_⟩
      · rw [upd_ne (ne_of_none z hD)]
        exact s2 _ _ (s1 _ _ z)
      · rw [take_snoc hfn]
        exact Paired.snoc (Paired.mapP pu fun _ _ z => (z.same s2).upd eD2) (OwnAt.upd eD2 ⟨r, a', c', rfl, nD f2, nD f3, e1, e2, e3⟩)
    · rintro H1 ⟨s1, us, eO, lu, pu⟩
      rw [lz, List.take_length] at pu
      refine ⟨_, rfl, c, rfl, ⟨_, SqT.same s1 hc⟩, fun D2 hD2 => ?_⟩
      refine lc_tup (K := K) (a := c) (xs := zs) (fun i H' => Same H1 H' ∧ H' D2 = some (.lst (((t.fns.take i).map fun f => ((plN f).length : Int)).map V.int))) ⟨same_new hD2, upd_same⟩ (fun i H' _ h' => SqT.same (s1.trans h'.1) hc) ?_ ?_
      · rintro i x H2 hx ⟨s2, eD⟩
        obtain ⟨fn, hfn, hfd⟩ := Paired.at pf hx
        have hi : i < zs.length := (List.getElem?_eq_some_iff.mp hx).1
        have mf := List.mem_of_getElem? hfn
        have ps1 : fn.ps.length ≤ 20000 := (okf fn mf).2.1.1
        have hfd : Dp K H x (.tuple [.str fn.name, .tuple (fn.ps.map prD), blD fn.b]) := hfd
        obtain ⟨d, ds, rfl, hd5, hdd⟩ := hfd.tupInv
        obtain ⟨u1, u2, u3, rfl, g1, g2, g3⟩ := hdd.three
        obtain ⟨p, ps, rfl, hp, hpd⟩ := g2.tupInv
        have pp := DpAll.map hpd
        have lp : ps.length = fn.ps.length := Paired.length pp
        refine ⟨d, _, rfl, SqT.same (s1.trans s2) hd5, rfl, _, _, rfl, _, _, rfl, _, _, rfl, rfl, wipe3 (by decide) (by decide) (by decide), ?_⟩
        refine ⟨_, rfl, p, rfl, ⟨_, SqT.same (s1.trans s2) hp⟩, fun D3 hD3 => ?_⟩
        refine lc_tup (K := K) (a := p) (xs := ps) (fun i H' => Same H2 H' ∧ H' D3 = some (.lst ((((fn.ps.take i).filter fun p => p.2).map Prod.fst).map V.str))) ⟨same_new hD3, upd_same⟩ (fun i H' _ h' => SqT.same ((s1.trans s2).trans h'.1) hp) ?_ ?_
        · rintro i z H4 hz ⟨s6, eD3⟩
          obtain ⟨pr, ht, htd⟩ := Paired.at pp hz
          have htd : Dp K H z (.tuple [.str pr.1, .bool pr.2]) := htd
          obtain ⟨c3, zs3, rfl, hc3, hcd3⟩ := htd.tupInv
          obtain ⟨u, w, rfl, hu, hw⟩ := hcd3.two
          rw [hu.strInv, Dp.blInv hw] at hc3
          have hi : i < ps.length := (List.getElem?_eq_some_iff.mp hz).1
          refine ⟨c3, _, rfl, SqT.same ((s1.trans s2).trans s6) hc3, rfl, _, _, rfl, _, _, rfl, rfl, wipe2 (by decide) (by decide), ?_⟩
          have fs : ((fn.ps.take (i + 1)).filter fun p => p.2) = ((fn.ps.take i).filter fun p => p.2) ++ (if pr.2 = true then [pr] else []) := by
            rw [take_snoc ht, List.filter_append]
            cases hb : pr.2 <;> simp [hb]
          refine ⟨V.bl pr.2, by kernel_rfl, _, rfl, ?_⟩
          cases hb : pr.2 with
          | false =>
            rw [hb] at fs
            refine iteE rfl ⟨s6, ?_⟩
            rw [eD3, fs]
            simp
          | true =>
            rw [hb] at fs
            refine iteS rfl ⟨V.str pr.1, by kernel_rfl, _, eD3, smallX ?_, fun c o z => ?_, ?_⟩
            · rw [List.length_map, List.length_map]
              have := List.length_filter_le (fun p : Str × Bool => p.2) (fn.ps.take i)
              rw [List.length_take] at this
              omega
            · rw [upd_ne (ne_of_none z hD3)]
              exact s6 _ _ z
            · rw [upd_same, fs, if_pos rfl, List.map_append, List.map_append]
              rfl
        · rintro H4 ⟨s6, eD3⟩
          rw [lp, List.take_length] at eD3
          refine ⟨D3, _, rfl, .inl (SqL.of eD3), ?_⟩
          refine ⟨_, s6 _ _ eD, smallX (by rw [List.length_map, List.length_map, List.length_take]; omega), fun c o z => ?_, ?_⟩
          · rw [upd_ne (ne_of_none z hD2)]
            exact s6 _ _ (s2 _ _ z)
          · have el : (plN fn).length = (fn.ps.filter fun p => p.2).length := by unfold plN; rw [List.length_map]
            rw [upd_same, take_snoc hfn, List.map_append, List.map_append, List.length_map, List.length_map, ← el]
            rfl
      · rintro H2 ⟨s2, ePl⟩
        rw [lz, List.take_length] at ePl
        have sB := s1.trans s2
        refine ⟨_, rfl, b1, _, rfl, .inr (SqT.same sB hb1), (by show 3 ≤ sizeLine; decide), fun t1 h1 => ?_⟩
        have q1 := same_new (o := .tup [.str "globals", .int ((ys1.length : Nat) : Int), .int 4]) h1
        have sC := sB.trans q1
        refine ⟨_, rfl, b2, _, rfl, .inr (SqT.same sC hb2), (by show 3 ≤ sizeLine; decide), fun t2 h2 => ?_⟩
        have q2 := same_new (o := .tup [.str "kinds", .int ((ys2.length : Nat) : Int), .int 3]) h2
        have sD := sC.trans q2
        refine ⟨_, rfl, b3, _, rfl, .inr (SqT.same sD hb3), (by show 3 ≤ sizeLine; decide), fun t3 h3 => ?_⟩
        have q3 := same_new (o := .tup [.str "keeps", .int ((ys3.length : Nat) : Int), .int 4]) h3
        have sE := sD.trans q3
        refine ⟨(by show 3 ≤ sizeLine; decide), fun q hqn => ?_⟩
        obtain ⟨HB, eHB⟩ : ∃ HB, HB = upd (upd (upd H2 t1 (.tup [.str "globals", .int ((ys1.length : Nat) : Int), .int 4])) t2 (.tup [.str "kinds", .int ((ys2.length : Nat) : Int), .int 3])) t3 (.tup [.str "keeps", .int ((ys3.length : Nat) : Int), .int 4]) := ⟨_, rfl⟩
        rw [← eHB] at hqn q3 sE ⊢
        have z1 : HB t1 = some (.tup [.str "globals", .int ((ys1.length : Nat) : Int), .int 4]) := q3 _ _ (q2 _ _ upd_same)
        have z2 : HB t2 = some (.tup [.str "kinds", .int ((ys2.length : Nat) : Int), .int 3]) := q3 _ _ upd_same
        have z3 : HB t3 = some (.tup [.str "keeps", .int ((ys3.length : Nat) : Int), .int 4]) := by rw [eHB, upd_same]
        have Z0 : Szs HB q 3 [("globals", ((ys1.length : Nat) : Int), 4), ("kinds", ((ys2.length : Nat) : Int), 3), ("keeps", ((ys3.length : Nat) : Int), 4)] (upd HB q (.lst [.ref t1, .ref t2, .ref t3])) := by
          have tq := Tps.of (same_new (o := .lst [.ref t1, .ref t2, .ref t3]) hqn)
          exact ⟨same_new hqn, _, upd_same, rfl, .cons ⟨t1, rfl, tq.1 _ _ z1⟩ (.cons ⟨t2, rfl, tq.1 _ _ z2⟩ (.cons ⟨t3, rfl, tq.1 _ _ z3⟩ .nil))⟩
        -- functions
        have own : Paired (OwnAt D t HB) us t.fns := Paired.mapP pu fun _ _ z => z.same (((s2.trans q1).trans q2).trans q3)
        have eO := (((s2.trans q1).trans q2).trans q3) _ _ eO
        have ePl := ((q1.trans q2).trans q3) _ _ ePl
        have sB := sE
        clear q1 q2 q3 sC sD sE z1 z2 z3 pu eHB
        generalize upd HB q (.lst [.ref t1, .ref t2, .ref t3]) = G1 at *
        obtain ⟨g1, us1, e1, n1, m1⟩ := id Z0
        refine ⟨_, rfl, .inl ⟨rfl, _, SqL.of e1⟩, _, rfl, c, _, rfl, .inr (SqT.same (sB.trans g1) hc), (by show 3 ≤ sizeLine; decide), fun t4 h4 => ?_⟩
        obtain ⟨us1, e1, n1, Z1⟩ := Z0.push (w := "functions") (i := ((zs.length : Nat) : Int)) (m := 6) hqn h4
        refine ⟨q, _, _, rfl, rfl, e1, smallX (by omega), ?_⟩
        clear m1 n1 g1 Z0 h4
        generalize upd (upd G1 t4 (.tup [.str "functions", .int ((zs.length : Nat) : Int), .int 6])) q (.lst (us1 ++ [.ref t4])) = G2 at *
        -- parameters
        obtain ⟨g1, us2, e1, n1, m1⟩ := id Z1
        refine ⟨_, rfl, .inl ⟨rfl, _, SqL.of e1⟩, _, rfl, D, rfl, ⟨_, SqL.of (g1 _ _ eO)⟩, fun M hM => ?_⟩
        refine lc_it (walk_list (K := K) (a := D) (xs := us)) (fun i H' => Same G2 H' ∧ H' M = some (.lst (((t.fns.take i).map fun f => ((prs f).length : Int)).map V.int))) ⟨same_new hM, upd_same⟩ (fun i H' _ h' => SqL.of (h'.1 _ _ (g1 _ _ eO))) ?_ ?_
        · rintro i z H4 H5 hi ⟨s6, eM⟩ ⟨rfl, hz⟩
          obtain ⟨fn, hfn, r, a', c', rfl, _, _, hr', ha', hc'⟩ := Paired.at own hz
          have s7 := g1.trans s6
          refine ⟨r, _, rfl, SqT.of (s7 _ _ hr'), rfl, _, _, rfl, _, _, rfl, rfl, wipe2 (by decide) (by decide), ?_⟩
          refine ⟨.ref a', by kernel_rfl, a', _, rfl, .inl (SqL.of (s7 _ _ ha')), ?_⟩
          refine ⟨_, eM, smallX (by rw [List.length_map, List.length_map, List.length_take]; omega), fun c o z => ?_, ?_⟩
          · rw [upd_ne (ne_of_none z hM)]
            exact s6 _ _ z
          · rw [upd_same, take_snoc hfn, List.map_append, List.map_append, List.length_map]
            rfl
        · rintro H4 ⟨s6, eM⟩
          rw [lu, lz, List.take_length] at eM
          refine ⟨M, _, 0, rfl, rfl, SqL.of eM, fun m hm => ?_⟩
          have gm1 := hm.anyB (b := 3) (by decide)
          have Z2 := Z1.grow s6
          refine ⟨(by show 3 ≤ sizeLine; decide), fun t5 h5 => ?_⟩
          obtain ⟨us3, e3, n3, Z3⟩ := Z2.push (w := "parameters") (i := m) (m := 3) hqn h5
          refine ⟨q, _, _, rfl, rfl, e3, smallX (by omega), ?_⟩
          clear n3 e3 Z2 e1 n1 m1 Z1
          generalize upd (upd H4 t5 (.tup [.str "parameters", .int m, .int 3])) q (.lst (us3 ++ [.ref t5])) = G3 at *
          clear g1 s6 eM hM h5
          -- places
          obtain ⟨g1, us4, e1, n1, _⟩ := id Z3
          refine ⟨_, rfl, .inl ⟨rfl, _, SqL.of e1⟩, _, rfl, D2, _, 0, rfl, rfl, SqL.of (g1 _ _ ePl), fun m2 hm2 => ?_⟩
          have gm2 := hm2.anyB (b := 2) (by decide)
          refine ⟨(by show 3 ≤ sizeLine; decide), fun t6 h6 => ?_⟩
          obtain ⟨us5, e5, n5, Z5⟩ := Z3.push (w := "parameters") (i := m2) (m := 2) hqn h6
          refine ⟨q, _, _, rfl, rfl, e5, smallX (by omega), ?_⟩
          generalize upd (upd G3 t6 (.tup [.str "parameters", .int m2, .int 2])) q (.lst (us5 ++ [.ref t6])) = G5 at *
          clear g1 h6 e1 e5 n5 n1 Z3 hm2
          -- locals
          obtain ⟨g1, us6, e1, n1, _⟩ := id Z5
          refine ⟨_, rfl, .inl ⟨rfl, _, SqL.of e1⟩, _, rfl, D, rfl, ⟨_, SqL.of (g1 _ _ eO)⟩, fun M2 hM2 => ?_⟩
          refine lc_it (walk_list (K := K) (a := D) (xs := us)) (fun i H' => Same G5 H' ∧ H' M2 = some (.lst (((t.fns.take i).map fun f => ((innerF t.names (prs f) f.b).length : Int)).map V.int))) ⟨same_new hM2, upd_same⟩ (fun i H' _ h' => SqL.of (h'.1 _ _ (g1 _ _ eO))) ?_ ?_
          · rintro i z H4 H5 hi ⟨s6, eM⟩ ⟨rfl, hz⟩
            obtain ⟨fn, hfn, r, a', c', rfl, _, _, hr', ha', hc'⟩ := Paired.at own hz
            have s7 := g1.trans s6
            refine ⟨r, _, rfl, SqT.of (s7 _ _ hr'), rfl, _, _, rfl, _, _, rfl, rfl, wipe2 (by decide) (by decide), ?_⟩
            refine ⟨.ref c', by kernel_rfl, c', _, rfl, .inl (SqL.of (s7 _ _ hc')), ?_⟩
            refine ⟨_, eM, smallX (by rw [List.length_map, List.length_map, List.length_take]; omega), fun c o z => ?_, ?_⟩
            · rw [upd_ne (ne_of_none z hM2)]
              exact s6 _ _ z
            · rw [upd_same, take_snoc hfn, List.map_append, List.map_append, List.length_map]
              rfl
          · rintro H5 ⟨s6, eM⟩
            rw [lu, lz, List.take_length] at eM
            refine ⟨M2, _, 0, rfl, rfl, SqL.of eM, fun m3 hm3 => ?_⟩
            have gm3 := hm3.anyB (b := 3) (by decide)
            have Z6 := Z5.grow s6
            refine ⟨(by show 3 ≤ sizeLine; decide), fun t7 h7 => ?_⟩
            obtain ⟨us7, e7, n7, Z7⟩ := Z6.push (w := "locals") (i := m3) (m := 3) hqn h7
            refine ⟨q, _, _, rfl, rfl, e7, smallX (by omega), ?_⟩
            generalize upd (upd H5 t7 (.tup [.str "locals", .int m3, .int 3])) q (.lst (us7 ++ [.ref t7])) = G7 at *
            clear g1 e1 n1 s6 eM hM2 Z6 Z5 e7 n7 h7 hm3
            -- statements
            obtain ⟨g1, us8, e1, n1, _⟩ := id Z7
            have sG := sB.trans g1
            refine ⟨_, rfl, .inl ⟨rfl, _, SqL.of e1⟩, _, rfl, c, rfl, ⟨_, SqT.same sG hc⟩, fun M3 hM3 => ?_⟩
            refine lc_tup (K := K) (a := c) (xs := zs) (fun i H' => Same G7 H' ∧ H' M3 = some (.lst (((t.fns.take i).map fun f => (szB f.b : Int)).map V.int))) ⟨same_new hM3, upd_same⟩ (fun i H' _ h' => SqT.same (sG.trans h'.1) hc) ?_ ?_
            · rintro i x H6 hx ⟨s6, eM⟩
              obtain ⟨fn, hfn, hfd⟩ := Paired.at pf hx
              have hi : i < zs.length := (List.getElem?_eq_some_iff.mp hx).1
              have mf := List.mem_of_getElem? hfn
              have okn := okf fn mf
              have hfd : Dp K H x (.tuple [.str fn.name, .tuple (fn.ps.map prD), blD fn.b]) := hfd
              obtain ⟨d, ds, rfl, hd5, hdd⟩ := hfd.tupInv
              obtain ⟨u1, u2, u3, rfl, _, _, g3⟩ := hdd.three
              have s7 := sG.trans s6
              refine ⟨d, _, rfl, SqT.same s7 hd5, rfl, _, _, rfl, _, _, rfl, _, _, rfl, rfl, wipe3 (by decide) (by decide) (by decide), ?_⟩
              refine ⟨u3, by kernel_rfl, u3, fn.b, rfl, g3.same s7, okn.2.2.2.1, okn.2.2.1, fun H7 s8 => ?_⟩
              refine ⟨_, s8 _ _ eM, smallX (by rw [List.length_map, List.length_map, List.length_take]; omega), fun c o z => ?_, ?_⟩
              · rw [upd_ne (ne_of_none z hM3)]
                exact s8 _ _ (s6 _ _ z)
              · rw [upd_same, take_snoc hfn, List.map_append, List.map_append]
                rfl
            · rintro H6 ⟨s6, eM⟩
              rw [lz, List.take_length] at eM
              refine ⟨M3, _, rfl, SqL.of eM, ?_⟩
              have es : (t.fns.map fun f => (szB f.b : Int)).sum = (((t.fns.map fun f => szB f.b).sum : Nat) : Int) := by
                generalize t.fns = l
                induction l with
                | nil => rfl
                | cons f r ih => rw [List.map_cons, List.sum_cons, ih, List.map_cons, List.sum_cons]; omega
              rw [es]
              have Z8 := Z7.grow s6
              refine ⟨(by show 3 ≤ sizeLine; decide), fun t8 h8 => ?_⟩
              obtain ⟨us9, e9, n9, Z9⟩ := Z8.push (w := "statements") (i := (((t.fns.map fun f => szB f.b).sum : Nat) : Int)) (m := 60) hqn h8
              refine ⟨q, _, _, rfl, rfl, e9, smallX (by omega), ?_⟩
              generalize upd (upd H6 t8 (.tup [.str "statements", .int (((t.fns.map fun f => szB f.b).sum : Nat) : Int), .int 60])) q (.lst (us9 ++ [.ref t8])) = G9 at *
              clear g1 e1 n1 s6 eM hM3 Z8 Z7 e9 n9 h8 es sG
              -- nesting
              obtain ⟨g1, us8, e1, n1, _⟩ := id Z9
              have sG := sB.trans g1
              refine ⟨_, rfl, .inl ⟨rfl, _, SqL.of e1⟩, _, rfl, c, rfl, ⟨_, SqT.same sG hc⟩, fun M4 hM4 => ?_⟩
              refine lc_tup (K := K) (a := c) (xs := zs) (fun i H' => Same G9 H' ∧ H' M4 = some (.lst (((t.fns.take i).map fun f => (dpB f.b : Int)).map V.int))) ⟨same_new hM4, upd_same⟩ (fun i H' _ h' => SqT.same (sG.trans h'.1) hc) ?_ ?_
              · rintro i x H6 hx ⟨s6, eM⟩
                obtain ⟨fn, hfn, hfd⟩ := Paired.at pf hx
                have hi : i < zs.length := (List.getElem?_eq_some_iff.mp hx).1
                have mf := List.mem_of_getElem? hfn
                have okn := okf fn mf
                have hfd : Dp K H x (.tuple [.str fn.name, .tuple (fn.ps.map prD), blD fn.b]) := hfd
                obtain ⟨d, ds, rfl, hd5, hdd⟩ := hfd.tupInv
                obtain ⟨u1, u2, u3, rfl, _, _, g3⟩ := hdd.three
                have s7 := sG.trans s6
                refine ⟨d, _, rfl, SqT.same s7 hd5, rfl, _, _, rfl, _, _, rfl, _, _, rfl, rfl, wipe3 (by decide) (by decide) (by decide), ?_⟩
                refine ⟨u3, by kernel_rfl, u3, fn.b, rfl, g3.same s7, okn.2.2.2.1, okn.2.2.1, sm.nd fn mf, fun H7 s8 => ?_⟩
                refine ⟨_, s8 _ _ eM, smallX (by rw [List.length_map, List.length_map, List.length_take]; omega), fun c o z => ?_, ?_⟩
                · rw [upd_ne (ne_of_none z hM4)]
                  exact s8 _ _ (s6 _ _ z)
                · rw [upd_same, take_snoc hfn, List.map_append, List.map_append]
                  rfl
              · rintro H7 ⟨s6, eM⟩
                rw [lz, List.take_length] at eM
                refine ⟨M4, _, 0, rfl, rfl, SqL.of eM, fun m5 hm5 => ?_⟩
                have gm5 := hm5.anyB (b := 6) (by decide)
                have Z10 := Z9.grow s6
                refine ⟨(by show 3 ≤ sizeLine; decide), fun t9 h9 => ?_⟩
                obtain ⟨us10, e10, n10, Z11⟩ := Z10.push (w := "nesting") (i := m5) (m := 6) hqn h9
                refine ⟨q, _, _, rfl, rfl, e10, smallX (by omega), ?_⟩
                generalize upd (upd H7 t9 (.tup [.str "nesting", .int m5, .int 6])) q (.lst (us10 ++ [.ref t9])) = G11 at *
                clear g1 e1 n1 s6 eM hM4 Z10 Z9 e10 n10 h9 hm5 sG
                -- numbers
                obtain ⟨g1, us8, e1, n1, _⟩ := id Z11
                have sG := sB.trans g1
                refine ⟨_, rfl, .inl ⟨rfl, _, SqL.of e1⟩, _, rfl, _, t, rfl, hv0.same sG, ⟨okn, okk, oke, lf, okf⟩, fun f hf => sm.sz1 hf, sm.num.1, sm.num.2, fun H8 s8 => ?_⟩
                refine .inr ⟨false, rfl, (by show 3 ≤ sizeLine; decide), fun t10 h10 => ?_⟩
                obtain ⟨us11, e11, n11, Z12⟩ := (Z11.grow s8).push (w := "numbers") (i := if false = true then 1 else 0) (m := 0) hqn h10
                refine ⟨q, _, _, rfl, rfl, e11, smallX (by omega), ?_⟩
                generalize upd (upd H8 t10 (.tup [.str "numbers", .int (if false = true then 1 else 0), .int 0])) q (.lst (us11 ++ [.ref t10])) = G13 at *
                obtain ⟨g2, us12, e2, n2, m2'⟩ := Z12
                refine ⟨_, rfl, q, rfl, ⟨_, SqL.of e2⟩, ?_⟩
                obtain ⟨l, hl⟩ : ∃ l : List (Str × Int × Int), l = ((((((([e3 "globals" ((ys1.length : Nat) : Int) 4, e3 "kinds" ((ys2.length : Nat) : Int) 3, e3 "keeps" ((ys3.length : Nat) : Int) 4] ++ [e3 "functions" ((zs.length : Nat) : Int) 6]) ++ [e3 "parameters" m 3]) ++ [e3 "parameters" m2 2]) ++ [e3 "locals" m3 3]) ++ [e3 "statements" (((t.fns.map fun f => szB f.b).sum : Nat) : Int) 60]) ++ [e3 "nesting" m5 6]) ++ [e3 "numbers" (if false = true then 1 else 0) 0]) := ⟨_, rfl⟩
                have el : l.map bigE = szL t := by
                  rw [hl, l1, l2, l3, lz]
                  simp only [List.map_append, List.map_cons, List.map_nil, bigE, gm1, gm2, gm3, gm5, szL]
                  rfl
                rw [← hl] at m2'
                have lus : us12.length = l.length := Paired.length m2'
                refine for_list (K := K) (a := q) (xs := us12) (fun i σ H' => H' = G13 ∧ (∃ x14 x15 x16 : Option V, σ = [some (.ref a), some (.ref b1), some (.ref b2), some (.ref b3), some (.ref c), some (.ref D), none, some (.ref D2), none, none, none, none, some (.ref q), none, x14, x15, x16]) ∧ ∀ e ∈ l.take i, (bigE e).2 = false) ⟨rfl, ⟨_, _, _, rfl⟩, fun _ z => by cases z⟩ (fun i σ H' _ h' => by rw [h'.1]; exact SqL.of e2) ?_ ?_
                · rintro i x σ H1 hx ⟨rfl, ⟨x14, x15, x16, rfl⟩, al⟩
                  obtain ⟨⟨wx, ix, mx⟩, hlx, ax, rfl, hax⟩ := Paired.at m2' hx
                  refine ⟨ax, _, rfl, SqT.of hax, rfl, _, _, rfl, _, _, rfl, _, _, rfl, rfl, ?_⟩
                  refine ⟨_, rfl, _, rfl, _, _, rfl, rfl, _, rfl, ite2 (fun hc => ?_) (fun hc => ?_)⟩
                  · have hf : bigW t = some wx := by
                      unfold bigW
                      rw [← el, big_find hlx al (by show decide (mx < ix) = true; exact decide_eq_true (of_decide_eq_true hc))]
                      rfl
                    rw [hf] at k
                    exact ⟨_, rfl, _, rfl, fun d hdn => k d _ (sB.trans g2) hdn⟩
                  · refine ⟨rfl, ⟨_, _, _, rfl⟩, fun e he => ?_⟩
                    rw [take_snoc hlx] at he
                    rcases List.mem_append.mp he with z | z
                    · exact al e z
                    · rw [List.mem_singleton.mp z]
                      exact decide_eq_false fun z => hc (decide_eq_true z)
                · rintro σ H1 ⟨rfl, _, al⟩
                  rw [lus, List.take_length] at al
                  have hf : bigW t = none := by
                    unfold bigW
                    rw [← el, List.find?_eq_none.mpr]
                    · rfl
                    · intro e he
                      obtain ⟨x, hx, rfl⟩ := List.mem_map.mp he
                      rw [al x hx]
                      exact Bool.false_ne_true
                  rw [hf] at k
                  exact k _ (sB.trans g2)
end

/-! ### _law_names -/
abbrev sNames : Stmt := topS 67
abbrev NNames : List Str := ["_law_pool_here", "_law_letter", "_law_shift", "_law_k"]
abbrev PNames : List Str := ["_law_pool_here"]
theorem scNames : FnScope NNames PNames (defScope sNames) := ⟨rfl, rfl, rfl, by decide +kernel, rfl, by decide +kernel, by decide +kernel⟩
def nm (c : Nat) (i : Int) : Str := (⟨#[c]⟩ : Str) ++ ((toString i : String) : Str)
/-- a list of names as _law_names gives it -/
structure NamesOk (ns : List Str) : Prop where
  nd : ns.Nodup
  name : ∀ n ∈ ns, isName n = true
  len : ∀ n ∈ ns, n.length ≤ 10
  two : ∀ n ∈ ns, 2 ≤ n.length
theorem dig_facts : ∀ k : Fin 16, ((toString ((k.val : Nat) : Int) : String) : Str).cps.toList ≠ [] ∧ (∀ c ∈ ((toString ((k.val : Nat) : Int) : String) : Str).cps.toList, c ∈ DIG.cps.toList) ∧ ((toString ((k.val : Nat) : Int) : String) : Str).cps.toList.length ≤ 2 := by decide +kernel
theorem dig_inj : ∀ k j : Fin 16, ((toString ((k.val : Nat) : Int) : String) : Str) = ((toString ((j.val : Nat) : Int) : String) : Str) → k = j := by decide +kernel
theorem mod_inj : ∀ s k j : Fin 16, (7 * k.val + s.val) % 16 = (7 * j.val + s.val) % 16 → k = j := by decide +kernel
theorem kws_let : ∀ k ∈ KWS, ∀ c ∈ k.cps.toList, c ∈ LET.cps.toList := by decide +kernel
theorem let_dig : ∀ c ∈ DIG.cps.toList, c ∉ LET.cps.toList := by decide +kernel
theorem nm_list (c : Nat) (i : Int) : (nm c i).cps.toList = c :: ((toString i : String) : Str).cps.toList := by
  show (#[c] ++ ((toString i : String) : Str).cps).toList = _
  simp
theorem nm_name {c : Nat} (hc : c ∈ LET.cps.toList) {i : Int} (h0 : 0 ≤ i) (h1 : i < 16) : isName (nm c i) = true ∧ (nm c i).length ≤ 10 := by
  have e : i = (((⟨i.toNat, by omega⟩ : _root_.Fin 16).val : Nat) : Int) := by
    show i = ((i.toNat : Nat) : Int)
    omega
  obtain ⟨d1, d2, d3⟩ := dig_facts ⟨i.toNat, by omega⟩
  rw [← e] at d1 d2 d3
  have hl := nm_list c i
  have h0 : (nm c i).cps.toList[0]? = some c := by rw [hl]; rfl
  constructor
  · rw [isName_at h0, hl]
    simp only [Bool.and_eq_true, decide_eq_true_eq, Bool.not_eq_true']
    refine ⟨⟨hc, ?_⟩, ?_⟩
    · rw [List.all_eq_true]
      intro x hx
      unfold al
      simp only [Bool.or_eq_true, decide_eq_true_eq]
      rcases List.mem_cons.mp hx with q | q
      · rw [q]; exact .inl hc
      · exact .inr (d2 x q)
    · cases q : inV (.str (nm c i)) (KWS.map V.str) with
      | false => rfl
      | true =>
        unfold inV at q
        obtain ⟨v, hv, q⟩ := List.any_eq_true.mp q
        obtain ⟨k, hk, rfl⟩ := List.mem_map.mp hv
        have q : k = nm c i := by
          have q : (k == nm c i) = true := q
          simpa using q
        obtain ⟨x, hx⟩ := List.exists_mem_of_ne_nil _ d1
        exact absurd (kws_let k hk x (by rw [q, hl]; exact List.mem_cons_of_mem _ hx)) (let_dig x (d2 x hx))
  · show (nm c i).cps.size ≤ 10
    rw [← Array.length_toList, hl, List.length_cons]
    omega
theorem nm_inj {c : Nat} {i j : Int} (i0 : 0 ≤ i) (i1 : i < 16) (j0 : 0 ≤ j) (j1 : j < 16) (h : nm c i = nm c j) : i = j := by
  have q : ((toString i : String) : Str).cps.toList = ((toString j : String) : Str).cps.toList := by
    have z := congrArg (fun z : Str => z.cps.toList) h
    simp only [nm_list] at z
    exact (List.cons.inj z).2
  have e : ((toString i : String) : Str) = ((toString j : String) : Str) := by
    have z := congrArg List.toArray q
    simp only [Array.toArray_toList] at z
    cases hx : ((toString i : String) : Str) with
    | mk a =>
      cases hy : ((toString j : String) : Str) with
      | mk b =>
        rw [hx, hy] at z
        rw [show a = b from z]
  have ei : i = (((⟨i.toNat, by omega⟩ : _root_.Fin 16).val : Nat) : Int) := by
    show i = ((i.toNat : Nat) : Int)
    omega
  have ej : j = (((⟨j.toNat, by omega⟩ : _root_.Fin 16).val : Nat) : Int) := by
    show j = ((j.toNat : Nat) : Int)
    omega
  rw [ei, ej] at e
  have f := congrArg Fin.val (dig_inj _ _ e)
  have f : i.toNat = j.toNat := f
  omega
def nms (c : Nat) (s : Int) (n : Nat) : List Str := (List.range n).map fun k => nm c ((7 * (k : Nat) + s) % 16)
theorem nms_ok {c : Nat} (hc : c ∈ LET.cps.toList) {s : Int} (s0 : 0 ≤ s) (s1 : s < 16) {n : Nat} (hn : n ≤ 16) : NamesOk (nms c s n) := by
  have b : ∀ k : Nat, 0 ≤ (7 * (k : Int) + s) % 16 ∧ (7 * (k : Int) + s) % 16 < 16 := fun k => ⟨Int.emod_nonneg _ (by decide), Int.emod_lt_of_pos _ (by decide)⟩
  refine ⟨?_, fun x hx => ?_, fun x hx => ?_, fun x hx => ?_⟩
  · unfold nms
    rw [List.nodup_iff_pairwise_ne, List.pairwise_map]
    refine List.Pairwise.imp_of_mem (fun {i j} hi hj hne z => hne ?_) List.nodup_range
    have hi := List.mem_range.mp hi
    have hj := List.mem_range.mp hj
    have q := nm_inj (b i).1 (b i).2 (b j).1 (b j).2 z
    have m := mod_inj ⟨s.toNat, by omega⟩ ⟨i, by omega⟩ ⟨j, by omega⟩ (by show (7 * i + s.toNat) % 16 = (7 * j + s.toNat) % 16; omega)
    exact congrArg Fin.val m
  · obtain ⟨k, _, rfl⟩ := List.mem_map.mp hx
    exact (nm_name hc (b k).1 (b k).2).1
  · obtain ⟨k, _, rfl⟩ := List.mem_map.mp hx
    exact (nm_name hc (b k).1 (b k).2).2
  · obtain ⟨k, _, rfl⟩ := List.mem_map.mp hx
    have e : (7 * (k : Int) + s) % 16 = (((⟨((7 * (k : Int) + s) % 16).toNat, by have := b k; omega⟩ : _root_.Fin 16).val : Nat) : Int) := by
      show _ = ((((7 * (k : Int) + s) % 16).toNat : Nat) : Int)
      have := b k
      omega
    obtain ⟨d1, _, _⟩ := dig_facts ⟨((7 * (k : Int) + s) % 16).toNat, by have := b k; omega⟩
    rw [← e] at d1
    show 2 ≤ (nm c ((7 * (k : Int) + s) % 16)).cps.size
    rw [← Array.length_toList, nm_list, List.length_cons]
    have := List.length_pos_iff.mpr d1
    omega
def spNames : Sp := fun vs H Q _ => ∃ (p c : Addr) (lim : V) (n : Nat), vs = [.ref p] ∧ PoolAt H p c lim n ∧ n < 100000000000 ∧
  ∀ (q : Addr) (ns : List Str) (H' : Hp), NamesOk ns → ns.length = 16 → PoolAt H' p c lim (n + 2) → But p c H H' → H q = none → H' q = some (.lst (ns.map V.str)) → Q (.ref q) H'
structure TxNames (mg : Str → Option Value) : Prop where
  n_str : mg "str" = none
  n_range : mg "range" = none
section
variable {P : Program} {w : World} {K : PySem.W.Frag} {mg : Str → Option Value} {base : Heap}
theorem log2_small {i : Int} (h0 : 0 ≤ i) (h1 : i < 16) : i.natAbs.log2 < 1920 := by
  have : i.natAbs.log2 ≤ i.natAbs := Nat.log2_le_self _
  omega
theorem ok_Names {f : Addr} {fd : FuncData} (F : Fun K "_law_names" "_law_names" sNames f fd) (T : TxNames mg) (GD : Has P w K mg base CX0 2 "_law_draw" PDraw spDraw) : FnOk P w K mg base CX0 3 f fd PNames spNames := by
  refine F.ok scNames (fun vs H Q E h => ?_) (fun cdv A outer s H vs Q E hr h => ?_)
  · obtain ⟨p, c, lim, n, rfl, _⟩ := h
    rfl
  · obtain ⟨p, c, lim, n, rfl, P0, hn, k⟩ := h
    refine ⟨_, (pss_cons (ps_set (i := 1) scNames.nd rfl (Or.inr rfl) (pe_ix ix_str pe_str (pe_callH GD hr rfl pass0 (pa_cons (pv 0) (pa_cons pe_int pa_nil))) (fun _ _ => rfl)))
  (pss_cons (ps_set (i := 2) scNames.nd rfl (Or.inr rfl) (pe_callH GD hr rfl pass0 (pa_cons (pv 0) (pa_cons pe_int pa_nil))))
  (pss_one (ps_ret (pe_lc (own := [("_law_k", 3)]) (g := gName 3) (tt := tYes) rfl scNames.nd (pi_range1 (by rfl) T.n_range (pa_cons pe_int pa_nil)) (blkOk_by (own := [("_law_k", 3)]) (N := NNames) (sc := (defScope sNames)) (by decide +kernel)) (fun _ _ _ _ _ => (pg_name (i := 3) scNames.nd rfl (Or.inl rfl))) (fun _ _ _ _ _ => pts_nil) (fun _ _ _ _ _ => (pe_op op_add_str (pv 1) (pe_callTy call_str_int (by rfl) T.n_str bb_str (pa_cons (pe_op op_mod (pe_op op_add (pe_op op_mul pe_int (pv 3)) (pv 2)) pe_int) pa_nil))))))))), ?_⟩
    refine ⟨_, rfl, p, c, lim, n, 26, rfl, P0, by omega, by decide, by decide, fun r H1 r0 r1 P1 b1 => ?_⟩
    obtain ⟨lc, hlc, mlc⟩ := atI_in (xs := LET.cps.toList) r0 (by rw [show LET.cps.toList.length = 26 by decide +kernel]; exact r1)
    refine ⟨_, _, lc, rfl, rfl, by decide +kernel, hlc, ?_⟩
    refine ⟨_, rfl, p, c, lim, n + 1, 16, rfl, P1, by omega, by decide, by decide, fun sh H2 s0 s1 P2 b2 => ?_⟩
    refine ⟨16, rfl, by decide, by decide, fun D hD => ?_⟩
    have Dp := P2.ne1 hD
    have Dc := P2.ne2 hD
    refine lc_range (lo := 0) (n := 16) (fun i H' => Same H2 H' ∧ H' D = some (.lst ((nms lc sh i).map V.str))) ⟨same_new hD, upd_same⟩ ?_ ?_
    · rintro i H3 hi ⟨s3, e3⟩
      have b : 0 ≤ (7 * (0 + (i : Int)) + sh) % 16 ∧ (7 * (0 + (i : Int)) + sh) % 16 < 16 := ⟨Int.emod_nonneg _ (by decide), Int.emod_lt_of_pos _ (by decide)⟩
      refine ⟨rfl, _, rfl, _, rfl, _, _, rfl, rfl, .inl ⟨by decide, by decide⟩, _, rfl, _, _, rfl, rfl, _, _, rfl, rfl, (show (0 : Int) < 16 by decide), _, rfl, log2_small b.1 b.2, _, _, rfl, rfl, ?_, _, e3, small1000 ?_, fun b o z => ?_, ?_⟩
      · have q := (nm_name mlc b.1 b.2).2
        unfold nm at q
        rw [str_app_len] at q
        exact Nat.le_trans q (by decide)
      · unfold nms
        rw [List.length_map, List.length_map, List.length_range]
        omega
      · rw [upd_ne (ne_of_none z hD)]
        exact s3 b o z
      · rw [upd_same]
        unfold nms
        rw [List.range_succ, List.map_append, List.map_append]
        show some (HO.lst (_ ++ [V.str (nm lc ((7 * (0 + (i : Int)) + sh) % 16))])) = _
        rw [Int.zero_add]
        rfl
    · rintro H3 ⟨s3, e3⟩
      have hD0 : H D = none := by
        cases q : H D with
        | none => rfl
        | some o => rw [b2 D o (b1 D o q Dp Dc) Dp Dc] at hD; cases hD
      refine k D _ H3 (nms_ok mlc s0 s1 (Nat.le_refl 16)) (by unfold nms; rw [List.length_map, List.length_range]) (P2.same s3) (fun b o z h1 h2 => s3 b o (b2 b o (b1 b o z h1 h2) h1 h2)) hD0 e3
end

/-! ### e.f in a suite that takes several classes -/
def tXfG (K : PySem.W.Frag) (a : Addr) (cls : Value) (d : Option Addr) (f : Str) (te : TE) : TE := fun σ H Q => te σ H fun x H1 => x = .ref a ∧ ∃ (C dd : Addr) (fs : List (Str × V)) (v : V), cls = .ref C ∧ XfC K C ∧ PySem.W.findIn K (.ref C) f = some none ∧ d = some dd ∧ H1 dd = some (.xd fs) ∧ fs.lookup f = some v ∧ Q v H1
theorem pe_xfG {X : Cx} {a : Addr} {oe : Obj} {cls : Value} {d : Option Addr} {pn : List (Addr × Obj)} {e : Expr} {te : TE} {pos : Pos} {n : Str} (hz : L2N.Zn cls d oe) (hf : ∃ vs, oe.data = .fields vs) (he : PE (X.suite a ((a, oe) :: pn)) e te)
    (hb : attributeBase e n X.env (eval e X.env) = eval e X.env := by rfl) : PE (X.suite a ((a, oe) :: pn)) (.Attribute e n pos) (tXfG X.K a cls d n te) := by
  refine ⟨fun pins s σ H Q I h => attr_of hb (thn (he.run pins s σ H _ I h) fun u s1 ⟨x, H1, I1, rx, ex, C, dd, fs, v, ec, T, hno, ed, ea, l, q⟩ => ?_)⟩
  subst ex ec ed
  obtain rfl : u = Value.ref a := rx
  obtain ⟨vs, hd⟩ := hf
  obtain ⟨mA, hns, hr⟩ := (show ObjOk X.prog X.w H1 s1.heap dd (.xd fs) from I1.hok dd _ ea)
  obtain ⟨od, ho, hl⟩ := lookIn_ns hns
  obtain ⟨u, hu, ru⟩ := RelO.some_of (v := v) (o := mA n) (by rw [← l]; exact hr n)
  exact HandSPX.exc_get I1.kIn ⟨(I1.pin (a, oe) (List.mem_append_left _ List.mem_cons_self)).1, hz.1, by unfold PySem.W.notCls; rw [hd] <;> rfl, by rw [hz.2.1]; exact ho⟩ T.ga T.gg T.exC (PySem.W.findObj_own T.hdC hno rfl (by rw [hl, hu])) (handed_of ru) ⟨v, H1, I1.tok _, ru, q⟩
theorem HasX.mg {P : Program} {w : World} {K : PySem.W.Frag} {mg : Str → Option Value} {base : Heap} {k : Nat} {x : Str} {C : Addr} {f : Str} (h : HasX P w K mg base k x C f) : mg x = some (.ref C) := by
  obtain ⟨_, _, _, _, _, _, _, m, _⟩ := h.ex
  exact m

theorem exm_one {K : PySem.W.Frag} {cls c : Value} {b : Bool} (h : PySem.W.exmOne K cls c = some b) : PySem.W.exmAny K cls [c] = some b := by
  unfold PySem.W.exmAny
  rw [h]
  cases b <;> rfl

/-! ### isinstance of, and calls with, the error of a suite that takes several classes -/
theorem bb_ValueError : bootBuiltins "ValueError" = some (.type "ValueError") := by decide +kernel
/-- isinstance(e, c) in a suite that takes several classes -/
def rIsXG (K : PySem.W.Frag) (cls : Value) (d : Option Addr) (a : Addr) : List V → Hp → VK → Prop := fun xs H Q => ∃ D dd : Addr, cls = .ref D ∧ d = some dd ∧ ExcC K D ∧ rIsX K D a dd xs H Q
theorem call_isXG {X : Cx} {a : Addr} {cls : Value} {d : Option Addr} {oe : Obj} (hz : L2N.Zn cls d oe) (hf : ∃ vs, oe.data = .fields vs) (hp : (a, oe) ∈ X.pn) : CallR X (.builtin "isinstance") (rIsXG X.K cls d a) := by
  intro pins s σ H xs us Q I r h
  obtain ⟨D, dd, rfl, rfl, C, h⟩ := h
  exact call_isX C hz hf hp pins s σ H xs us Q I r h
/-- a def under its name, to be called where an error is handled -/
structure HasP (P : Program) (w : World) (K : PySem.W.Frag) (mg : Str → Option Value) (base : Heap) (k : Nat) (x : Str) (ps : List Str) (sp : Addr × Obj → Sp) : Prop where
  ex : ∃ (f : Addr) (fd : FuncData), FnP P w K mg base k f fd ps sp ∧ mg x = some (.ref f) ∧ PySem.W.keepIn K (.ref f) = true ∧ Binds K fd ps []
/-- f(e, ..), e the error of the suite -/
def tCallPG (sp : Addr × Obj → Sp) (a : Addr) (cls : Value) (d : Option Addr) (t : TA) : TE := fun σ H Q => t σ H fun vs H1 => ∀ oe, L2N.Zn cls d oe → (∃ vs, oe.data = .fields vs) → sp (a, oe) vs H1 Q (fun _ _ _ => False)
open L2H PyProof.Rows in
theorem pe_callPG {X : Cx} {k : Nat} {ps : List Str} {sp : Addr × Obj → Sp} {x : Str} {q pos : Pos} {e : Expr} {es : List Expr} {t : TA} {a : Addr} {oe : Obj} {cls : Value} {d : Option Addr} (F : HasP X.prog X.w X.K X.mg X.base k x ps sp) (hr : RoomH k X.A) (hot : Hot1 X.A (a, oe)) (hz : L2N.Zn cls d oe) (hf : ∃ vs, oe.data = .fields vs) (hp : (a, oe) ∈ X.pn) (hg : Gl X x) (ha : PA X (e :: es) t)
    (hdb : (x == ("__debug__" : Str)) = false := by decide) (he : starEach (e :: es) X.env = (false, eval e X.env) :: starEach es X.env := by rfl) (hpl : (backTo pos (starEach es X.env)).any (·.1) = false := by rfl) : PE X (.Call (.Name x q) (e :: es) [] pos) (tCallPG sp a cls d t) := by
  obtain ⟨f, fd, F, hm, hk, hb⟩ := F.ex
  refine ⟨fun pins s σ H Q I h => wpAny_Call_Name_kw (ld_glob I hg hm (PySem.W.callWith_K (h₀ := X.base) I.ok.mod.kin hk (thn (ha.run pos pins s σ H _ I h) fun us s1 ⟨vs, H1, I1, r, q⟩ => ⟨I1.kIn, ?_⟩) he hpl) hdb)⟩
  have q := q oe hz hf
  have b := hb s1 us I1.kIn (by rw [List.append_nil, ← r.length]; exact F.len _ _ _ _ _ q)
  rw [List.append_nil] at b
  have P1 := I1.pin (a, oe) (List.mem_append_left _ hp)
  show wpAny _ _ (call (.ref f) us) _ _ _
  refine wpAny_call (codeAny_mono (F.run X.A X.stack s1 H1 us vs Q (fun _ _ _ => False) (a, oe) hr hot ⟨P1.1, P1.2.1, fun hm => (List.mem_cons.mp (I1.stkSub a hm)).elim P1.2.2.1 P1.2.2.2.1, P1.2.2.2.2⟩ I1.env0 b r q) fun r s' hq => ?_)
  cases r with
  | error e => exact hq.elim
  | ok fl =>
    cases fl with
    | ret u => exact I1.after hq
    | next => exact hq.elim
    | brk => exact hq.elim
    | cont => exact hq.elim

/-! ### the law -/
def rSlU (K : PySem.W.Frag) : V → Option Int → Option Int → Hp → VK → Prop := fun x lo hi H Q => ∃ a xs, x = .ref a ∧ SqT K H a xs ∧ ∀ p H', Same H H' → SqT K H' p (cutV xs lo hi) → Q (.ref p) H'
theorem sl_tupU {X : Cx} : SlR X (rSlU X.K) := by
  intro pins s σ H x v vl vu lo hi sl Q I rx hs pl pu h
  obtain ⟨a, xs, rfl, hx, k⟩ := h
  refine sl_tupA pins s σ H _ v vl vu lo hi sl Q I rx hs pl pu ⟨a, xs, rfl, hx, fun hw => k a H (Same.refl _) ?_, fun _ p hp => k p _ (same_new hp) (SqT.of upd_same)⟩
  have e : cutV xs lo hi = xs := by
    unfold cutV
    rw [hw.1, hw.2, List.drop_zero, Nat.sub_zero, List.take_length]
  rw [e]
  exact hx
def rCatV (K : PySem.W.Frag) : R2 := fun x y H Q => ∃ a b xs ys, x = .ref a ∧ y = .ref b ∧ SqT K H a xs ∧ SqT K H b ys ∧ xs.length + ys.length ≤ sizeLine ∧ ∀ p H', Same H H' → SqT K H' p (xs ++ ys) → Q (.ref p) H'
theorem op_catV {X : Cx} : OpR X (binaryOp .Add) (rCatV X.K) := fun pins s σ H x y v u Q I rx ry ⟨a, b, xs, ys, e1, e2, q1, q2, sz, k⟩ =>
  op_catA pins s σ H x y v u Q I rx ry ⟨a, b, xs, ys, e1, e2, q1, q2, sz, fun e => k b H (Same.refl _) (by rw [e]; exact q2), fun _ e => k a H (Same.refl _) (by rw [e, List.append_nil]; exact q1), fun _ _ p hp => k p _ (same_new hp) (SqT.of upd_same)⟩

/-! ### the errors of names: check_unlike with both answers -/
inductive Er where
  | dup (x : Str) | unk (x : Str) | arg (p : Nat) | fin (p : Nat)
def erI : Er → Nat
  | .dup _ => 3 | .unk _ => 4 | .arg _ => 5 | .fin _ => 6
def erF : Er → List (Str × V)
  | .dup x => [("name", .str x)] | .unk x => [("name", .str x)] | .arg p => [("place", .int (p : Int))] | .fin p => [("place", .int (p : Int))]
/-- an error leaves, or all goes on -/
def ResE (C' : Nat → Addr) (H : Hp) (Q : Hp → Prop) (E : XK) : Option Er → Prop
  | none => ∀ H', Same H H' → Q H'
  | some e => ∀ d H', Same H H' → H' d = none → E (.ref (C' (erI e))) (some d) (upd H' d (.xd (erF e)))
/-- the first name that stands there for the second time -/
def dupF : List Str → List Str → Option Str
  | _, [] => none
  | seen, x :: r => if x ∈ seen then some x else dupF (seen ++ [x]) r
def dupO (l : List Str) : Option Str := dupF [] l
theorem dupF_none : ∀ {r seen : List Str}, dupF seen r = none → seen.Nodup → (seen ++ r).Nodup
  | [], seen, _, h => by rw [List.append_nil]; exact h
  | x :: r, seen, h, nd => by
    unfold dupF at h
    split at h
    · cases h
    · rename_i hx
      have := dupF_none h (by
        rw [List.nodup_append]
        exact ⟨nd, by simp, fun a ha b hb => by rw [List.mem_singleton.mp hb]; intro z; exact hx (z ▸ ha)⟩)
      rw [List.append_assoc] at this
      exact this
theorem dupO_none {l : List Str} (h : dupO l = none) : l.Nodup := by
  have := dupF_none h List.nodup_nil
  rwa [List.nil_append] at this
abbrev sUnX : Stmt := topS 55
abbrev NUnX : List Str := ["names", "at", "one"]
abbrev PUnX : List Str := ["names"]
theorem scUnX : FnScope NUnX PUnX (defScope sUnX) := ⟨rfl, rfl, rfl, by decide +kernel, rfl, by decide +kernel, by decide +kernel⟩
def spUnX (K : PySem.W.Frag) (C' : Nat → Addr) : Sp := fun vs H Q E => ∃ (q : Addr) (l : List Str), vs = [.ref q] ∧ SqL K H q (l.map V.str) ∧ ResE C' H (fun H' => Q .non H') E ((dupO l).map Er.dup)
section
variable {P : Program} {w : World} {K : PySem.W.Frag} {mg : Str → Option Value} {base : Heap} {C' : Nat → Addr}
theorem ok_UnX {f : Addr} {fd : FuncData} (F : Fun K "check_unlike" "check_unlike" sUnX f fd) (T : TxChk mg) (X : ErrH P w K mg base C') : FnOk P w K mg base (L2N.CX P w) 3 f fd PUnX (spUnX K C') := by
  refine Fun.okN F scUnX (fun vs H Q E h => ?_) (fun cdv A outer sh H vs Q E hr h => ?_)
  · obtain ⟨q, l, rfl, _⟩ := h
    rfl
  · obtain ⟨q, l, rfl, hq, h⟩ := h
    have tk := L2N.takes_of (X := cxOf (L2N.CX P w) P w K mg base NUnX "check_unlike" (defScope sUnX) f cdv A outer sh H E) (E := E) rfl rfl rfl rfl
    refine ⟨_, (pss_one (ps_for (passes_of rfl) rfl (pi_enum (by rfl) T.n_enumerate (pa_cons (pv 0) pa_nil)) (pg_tup (by rfl) (pgs_cons (pg_name (i := 1) scUnX.nd rfl (Or.inl rfl)) (pgs_cons (pg_name (i := 2) scUnX.nd rfl (Or.inl rfl)) pgs_nil)))
  (pss_one (ps_if (pt_cmpR op_in_seq (pv 2) (pe_slice sl_list (pv 0) po_none (po_some (pv 1))) (by rfl))
  (pss_one (ps_raiseX rfl tk X.h3 (hr.mono (by decide)) rfl (pa_cons (pv 2) pa_nil)))
  pss_nil)))), ?_⟩
    refine ⟨_, rfl, q, _, rfl, hq, ?_⟩
    refine for_it (walk_enum (K := K) (a := q) (xs := l.map V.str)) (fun j σ H' => dupO l = dupF (l.take j) (l.drop j) ∧ ∃ x1 x2 : Option V, σ = [some (.ref q), x1, x2] ∧ Same H H') ⟨rfl, _, _, rfl, Same.refl _⟩ (fun j σ H' _ h' => by obtain ⟨_, _, _, _, s'⟩ := h'; exact s'.seq hq) ?_ ?_
    · rintro j x σ H1 H2 hj ⟨hd, x1, x2, rfl, s1⟩ ⟨T, x, y, rfl, hT, rfl, gx, gy⟩
      have hj : j < l.length := by rwa [List.length_map] at hj
      obtain ⟨nm, hnm⟩ : ∃ nm, l[j]? = some nm := ⟨_, List.getElem?_eq_getElem hj⟩
      simp only at gx gy
      rw [List.getElem?_map, hnm] at gy
      simp only [Option.map_some, Option.some.injEq] at gx gy
      subst gx gy
      have s2 := s1.trans (same_new (o := .tup [V.int (j : Nat), V.str nm]) hT)
      refine ⟨T, _, rfl, SqT.of upd_same, rfl, _, _, rfl, _, _, rfl, rfl, ?_⟩
      refine ⟨_, rfl, _, rfl, _, rfl, _, rfl, q, _, rfl, s2.seq hq, fun p hp => ?_⟩
      rw [cut_take]
      have s3 := s2.trans (same_new (o := .lst ((l.map V.str).take j)) hp)
      rw [show l.drop j = nm :: l.drop (j + 1) from by rw [List.drop_eq_getElem_cons hj, (List.getElem?_eq_some_iff.mp hnm).2]] at hd
      refine ⟨p, _, rfl, .inl (SqL.of upd_same), rfl, by rw [← List.map_take]; exact flat_strs _, _, rfl, ite2 (fun hc => ?_) (fun hc => ?_)⟩
      · rw [← List.map_take, inV_mem] at hc
        have hd : dupO l = some nm := by rw [hd]; unfold dupF; rw [if_pos (of_decide_eq_true hc)]
        rw [hd] at h
        exact ⟨_, rfl, _, rfl, fun d hdn => h d _ s3 hdn⟩
      · rw [← List.map_take, inV_mem] at hc
        refine ⟨?_, _, _, rfl, s3⟩
        rw [hd]
        conv => lhs; unfold dupF
        rw [if_neg (fun z => hc (decide_eq_true z)), take_snoc hnm]
    · rintro σ H1 ⟨hd, x1, x2, rfl, s1⟩
      rw [List.length_map] at hd
      rw [List.drop_length] at hd
      rw [show dupO l = none from hd] at h
      exact h _ s1
end

/-! ### fits with both answers -/
abbrev sFiX : Stmt := topS 58
abbrev NFiX : List Str := ["tree", "callee", "args", "name", "params", "block", "one", "by_place", "word"]
abbrev PFiX : List Str := ["tree", "callee", "args"]
theorem scFiX : FnScope NFiX PFiX (defScope sFiX) := ⟨rfl, rfl, rfl, by decide +kernel, rfl, by decide +kernel, by decide +kernel⟩
def fitB (t : Tr) (callee : Str) (as : List Arg) : Bool := match t.fns.find? (fun f => f.name = callee) with
  | some f => decide (f.ps.map Prod.snd = as.map isPl)
  | none => false
def spFiX (K : PySem.W.Frag) : Sp := fun vs H Q _ => ∃ (v u : V) (t : Tr) (c : Str) (as : List Arg), vs = [v, .str c, u] ∧ Dp K H v (trD t) ∧ Dp K H u (.tuple (as.map argD)) ∧ as.length ≤ 20000 ∧ (∀ f ∈ t.fns, f.ps.length ≤ 20000) ∧ ∀ H', Same H H' → Q (.bl (fitB t c as)) H'
theorem eqv_bool_list : ∀ a b : List Bool, PyData.eqvAll (a.map .bool) (b.map .bool) = decide (a = b)
  | [], [] => by simp [PyData.eqvAll]
  | [], y :: b => by simp [PyData.eqvAll]
  | x :: a, [] => by simp [PyData.eqvAll]
  | x :: a, y :: b => by
    simp only [List.map_cons, PyData.eqvAll, PyData.eqv, eqv_bool_list a b, List.cons.injEq, Bool.decide_and]
    cases x <;> cases y <;> rfl
theorem eqv_boolsB (a b : List Bool) : PyData.eqv (.list (a.map PyData.bool)) (.list (b.map PyData.bool)) = decide (a = b) := by
  simp only [PyData.eqv, eqv_bool_list]
theorem find_at {l : List Fn} {cl : Str} {fn : Fn} {j : Nat} (h : l[j]? = some fn) (e : fn.name = cl) (no : ∀ i g, i < j → l[i]? = some g → g.name ≠ cl) : l.find? (fun f => f.name = cl) = some fn := by
  obtain ⟨hj, hg⟩ := List.getElem?_eq_some_iff.mp h
  rw [List.find?_eq_some_iff_getElem]
  refine ⟨decide_eq_true e, j, hj, hg, fun i hi => ?_⟩
  have := no i l[i] hi (List.getElem?_eq_getElem (by omega))
  simpa using this
theorem find_no {l : List Fn} {cl : Str} (no : ∀ g ∈ l, g.name ≠ cl) : l.find? (fun f => f.name = cl) = none := by
  rw [List.find?_eq_none]
  intro g hg
  simpa using no g hg
section
variable {P : Program} {w : World} {K : PySem.W.Frag} {mg : Str → Option Value} {base : Heap}
theorem ok_FiX {f : Addr} {fd : FuncData} (F : Fun K "fits" "fits" sFiX f fd) : FnOk P w K mg base CX0 1 f fd PFiX (spFiX K) := by
  refine F.ok scFiX (fun vs H Q E h => ?_) (fun cdv A outer s H vs Q E hr h => ?_)
  · obtain ⟨q, l, _, _, _, rfl, _⟩ := h
    rfl
  · obtain ⟨v, u, t, cl, as, rfl, hv, hu, la, lps, k⟩ := h
    refine ⟨_, (pss_cons (ps_for PassesOwn.never rfl (pi_tup (pe_ix (r := rIxT K) ix_tup (pv 0) pe_int (fun _ _ => rfl))) (pg_tup (by rfl) (pgs_cons (pg_name (i := 3) scFiX.nd rfl (Or.inl rfl)) (pgs_cons (pg_name (i := 4) scFiX.nd rfl (Or.inl rfl)) (pgs_cons (pg_name (i := 5) scFiX.nd rfl (Or.inl rfl)) pgs_nil))))
  (pss_one (ps_if (pt_cmpR op_eq (pv 3) (pv 1) (nomark _))
  (pss_one (ps_ret (pe_cmpR (op_eqD hr.units) (pe_lc (own := [("one", 6), ("by_place", 7)]) (g := gTup K 2 (gCons (gName 6) (gCons (gName 7) gNil))) (tt := tYes) rfl scFiX.nd (pi_tup (pv 4)) (blkOk_by (own := [("one", 6), ("by_place", 7)]) (N := NFiX) (sc := (defScope sFiX)) (by decide +kernel)) (fun _ _ _ _ _ => (pg_tup (by rfl) (pgs_cons (pg_name (i := 6) scFiX.nd rfl (Or.inl rfl)) (pgs_cons (pg_name (i := 7) scFiX.nd rfl (Or.inl rfl)) pgs_nil)))) (fun _ _ _ _ _ => pts_nil) (fun _ _ _ _ _ => (pv 7))) (pe_lc (own := [("word", 8), ("one", 6)]) (g := gTup K 2 (gCons (gName 8) (gCons (gName 6) gNil))) (tt := tYes) rfl scFiX.nd (pi_tup (pv 2)) (blkOk_by (own := [("word", 8), ("one", 6)]) (N := NFiX) (sc := (defScope sFiX)) (by decide +kernel)) (fun _ _ _ _ _ => (pg_tup (by rfl) (pgs_cons (pg_name (i := 8) scFiX.nd rfl (Or.inl rfl)) (pgs_cons (pg_name (i := 6) scFiX.nd rfl (Or.inl rfl)) pgs_nil)))) (fun _ _ _ _ _ => pts_nil) (fun _ _ _ _ _ => (pe_cmpR op_eq (pv 8) pe_str (nomark _)))) (nomark _))))
  pss_nil)))
  (pss_one (ps_ret pe_bl))), ?_⟩
    have hv : Dp K H v (.tuple [nmD t.names, nmD t.kinds, .tuple (t.keeps.map exD), .tuple (t.fns.map fnD)]) := hv
    obtain ⟨a, xs, rfl, hq, hd⟩ := hv.tupInv
    obtain ⟨x0, x1, x2, uu, rfl, _, _, _, hx⟩ := hd.four
    obtain ⟨g, gs, rfl, hg, hgd⟩ := hx.tupInv
    have pf := DpAll.map hgd
    obtain ⟨b, ys, rfl, hb, hbd⟩ := hu.tupInv
    have pa := DpAll.map hbd
    have ly : ys.length = as.length := Paired.length pa
    refine ⟨_, rfl, a, _, _, _, rfl, rfl, hq, rfl, g, rfl, ⟨_, hg⟩, ?_⟩
    refine for_tup (K := K) (a := g) (xs := gs) (fun j σ H' => (∀ i g, i < j → t.fns[i]? = some g → g.name ≠ cl) ∧ Same H H' ∧ ∃ x3 x4 x5 : Option V, σ = [some (.ref a), some (.str cl), some (.ref b), x3, x4, x5, none, none, none]) ⟨fun i g hi _ => absurd hi (Nat.not_lt_zero _), Same.refl _, none, none, none, rfl⟩ (fun j σ H' _ h' => SqT.same h'.2.1 hg) ?_ ?_
    · rintro j x σ H1 hx ⟨hno, s1, x3, x4, x5, rfl⟩
      obtain ⟨fn, hfn, hfd⟩ := Paired.at pf hx
      have hfd : Dp K H x (.tuple [.str fn.name, .tuple (fn.ps.map prD), blD fn.b]) := hfd
      obtain ⟨c, zs, rfl, hc, hcd⟩ := hfd.tupInv
      obtain ⟨u1, u2, u3, rfl, h1, h2, h3⟩ := hcd.three
      obtain ⟨p, ps, rfl, hp, hpd⟩ := h2.tupInv
      have pp := DpAll.map hpd
      have lp : ps.length = fn.ps.length := Paired.length pp
      rw [h1.strInv] at hc
      refine ⟨c, _, rfl, SqT.same s1 hc, rfl, _, _, rfl, _, _, rfl, _, _, rfl, rfl, ?_⟩
      refine ⟨_, rfl, _, rfl, rfl, _, rfl, ?_⟩
      by_cases e : fn.name = cl
      · refine iteS (decide_eq_true (by rw [e])) ?_
        have lf := lps fn (List.mem_of_getElem? hfn)
        have efit : fitB t cl as = decide (fn.ps.map Prod.snd = as.map isPl) := by
          unfold fitB
          rw [find_at hfn e hno]
        refine ⟨_, rfl, p, rfl, ⟨_, SqT.same s1 hp⟩, fun D hD => ?_⟩
        refine lc_tup (K := K) (a := p) (xs := ps) (fun i H' => Same H1 H' ∧ H' D = some (.lst (((fn.ps.take i).map Prod.snd).map V.bl))) ⟨same_new hD, upd_same⟩ (fun i H' _ h' => SqT.same (s1.trans h'.1) hp) ?_ ?_
        · rintro i z H2 hz ⟨s2, eD⟩
          obtain ⟨pr, ht, htd⟩ := Paired.at pp hz
          have htd : Dp K H z (.tuple [.str pr.1, .bool pr.2]) := htd
          obtain ⟨d, zs, rfl, hd, hdd⟩ := htd.tupInv
          obtain ⟨u, w, rfl, hu, hw⟩ := hdd.two
          rw [hu.strInv, Dp.blInv hw] at hd
          have hi : i < ps.length := (List.getElem?_eq_some_iff.mp hz).1
          refine ⟨d, _, rfl, SqT.same (s1.trans s2) hd, rfl, _, _, rfl, _, _, rfl, rfl, rfl, _, rfl, _, eD, smallX (by rw [List.length_map, List.length_map, List.length_take]; omega), fun c o z => ?_, ?_⟩
          · rw [upd_ne (ne_of_none z hD)]
            exact s2 _ _ z
          · rw [upd_same, take_snoc ht, List.map_append, List.map_append]
            rfl
        · rintro H2 ⟨s2, eD⟩
          rw [lp, List.take_length] at eD
          have s3 := s1.trans s2
          refine ⟨_, rfl, b, rfl, ⟨_, SqT.same s3 hb⟩, fun D2 hD2 => ?_⟩
          refine lc_tup (K := K) (a := b) (xs := ys) (fun i H' => Same H2 H' ∧ H' D2 = some (.lst (((as.take i).map isPl).map V.bl))) ⟨same_new hD2, upd_same⟩ (fun i H' _ h' => SqT.same (s3.trans h'.1) hb) ?_ ?_
          · rintro i z H4 hz ⟨s4, eD2⟩
            obtain ⟨g2, hg, hgd⟩ := Paired.at pa hz
            have hi : i < ys.length := (List.getElem?_eq_some_iff.mp hz).1
            have fin : (((as.take i).map isPl).map V.bl).length < sizeLine ∧ Same H2 (upd H4 D2 (.lst (((as.take i).map isPl).map V.bl ++ [.bl (isPl g2)]))) ∧ upd H4 D2 (.lst (((as.take i).map isPl).map V.bl ++ [.bl (isPl g2)])) D2 = some (.lst (((as.take (i + 1)).map isPl).map V.bl)) := by
              refine ⟨smallX (by rw [List.length_map, List.length_map, List.length_take]; omega), fun c o z => ?_, ?_⟩
              · rw [upd_ne (ne_of_none z hD2)]
                exact s4 _ _ z
              · rw [upd_same, take_snoc hg, List.map_append, List.map_append]
                rfl
            cases g2 with
            | place n =>
              have hgd : Dp K H z (.tuple [.str "place", .str n]) := hgd
              obtain ⟨d, zs, rfl, hd, hdd⟩ := hgd.tupInv
              obtain ⟨u, w, rfl, hu, hw⟩ := hdd.two
              rw [hu.strInv] at hd
              refine ⟨d, _, rfl, SqT.same (s3.trans s4) hd, rfl, _, _, rfl, _, _, rfl, rfl, rfl, _, rfl, rfl, _, eD2, fin.1, ?_⟩
              rw [decide_eq_true rfl]
              exact fin.2
            | value n =>
              have hgd : Dp K H z (.tuple [.str "value", exD n]) := hgd
              obtain ⟨d, zs, rfl, hd, hdd⟩ := hgd.tupInv
              obtain ⟨u, w, rfl, hu, hw⟩ := hdd.two
              rw [hu.strInv] at hd
              refine ⟨d, _, rfl, SqT.same (s3.trans s4) hd, rfl, _, _, rfl, _, _, rfl, rfl, rfl, _, rfl, rfl, _, eD2, fin.1, ?_⟩
              rw [decide_eq_false (by decide +kernel)]
              exact fin.2
          · rintro H4 ⟨s4, eD2⟩
            rw [ly, List.take_length] at eD2
            refine ⟨_, _, .lst (SqL.of (s4 _ _ eD)) (dp_bools _), .lst (SqL.of eD2) (dp_bools _), shaped_bools _, shaped_bools _, ?_⟩
            rw [eqv_boolsB, ← efit]
            exact k _ (s3.trans s4)
      · refine iteE (decide_eq_false (fun z => e (by injection z))) ?_
        refine ⟨fun i g hi hg => ?_, s1, _, _, _, rfl⟩
        rcases Nat.lt_or_ge i j with z | z
        · exact hno i g z hg
        · rw [show i = j by omega, hfn] at hg
          injection hg with hg
          rw [← hg]
          exact e
    · rintro σ H1 ⟨hno, s1, x3, x4, x5, rfl⟩
      have efit : fitB t cl as = false := by
        unfold fitB
        rw [find_no fun g hg => ?_]
        obtain ⟨i, hi⟩ := List.mem_iff_getElem?.mp hg
        exact hno i g (by rw [Paired.length pf]; exact (List.getElem?_eq_some_iff.mp hi).1) hi
      rw [efit] at k
      exact k _ s1
end

/-! ### check_statement -/
abbrev sChT : Stmt := topS 59
abbrev NChT : List Str := ["tree", "known", "place", "statement", "word", "name", "target", "callee", "args", "enter", "leave", "kinds", "block", "handlers", "final", "number", "inner"]
abbrev PChT : List Str := ["tree", "known", "place", "statement"]
theorem scChT : FnScope NChT PChT (defScope sChT) := ⟨rfl, rfl, rfl, by decide +kernel, rfl, by decide +kernel, by decide +kernel⟩
def knG (vs ks fs : List Str) (w : Str) : List Str := if w = wv then vs else if w = wk then ks else fs
/-- the dict of the known names -/
def KnAt (K : PySem.W.Frag) (H : Hp) (v : V) (vs ks fs : List Str) : Prop := ∃ d qv qk qf, v = .ref d ∧ H d = some (.dK [(.inr wv, .ref qv), (.inr wk, .ref qk), (.inr wf, .ref qf)]) ∧ H qv = some (.lst (vs.map V.str)) ∧ SqT K H qk (ks.map V.str) ∧ H qf = some (.lst (fs.map V.str))
theorem KnAt.same {K : PySem.W.Frag} {H H' : Hp} (s : Same H H') {v : V} {vs ks fs : List Str} (h : KnAt K H v vs ks fs) : KnAt K H' v vs ks fs :=
  let ⟨d, qv, qk, qf, e, h1, h2, h3, h4⟩ := h
  ⟨d, qv, qk, qf, e, s _ _ h1, s _ _ h2, SqT.same s h3, s _ _ h4⟩
def badF (s : St) : Bool := match s with
  | .whl _ => true | .try_ _ _ _ => true | .undo _ _ => true | .with_ _ _ _ _ => true | .ret _ => true
  | _ => false
section
variable {P : Program} {w : World} {K : PySem.W.Frag} {mg : Str → Option Value} {base : Heap}
theorem kn_get {K : PySem.W.Frag} {H : Hp} {v : V} {vs ks fs : List Str} (h : KnAt K H v vs ks fs) {w : Str} (hw : w = wv ∨ w = wk ∨ w = wf) : ∃ d q, v = .ref d ∧ DGet H d (.str w) (some (.ref q)) ∧ (SqL K H q ((knG vs ks fs w).map V.str) ∨ SqT K H q ((knG vs ks fs w).map V.str)) := by
  obtain ⟨d, qv, qk, qf, rfl, h1, h2, h3, h4⟩ := h
  rcases hw with rfl | rfl | rfl
  · exact ⟨d, qv, rfl, .inl ⟨_, .inr wv, Rd.of h1, rfl, by kernel_rfl⟩, .inl (SqL.of h2)⟩
  · exact ⟨d, qk, rfl, .inl ⟨_, .inr wk, Rd.of h1, rfl, by kernel_rfl⟩, .inr h3⟩
  · exact ⟨d, qf, rfl, .inl ⟨_, .inr wf, Rd.of h1, rfl, by kernel_rfl⟩, .inl (SqL.of h4)⟩
end

/-! ### check_statement with both answers -/
abbrev sChX : Stmt := topS 59
abbrev NChX : List Str := ["tree", "known", "place", "statement", "word", "name", "target", "callee", "args", "enter", "leave", "kinds", "block", "handlers", "final", "number", "inner"]
abbrev PChX : List Str := ["tree", "known", "place", "statement"]
theorem scChX : FnScope NChX PChX (defScope sChX) := ⟨rfl, rfl, rfl, by decide +kernel, rfl, by decide +kernel, by decide +kernel⟩
def unkN (kn : Str → List Str) (l : List (Str × Str)) : Option Str := (l.find? fun q => decide (q.2 ∉ kn q.1)).map Prod.snd
def stE (t : Tr) (vn ks fs : List Str) (pl : Nat) (st : St) : Option Er := match unkN (knG vn ks fs) (namedS st) with
  | some x => some (.unk x)
  | none => match st with
    | .call _ g as => if fitB t g as then none else some (.arg pl)
    | .with_ e l _ _ => if fitB t e.1 e.2 && fitB t l.1 l.2 then none else some (.arg pl)
    | .try_ _ _ f => if (allB f 0).any (fun p => badF p.2) then some (.fin pl) else none
    | _ => none
def spChX (K : PySem.W.Frag) (C' : Nat → Addr) (n : Nat) : Sp := fun vs H Q E => ∃ (v kn u : V) (pl : Nat) (t : Tr) (vn ks fs : List Str) (st : St), vs = [v, kn, .int (pl : Int), u] ∧ Dp K H v (trD t) ∧ KnAt K H kn vn ks fs ∧ Dp K H u (stD st) ∧ okS st ∧ dpS st ≤ n ∧ szS st ≤ 20000 ∧ (namedS st).length ≤ 20000 ∧
  (∀ f ∈ t.fns, f.ps.length ≤ 20000) ∧ ResE C' H (fun H' => Q .non H') E (stE t vn ks fs pl st)
theorem unk_at {kn : Str → List Str} {l : List (Str × Str)} {i : Nat} {wd nm : Str} (h : l[i]? = some (wd, nm)) (q : nm ∉ kn wd) (no : ∀ j q, j < i → l[j]? = some q → q.2 ∈ kn q.1) : unkN kn l = some nm := by
  obtain ⟨hi, hg⟩ := List.getElem?_eq_some_iff.mp h
  unfold unkN
  have e : l.find? (fun q => decide (q.2 ∉ kn q.1)) = some (wd, nm) := by
    rw [List.find?_eq_some_iff_getElem]
    refine ⟨decide_eq_true q, i, hi, hg, fun j hj => ?_⟩
    have := no j l[j] hj (List.getElem?_eq_getElem (by omega))
    simpa using this
  rw [e]
  rfl
theorem unk_no {kn : Str → List Str} {l : List (Str × Str)} (no : ∀ q ∈ l, q.2 ∈ kn q.1) : unkN kn l = none := by
  unfold unkN
  rw [List.find?_eq_none.mpr fun q hq => by simpa using no q hq]
  rfl
theorem named_word (st : St) : ∀ q ∈ namedS st, q.1 = wv ∨ q.1 = wk ∨ q.1 = wf := by
  intro q hq
  have mp : ∀ {α : Type} (l : List α) (w : Str) (f : α → Str), (w = wv ∨ w = wk ∨ w = wf) → q ∈ l.map (fun n => (w, f n)) → q.1 = wv ∨ q.1 = wk ∨ q.1 = wf := fun l w f hw h => by
    obtain ⟨n, _, rfl⟩ := List.mem_map.mp h
    exact hw
  have ca : ∀ (g : Str) (as : List Arg), q ∈ ((wf, g) :: (argsN as).map fun n => (wv, n)) → q.1 = wv ∨ q.1 = wk ∨ q.1 = wf := fun g as h => by
    rcases List.mem_cons.mp h with rfl | h
    · exact .inr (.inr rfl)
    · exact mp _ wv id (.inl rfl) h
  cases st with
  | set x e => exact mp e.ts wv Prod.fst (.inl rfl) hq
  | ret e => exact mp e.ts wv Prod.fst (.inl rfl) hq
  | call x g as => exact ca g as hq
  | risk ks => exact mp ks wk id (.inr (.inl rfl)) hq
  | raise k =>
    rw [show q = (wk, k) from List.mem_singleton.mp hq]
    exact .inr (.inl rfl)
  | try_ b hs f =>
    obtain ⟨h, _, hq⟩ := List.mem_flatMap.mp (show q ∈ hs.flatMap fun h => h.ks.map fun n => (wk, n) from hq)
    exact mp _ wk id (.inr (.inl rfl)) hq
  | undo ns b => exact mp ns wv id (.inl rfl) hq
  | with_ e l ks b =>
    rcases List.mem_append.mp (show q ∈ (((wf, e.1) :: (argsN e.2).map fun n => (wv, n)) ++ ((wf, l.1) :: (argsN l.2).map fun n => (wv, n))) ++ ks.map fun n => (wk, n) from hq) with h | h
    · rcases List.mem_append.mp h with h | h
      · exact ca _ _ h
      · exact ca _ _ h
    · exact mp ks wk id (.inr (.inl rfl)) h
  | _ => nomatch hq
section
variable {P : Program} {w : World} {K : PySem.W.Frag} {mg : Str → Option Value} {base : Heap} {C' : Nat → Addr}
theorem ok_ChX {n : Nat} {f : Addr} {fd : FuncData} (F : Fun K "check_statement" "check_statement" sChX f fd) (GN : Has P w K mg base CX0 3 "named_in" PNmI (spNmI K 2)) (X : ErrH P w K mg base C') (GF : Has P w K mg base CX0 1 "fits" PFiX (spFiX K)) (GA : Has P w K mg base CX0 (4 + n) "all_numbered" PAllN (spAllN K n)) : FnOk P w K mg base (L2N.CX P w) (4 + n + 1) f fd PChX (spChX K C' n) := by
  refine Fun.okN F scChX (fun vs H Q E h => ?_) (fun cdv A outer sh H vs Q E hr h => ?_)
  · obtain ⟨_, _, _, _, _, _, _, _, _, rfl, _⟩ := h
    rfl
  · obtain ⟨v, kn, u, pl, t, vn, ks, fs, st, rfl, hv, hk, hu, oks, dps, szs, ln, lps, h⟩ := h
    have tk := L2N.takes_of (X := cxOf (L2N.CX P w) P w K mg base NChX "check_statement" (defScope sChX) f cdv A outer sh H E) (E := E) rfl rfl rfl rfl
    have hu0 := hu_of hr
    have hr1 := hr.mono (j := 1) (by omega)
    have hr3 := hr.mono (j := 3) (by omega)
    refine ⟨_, (pss_cons (ps_for (passes_of rfl) rfl (pi_list (pe_callH GN hr3 rfl pass0 (pa_cons (pv 3) pa_nil))) (pg_tup (by rfl) (pgs_cons (pg_name (i := 4) scChX.nd rfl (Or.inl rfl)) (pgs_cons (pg_name (i := 5) scChX.nd rfl (Or.inl rfl)) pgs_nil)))
  (pss_one (ps_if (pt_cmpR op_notIn_seq (pv 5) (pe_dget hu0 (pv 1) (pv 4) (fun _ _ => rfl)) (by rfl))
  (pss_one (ps_raiseX rfl tk X.h4 (hr.mono (j := 2) (by omega)) rfl (pa_cons (pv 5) pa_nil)))
  pss_nil)))
  (pss_one (ps_match (pv 3) (pcs_cons scChX.nd (pm_seq rfl (pms_cons pm_str (pms_cons (pm_as (i := 6) rfl (Or.inl rfl)) (pms_cons (pm_as (i := 7) rfl (Or.inl rfl)) (pms_cons (pm_as (i := 8) rfl (Or.inl rfl)) pms_nil)))))
  (pss_one (ps_if (pt_not (pt_val (pe_callH GF hr1 rfl pass0 (pa_cons (pv 0) (pa_cons (pv 7) (pa_cons (pv 8) pa_nil))))))
  (pss_one (ps_raiseX rfl tk X.h5 (hr.mono (j := 2) (by omega)) rfl (pa_cons (pv 2) pa_nil)))
  pss_nil))
  (pcs_cons scChX.nd (pm_seq rfl (pms_cons pm_str (pms_cons (pm_as (i := 9) rfl (Or.inl rfl)) (pms_cons (pm_as (i := 10) rfl (Or.inl rfl)) (pms_cons (pm_as (i := 11) rfl (Or.inl rfl)) (pms_cons (pm_as (i := 12) rfl (Or.inl rfl)) pms_nil))))))
  (pss_one (ps_if (PW.pt (pw_or (pt_not (pt_val (pe_callH GF hr1 rfl pass0 (pa_cons (pv 0) (pa_cons (pe_ix (r := rIxT K) ix_tup (pv 9) pe_int (fun _ _ => rfl)) (pa_cons (pe_ix (r := rIxT K) ix_tup (pv 9) pe_int (fun _ _ => rfl)) pa_nil)))))) (pw_or1 (pt_not (pt_val (pe_callH GF hr1 rfl pass0 (pa_cons (pv 0) (pa_cons (pe_ix (r := rIxT K) ix_tup (pv 10) pe_int (fun _ _ => rfl)) (pa_cons (pe_ix (r := rIxT K) ix_tup (pv 10) pe_int (fun _ _ => rfl)) pa_nil)))))))))
  (pss_one (ps_raiseX rfl tk X.h5 (hr.mono (j := 2) (by omega)) rfl (pa_cons (pv 2) pa_nil)))
  pss_nil))
  (pcs_cons scChX.nd (pm_seq rfl (pms_cons pm_str (pms_cons (pm_as (i := 12) rfl (Or.inl rfl)) (pms_cons (pm_as (i := 13) rfl (Or.inl rfl)) (pms_cons (pm_as (i := 14) rfl (Or.inl rfl)) pms_nil)))))
  (pss_one (ps_for (passes_of rfl) rfl (pi_list (pe_callH GA hr rfl pass0 (pa_cons (pv 14) (pa_cons pe_int pa_nil)))) (pg_tup (by rfl) (pgs_cons (pg_name (i := 15) scChX.nd rfl (Or.inl rfl)) (pgs_cons (pg_name (i := 16) scChX.nd rfl (Or.inl rfl)) pgs_nil)))
  (pss_one (ps_if (pt_cmpR op_in_seq (pe_ix (r := rIxT K) ix_tup (pv 16) pe_int (fun _ _ => rfl)) (pe_tup (pa_cons pe_str (pa_cons pe_str (pa_cons pe_str (pa_cons pe_str (pa_cons pe_str pa_nil)))))) (by rfl))
  (pss_one (ps_raiseX rfl tk X.h6 (hr.mono (j := 2) (by omega)) rfl (pa_cons (pv 2) pa_nil)))
  pss_nil))))
  pcs_nil)))))), ?_⟩
    have rk : rkS st ≤ 2 := by cases st <;> simp [rkS]
    refine ⟨_, rfl, u, st, rfl, hu, oks, rk, ln, fun L ls H1 s1 nL eL pL => ?_⟩
    refine ⟨L, rfl, ⟨_, SqL.of eL⟩, ?_⟩
    refine for_list (K := K) (a := L) (xs := ls) (fun i σ H' => H' = H1 ∧ (∀ j q, j < i → (namedS st)[j]? = some q → q.2 ∈ knG vn ks fs q.1) ∧ ∃ x4 x5 : Option V, σ = [some v, some kn, some (.int (pl : Int)), some u, x4, x5, none, none, none, none, none, none, none, none, none, none, none]) ⟨rfl, fun j q hj _ => absurd hj (Nat.not_lt_zero _), _, _, rfl⟩ (fun j σ H' _ h' => SqL.of (by rw [h'.1]; exact eL)) ?_ ?_
    · rintro i x σ H2 hx ⟨rfl, hall, x4, x5, rfl⟩
      obtain ⟨⟨wd, nm⟩, hq, a, rfl, ha⟩ := Paired.at pL hx
      have q1 := named_word st _ (List.mem_of_getElem? hq)
      obtain ⟨d, q, rfl, dg, sq⟩ := kn_get (hk.same s1) q1
      refine ⟨a, _, rfl, ha, rfl, _, _, rfl, _, _, rfl, rfl, ?_⟩
      refine ⟨_, rfl, _, rfl, _, rfl, d, _, rfl, dg, q, _, rfl, sq, rfl, flat_strs _, _, rfl, ?_⟩
      rw [if_pos rfl, inV_mem]
      by_cases q2 : nm ∈ knG vn ks fs wd
      · refine iteE (by rw [decide_eq_true q2]; rfl) ⟨rfl, fun j q hj hg => ?_, _, _, rfl⟩
        rcases Nat.lt_or_ge j i with z | z
        · exact hall j q z hg
        · rw [show j = i by omega, hq] at hg
          injection hg with hg
          rw [← hg]
          exact q2
      · refine iteS (by rw [decide_eq_false q2]; rfl) ⟨_, rfl, _, rfl, fun d hd => ?_⟩
        have hu : unkN (knG vn ks fs) (namedS st) = some nm := unk_at hq q2 hall
        unfold stE at h
        rw [hu] at h
        exact h d _ s1 hd
    · rintro σ H2 ⟨rfl, hall, x4, x5, rfl⟩
      have hnone : unkN (knG vn ks fs) (namedS st) = none := unk_no fun q hq => by
        obtain ⟨i, hi⟩ := List.mem_iff_getElem?.mp hq
        exact hall i q (by rw [Paired.length pL]; exact (List.getElem?_eq_some_iff.mp hi).1) hi
      unfold stE at h
      rw [hnone] at h
      simp only at h
      obtain ⟨a, xs, rfl, hq, hd⟩ := stInv (hu.same s1)
      refine ⟨_, rfl, ?_⟩
      have s0 := s1
      cases st <;> simp only [wordS] at hq
      case call g gg as =>
        have h : ResE C' H (fun H' => Q .non H') E (if fitB t gg as then none else some (.arg pl)) := h
        obtain ⟨x, y, z, rfl, h1, h2, h3⟩ := DpAll.three hd
        rw [h2.strInv] at hq
        have oks : (∀ x, g = some x → okN1 x) ∧ okN1 gg ∧ okAs as := oks
        repeat (first | refine case_len hq (Nat.ne_of_beq_eq_false rfl) ?_ | refine case_word hq rfl (by decide +kernel) ?_)
        refine case_hit hq rfl ⟨_, _, rfl, _, _, rfl, _, _, rfl, ?_⟩
        refine ⟨_, rfl, _, rfl, _, rfl, _, _, t, gg, as, rfl, hv.same s1, h3, oks.2.2.1, lps, fun H3 s3 => ?_⟩
        cases hf : fitB t gg as with
        | true =>
          rw [hf] at h
          exact ⟨true, rfl, iteE rfl (h _ (s1.trans s3))⟩
        | false =>
          rw [hf] at h
          exact ⟨false, rfl, iteS rfl ⟨_, rfl, _, rfl, fun d hd => h d _ (s1.trans s3) hd⟩⟩
      case with_ e l ks p =>
        have h : ResE C' H (fun H' => Q .non H') E (if fitB t e.1 e.2 && fitB t l.1 l.2 then none else some (.arg pl)) := h
        have oks : (okCal e ∧ okCal l ∧ okNs ks) ∧ (p.length ≤ 20000 ∧ okL p) := oks
        obtain ⟨x, y, z, u, rfl, h1, h2, h3, h4⟩ := DpAll.four hd
        have h1 : Dp K H2 x (.tuple [.str e.1, .tuple (e.2.map argD)]) := h1
        have h2 : Dp K H2 y (.tuple [.str l.1, .tuple (l.2.map argD)]) := h2
        obtain ⟨x0, ex, rfl, hx0, hxd⟩ := h1.tupInv
        obtain ⟨e1, e2, rfl, he1, he2⟩ := hxd.two
        obtain ⟨y0, ey, rfl, hy0, hyd⟩ := h2.tupInv
        obtain ⟨l1, l2, rfl, hl1, hl2⟩ := hyd.two
        rw [he1.strInv] at hx0
        rw [hl1.strInv] at hy0
        repeat (first | refine case_len hq (Nat.ne_of_beq_eq_false rfl) ?_ | refine case_word hq rfl (by decide +kernel) ?_)
        refine case_hit hq rfl ⟨_, _, rfl, _, _, rfl, _, _, rfl, _, _, rfl, ?_⟩
        refine ⟨_, rfl, _, rfl, x0, _, _, _, rfl, rfl, hx0, rfl, _, rfl, x0, _, _, _, rfl, rfl, hx0, rfl, _, _, t, e.1, e.2, rfl, hv.same s1, he2, oks.1.1.2.1, lps, fun H3 s3 => ?_⟩
        cases hf : fitB t e.1 e.2 with
        | false =>
          rw [hf] at h
          exact ⟨false, rfl, iteS rfl (iteS rfl ⟨_, rfl, _, rfl, fun d hd => h d _ (s1.trans s3) hd⟩)⟩
        | true =>
        rw [hf] at h
        refine ⟨true, rfl, iteE rfl ?_⟩
        refine ⟨_, rfl, _, rfl, y0, _, _, _, rfl, rfl, SqT.same s3 hy0, rfl, _, rfl, y0, _, _, _, rfl, rfl, SqT.same s3 hy0, rfl, _, _, t, l.1, l.2, rfl, (hv.same s1).same s3, hl2.same s3, oks.1.2.1.2.1, lps, fun H4 s4 => ?_⟩
        cases hg : fitB t l.1 l.2 with
        | false =>
          rw [hg] at h
          exact ⟨false, rfl, iteS rfl ⟨_, rfl, _, rfl, fun d hd => h d _ ((s1.trans s3).trans s4) hd⟩⟩
        | true =>
          rw [hg] at h
          exact ⟨true, rfl, iteE rfl (h _ ((s1.trans s3).trans s4))⟩
      case try_ p hs q0 =>
        have h : ResE C' H (fun H' => Q .non H') E (if (allB q0 0).any (fun p => badF p.2) then some (.fin pl) else none) := h
        have oks : (p.length ≤ 20000 ∧ okL p) ∧ (hs.length ≤ 20000 ∧ okHs hs) ∧ (q0.length ≤ 20000 ∧ okL q0) := oks
        have dps : max (dpB p) (max (dpHs hs) (dpB q0)) ≤ n := dps
        have szs : szB p + (szHs hs + szB q0) ≤ 20000 := szs
        obtain ⟨x, y, z, rfl, h1, h2, h3⟩ := DpAll.three hd
        repeat (first | refine case_len hq (Nat.ne_of_beq_eq_false rfl) ?_ | refine case_word hq rfl (by decide +kernel) ?_)
        refine case_hit hq rfl ⟨_, _, rfl, _, _, rfl, _, _, rfl, ?_⟩
        refine ⟨_, rfl, z, q0, 0, rfl, h3, Nat.le_trans (Nat.le_trans (Nat.le_max_right _ _) (Nat.le_max_right _ _)) dps, oks.2.2, by omega, fun M ms H3 s3 nM eM pM => ?_⟩
        refine ⟨M, rfl, ⟨_, SqL.of eM⟩, ?_⟩
        refine for_list (K := K) (a := M) (xs := ms) (fun i σ H' => Same H3 H' ∧ (∀ j q, j < i → (allB q0 0)[j]? = some q → badF q.2 = false) ∧ ∃ x15 x16 : Option V, σ = [some v, some kn, some (.int (pl : Int)), some (.ref a), x4, x5, none, none, none, none, none, none, some x, some y, some z, x15, x16]) ⟨Same.refl _, fun j q hj _ => absurd hj (Nat.not_lt_zero _), _, _, rfl⟩ (fun j σ H' _ h' => SqL.of (h'.1 _ _ eM)) ?_ ?_
        · rintro i w σ H4 hw ⟨s4, hal2, x15, x16, rfl⟩
          obtain ⟨⟨num, st⟩, hp, b, u, rfl, hb, hpd⟩ := Paired.at pM hw
          obtain ⟨c, zs, rfl, hc, hcd⟩ := stInv hpd
          refine ⟨b, _, rfl, SqT.same s4 hb, rfl, _, _, rfl, _, _, rfl, rfl, ?_⟩
          have hc : SqT K H3 c (V.str (wordS st) :: zs) := hc
          refine ⟨_, rfl, c, _, _, _, rfl, rfl, SqT.same s4 hc, atI_nat (j := 0) rfl, (by show 5 ≤ sizeLine; decide), fun tt htt => ?_⟩
          have s5 := same_new (o := .tup [V.str "while", V.str "try", V.str "undo", V.str "with", V.str "return"]) htt
          have hw2 : inV (V.str (wordS st)) [V.str "while", V.str "try", V.str "undo", V.str "with", V.str "return"] = badF st := by
            cases st <;> simp only [wordS, badF] <;> decide +kernel
          refine ⟨tt, _, rfl, .inr (SqT.of upd_same), rfl, rfl, _, rfl, ?_⟩
          rw [hw2]
          cases hb2 : badF st with
          | true =>
            refine iteS rfl ⟨_, rfl, _, rfl, fun d hd => ?_⟩
            have hany : ((allB q0 0).any fun p => badF p.2) = true := List.any_eq_true.mpr ⟨_, List.mem_of_getElem? hp, hb2⟩
            rw [if_pos hany] at h
            exact h d _ (((s1.trans s3).trans s4).trans s5) hd
          | false =>
            refine iteE rfl ⟨s4.trans s5, fun j q hj hg => ?_, _, _, rfl⟩
            rcases Nat.lt_or_ge j i with z | z
            · exact hal2 j q z hg
            · rw [show j = i by omega, hp] at hg
              injection hg with hg
              rw [← hg]
              exact hb2
        · rintro σ H4 ⟨s4, hal2, _⟩
          have hany : ¬ ((allB q0 0).any fun p => badF p.2) = true := fun z => by
            obtain ⟨p, hp, hb⟩ := List.any_eq_true.mp z
            obtain ⟨i, hi⟩ := List.mem_iff_getElem?.mp hp
            rw [hal2 i p (by rw [Paired.length pM]; exact (List.getElem?_eq_some_iff.mp hi).1) hi] at hb
            cases hb
          rw [if_neg hany] at h
          exact h _ ((s1.trans s3).trans s4)
      all_goals
        first
          | obtain ⟨_, rfl, _⟩ := DpAll.one hd
          | obtain ⟨_, _, rfl, _, _⟩ := DpAll.two hd
        repeat (first | refine case_len hq (Nat.ne_of_beq_eq_false rfl) ?_ | refine case_word hq rfl (by decide +kernel) ?_)
        exact h _ s1
end

/-! ### check_names -/
mutual
theorem le_allS : ∀ (s : St) (n : Nat), ∀ p ∈ allS s n, dpS p.2 ≤ dpS s ∧ szS p.2 ≤ szS s
  | .ite a b, n, p, hp => by
    have ea := dpB_eq a
    have eb := dpB_eq b
    show _ ≤ max (dpB a) (dpB b) ∧ _ ≤ szB a + szB b
    rcases List.mem_append.mp (show p ∈ allB a n ++ allB b (n + szB a) from hp) with z | z
    · have := le_allB a _ p z
      exact ⟨Nat.le_trans (by omega) (Nat.le_max_left _ _), by omega⟩
    · have := le_allB b _ p z
      exact ⟨Nat.le_trans (by omega) (Nat.le_max_right _ _), by omega⟩
  | .whl b, n, p, hp => by
    have := le_allB b n p hp
    have e := dpB_eq b
    exact ⟨by show _ ≤ dpB b; omega, by show _ ≤ szB b; omega⟩
  | .try_ b hs f, n, p, hp => by
    have eb := dpB_eq b
    have ef := dpB_eq f
    show _ ≤ max (dpB b) (max (dpHs hs) (dpB f)) ∧ _ ≤ szB b + (szHs hs + szB f)
    rcases List.mem_append.mp (show p ∈ allB b n ++ (allHs hs (n + szB b) ++ allB f (n + szB b + szHs hs)) from hp) with z | z
    · have := le_allB b _ p z
      exact ⟨Nat.le_trans (by omega) (Nat.le_max_left _ _), by omega⟩
    · rcases List.mem_append.mp z with z | z
      · have := le_allHs hs _ p z
        exact ⟨Nat.le_trans (Nat.le_trans this.1 (Nat.le_max_left _ _)) (Nat.le_max_right _ _), by omega⟩
      · have := le_allB f _ p z
        exact ⟨Nat.le_trans (Nat.le_trans (by omega) (Nat.le_max_right _ _)) (Nat.le_max_right _ _), by omega⟩
  | .undo ns b, n, p, hp => by
    have := le_allB b n p hp
    have e := dpB_eq b
    exact ⟨by show _ ≤ dpB b; omega, by show _ ≤ szB b; omega⟩
  | .with_ e l ks b, n, p, hp => by
    have := le_allB b n p hp
    have e := dpB_eq b
    exact ⟨by show _ ≤ dpB b; omega, by show _ ≤ szB b; omega⟩
  | .set _ _, _, p, hp => nomatch hp
  | .input _, _, p, hp => nomatch hp
  | .call _ _ _, _, p, hp => nomatch hp
  | .risk _, _, p, hp => nomatch hp
  | .raise _, _, p, hp => nomatch hp
  | .ret _, _, p, hp => nomatch hp
theorem le_allB : ∀ (b : List St) (n : Nat), ∀ p ∈ allB b n, dpS p.2 ≤ dpIn b ∧ szS p.2 + 1 ≤ szB b
  | [], _, p, hp => nomatch hp
  | s :: r, n, p, hp => by
    show _ ≤ max (dpS s) (dpIn r) ∧ _ ≤ 1 + szS s + szB r
    rcases List.mem_cons.mp (show p ∈ (n, s) :: (allS s (n + 1) ++ allB r (n + 1 + szS s)) from hp) with z | z
    · rw [z]
      exact ⟨Nat.le_max_left _ _, by show szS s + 1 ≤ _; omega⟩
    · rcases List.mem_append.mp z with z | z
      · have := le_allS s _ p z
        exact ⟨Nat.le_trans this.1 (Nat.le_max_left _ _), by omega⟩
      · have := le_allB r _ p z
        exact ⟨Nat.le_trans this.1 (Nat.le_max_right _ _), by omega⟩
theorem le_allH : ∀ (x : Hd) (n : Nat), ∀ p ∈ allH x n, dpS p.2 ≤ dpH x ∧ szS p.2 ≤ szH x
  | .mk ks b, n, p, hp => by
    have := le_allB b n p hp
    have e := dpB_eq b
    exact ⟨by show _ ≤ dpB b; omega, by show _ ≤ szB b; omega⟩
theorem le_allHs : ∀ (hs : List Hd) (n : Nat), ∀ p ∈ allHs hs n, dpS p.2 ≤ dpHs hs ∧ szS p.2 ≤ szHs hs
  | [], _, p, hp => nomatch hp
  | x :: r, n, p, hp => by
    show _ ≤ max (dpH x) (dpHs r) ∧ _ ≤ szH x + szHs r
    rcases List.mem_append.mp (show p ∈ allH x n ++ allHs r (n + szH x) from hp) with z | z
    · have := le_allH x _ p z
      exact ⟨Nat.le_trans this.1 (Nat.le_max_left _ _), by omega⟩
    · have := le_allHs r _ p z
      exact ⟨Nat.le_trans this.1 (Nat.le_max_right _ _), by omega⟩
end
abbrev sChN : Stmt := topS 60
abbrev NChN : List Str := ["tree", "names", "kinds", "keeps", "functions", "everywhere", "name", "params", "block", "function", "inner", "constant", "terms", "factor", "known", "place", "statement"]
abbrev PChN : List Str := ["tree"]
theorem scChN : FnScope NChN PChN (defScope sChN) := ⟨rfl, rfl, rfl, by decide +kernel, rfl, by decide +kernel, by decide +kernel⟩
def evT (t : Tr) : List Str := t.names ++ (t.kinds ++ t.fns.map Fn.name)
def vnT (t : Tr) (f : Fn) : List Str := t.names ++ (prs f ++ innerF t.names (prs f) f.b)
section
variable {P : Program} {w : World} {K : PySem.W.Frag} {mg : Str → Option Value} {base : Heap}
end

/-! ### check_names with both answers -/
abbrev sChY : Stmt := topS 60
abbrev NChY : List Str := ["tree", "names", "kinds", "keeps", "functions", "everywhere", "name", "params", "block", "function", "inner", "constant", "terms", "factor", "known", "place", "statement"]
abbrev PChY : List Str := ["tree"]
theorem scChY : FnScope NChY PChY (defScope sChY) := ⟨rfl, rfl, rfl, by decide +kernel, rfl, by decide +kernel, by decide +kernel⟩
def fbO (t : Tr) (f : Fn) : Option Er := (dupO (evT t ++ (prs f ++ innerF t.names (prs f) f.b))).map Er.dup
def fpO (t : Tr) (p : Str × Int) : Option Er := if p.1 ∈ t.names then none else some (.unk p.1)
def fcO (t : Tr) (e : Ex) : Option Er := e.ts.findSome? (fpO t)
def fdO (t : Tr) (f : Fn) : Option Er := (allB f.b 0).findSome? fun p => stE t (vnT t f) t.kinds (t.fns.map Fn.name) p.1 p.2
/-- the first error of a tree's names -/
def orE (a b : Option Er) : Option Er := match a with
  | some e => some e
  | none => b
def errT (t : Tr) : Option Er := orE ((dupO (evT t)).map Er.dup) (orE (t.fns.findSome? (fbO t)) (orE (t.keeps.findSome? (fcO t)) (t.fns.findSome? (fdO t))))
theorem fs_at {α : Type} {f : α → Option Er} : ∀ {l : List α} {j : Nat} {x : α} {e : Er}, l[j]? = some x → f x = some e → (∀ i y, i < j → l[i]? = some y → f y = none) → l.findSome? f = some e
  | [], j, x, e, h, _, _ => by cases h
  | y :: r, 0, x, e, h, hx, _ => by
    injection h with h
    rw [List.findSome?_cons, h, hx]
  | y :: r, j + 1, x, e, h, hx, no => by
    rw [List.findSome?_cons, no 0 y (Nat.succ_pos _) rfl]
    exact fs_at (l := r) (j := j) h hx fun i z hi hz => no (i + 1) z (by omega) hz
theorem fs_none {α : Type} {f : α → Option Er} {l : List α} (no : ∀ i y, i < l.length → l[i]? = some y → f y = none) : l.findSome? f = none := by
  rw [List.findSome?_eq_none_iff]
  intro x hx
  obtain ⟨i, hi⟩ := List.mem_iff_getElem?.mp hx
  exact no i x (List.getElem?_eq_some_iff.mp hi).1 hi
theorem no_succ {α : Type} {f : α → Option Er} {l : List α} {j : Nat} {x : α} (no : ∀ i y, i < j → l[i]? = some y → f y = none) (hx : l[j]? = some x) (e : f x = none) : ∀ i y, i < j + 1 → l[i]? = some y → f y = none := fun i y hi hy => by
  rcases Nat.lt_or_ge i j with z | z
  · exact no i y z hy
  · rw [show i = j by omega, hx] at hy
    injection hy with hy
    rw [← hy]
    exact e
section
variable {C' : Nat → Addr} {H H1 : Hp} {Q Q1 : Hp → Prop} {E : XK} {o1 o2 : Option Er}
theorem ResE.left (h : ResE C' H Q E (orE o1 o2)) (s : Same H H1) (k : o1 = none → ∀ H', Same H1 H' → Q1 H') : ResE C' H1 Q1 E o1 := by
  cases o1 with
  | none => exact k rfl
  | some e => exact fun d H' s' hd => h d H' (s.trans s') hd
theorem ResE.pass (e : o1 = none) (h : ResE C' H Q E (orE o1 o2)) : ResE C' H Q E o2 := by
  rw [e] at h
  exact h
theorem ResE.at {α : Type} {l : List α} {f : α → Option Er} {j : Nat} {x : α} (h : ResE C' H Q E (orE (l.findSome? f) o2)) (hx : l[j]? = some x) (no : ∀ i y, i < j → l[i]? = some y → f y = none) (s : Same H H1) (k : f x = none → ∀ H', Same H1 H' → Q1 H') : ResE C' H1 Q1 E (f x) := by
  cases e : f x with
  | none => exact k e
  | some e1 =>
    rw [fs_at hx e no] at h
    exact fun d H' s' hd => h d H' (s.trans s') hd
end
def spChY (K : PySem.W.Frag) (C' : Nat → Addr) (n : Nat) : Sp := fun vs H Q E => ∃ (v : V) (t : Tr), vs = [v] ∧ Dp K H v (trD t) ∧ okTr n t ∧ SmallT t ∧ (∀ f ∈ t.fns, ∀ p ∈ allB f.b 0, (namedS p.2).length ≤ 20000) ∧ ResE C' H (fun H' => Q .non H') E (errT t)
section
variable {P : Program} {w : World} {K : PySem.W.Frag} {mg : Str → Option Value} {base : Heap} {C' : Nat → Addr}
theorem ok_ChY {n : Nat} {f : Addr} {fd : FuncData} (F : Fun K "check_names" "check_names" sChY f fd) (T : TxChk mg) (GO : Has P w K mg base CX0 (4 + n + 1 + 1) "own_names" POwn (spOwn K n)) (X : ErrH P w K mg base C') (GU : Has P w K mg base (L2N.CX P w) 3 "check_unlike" PUnX (spUnX K C')) (GA : Has P w K mg base CX0 (4 + n) "all_numbered" PAllN (spAllN K n)) (GS : Has P w K mg base (L2N.CX P w) (4 + n + 1) "check_statement" PChX (spChX K C' n)) : FnOk P w K mg base (L2N.CX P w) (4 + n + 1 + 1 + 1) f fd PChY (spChY K C' n) := by
  refine Fun.okN F scChY (fun vs H Q E h => ?_) (fun cdv A outer sh H vs Q E hr h => ?_)
  · obtain ⟨v, e, rfl, _⟩ := h
    rfl
  · obtain ⟨v, t, rfl, hv, ok, sm, ln, h⟩ := h
    have tk := L2N.takes_of (X := cxOf (L2N.CX P w) P w K mg base NChY "check_names" (defScope sChY) f cdv A outer sh H E) (E := E) rfl rfl rfl rfl
    have lps : ∀ f ∈ t.fns, f.ps.length ≤ 20000 := fun f hf => by have := sm.ps f hf; omega
    have hu0 := hu_of hr
    have hr3 := hr.mono (j := 3) (by omega)
    have hr4 := hr.mono (j := 4 + n) (by omega)
    have hr5 := hr.mono (j := 4 + n + 1) (by omega)
    refine ⟨_, (pss_cons (ps_asg (pv 0) (pg_tup (by rfl) (pgs_cons (pg_name (i := 1) scChY.nd rfl (Or.inl rfl)) (pgs_cons (pg_name (i := 2) scChY.nd rfl (Or.inl rfl)) (pgs_cons (pg_name (i := 3) scChY.nd rfl (Or.inl rfl)) (pgs_cons (pg_name (i := 4) scChY.nd rfl (Or.inl rfl)) pgs_nil))))))
  (pss_cons (ps_set (i := 5) scChY.nd rfl (Or.inl rfl) (pe_lst (StX.pa_star (pv 1) (StX.pa_star (pv 2) (StX.pa_star (pe_lc (own := [("name", 6), ("params", 7), ("block", 8)]) (g := gTup K 3 (gCons (gName 6) (gCons (gName 7) (gCons (gName 8) gNil)))) (tt := tYes) rfl scChY.nd (pi_tup (pv 4)) (blkOk_by (own := [("name", 6), ("params", 7), ("block", 8)]) (N := NChY) (sc := (defScope sChY)) (by decide +kernel)) (fun _ _ _ _ _ => (pg_tup (by rfl) (pgs_cons (pg_name (i := 6) scChY.nd rfl (Or.inl rfl)) (pgs_cons (pg_name (i := 7) scChY.nd rfl (Or.inl rfl)) (pgs_cons (pg_name (i := 8) scChY.nd rfl (Or.inl rfl)) pgs_nil))))) (fun _ _ _ _ _ => pts_nil) (fun _ _ _ _ _ => (pv 6))) pa_nil)))))
  (pss_cons (ps_expr (pe_callSH GU hr3 rfl (L2N.passAt tk) (pa_cons (pv 5) pa_nil)))
  (pss_cons (ps_for (passes_of rfl) rfl (pi_tup (pv 4)) (pg_name (i := 9) scChY.nd rfl (Or.inl rfl))
  (pss_cons (ps_asg (pe_callH GO hr rfl pass0 (pa_cons (pv 0) (pa_cons (pv 9) pa_nil))) (pg_tup (by rfl) (pgs_cons (pg_name (i := 7) scChY.nd rfl (Or.inl rfl)) (pgs_cons (pg_name (i := 10) scChY.nd rfl (Or.inl rfl)) pgs_nil))))
  (pss_one (ps_expr (pe_callSH GU hr3 rfl (L2N.passAt tk) (pa_cons (pe_lst (StX.pa_star (pv 5) (StX.pa_star (pv 7) (StX.pa_star (pv 10) pa_nil)))) pa_nil))))))
  (pss_cons (ps_for (passes_of rfl) rfl (pi_tup (pv 3)) (pg_tup (by rfl) (pgs_cons (pg_name (i := 11) scChY.nd rfl (Or.inl rfl)) (pgs_cons (pg_name (i := 12) scChY.nd rfl (Or.inl rfl)) pgs_nil)))
  (pss_one (ps_for (passes_of rfl) rfl (pi_tup (pv 12)) (pg_tup (by rfl) (pgs_cons (pg_name (i := 6) scChY.nd rfl (Or.inl rfl)) (pgs_cons (pg_name (i := 13) scChY.nd rfl (Or.inl rfl)) pgs_nil)))
  (pss_one (ps_if (pt_cmpR op_notIn_seq (pv 6) (pv 1) (by rfl))
  (pss_one (ps_raiseX rfl tk X.h4 (hr.mono (j := 2) (by omega)) rfl (pa_cons (pv 6) pa_nil)))
  pss_nil)))))
  (pss_one (ps_for (passes_of rfl) rfl (pi_tup (pv 4)) (pg_name (i := 9) scChY.nd rfl (Or.inl rfl))
  (pss_cons (ps_asg (pe_callH GO hr rfl pass0 (pa_cons (pv 0) (pa_cons (pv 9) pa_nil))) (pg_tup (by rfl) (pgs_cons (pg_name (i := 7) scChY.nd rfl (Or.inl rfl)) (pgs_cons (pg_name (i := 10) scChY.nd rfl (Or.inl rfl)) pgs_nil))))
  (pss_cons (ps_set (i := 14) scChY.nd rfl (Or.inl rfl) (pe_disp (pps_cons pe_str (pe_lst (StX.pa_star (pv 1) (StX.pa_star (pv 7) (StX.pa_star (pv 10) pa_nil)))) (pps_cons pe_str (pv 2) (pps_cons pe_str (pe_slice sl_list (pv 5) (po_some (pe_op op_add (pe_callB call_len_seq (by rfl) T.n_len bb_len (pa_cons (pv 1) pa_nil)) (pe_callB call_len_seq (by rfl) T.n_len bb_len (pa_cons (pv 2) pa_nil)))) po_none) pps_nil))) (by rfl) (by rfl) (by decide) (by decide)))
  (pss_one (ps_for (passes_of rfl) rfl (pi_list (pe_callH GA hr4 rfl pass0 (pa_cons (pe_ix (r := rIxT K) ix_tup (pv 9) pe_int (fun _ _ => rfl)) (pa_cons pe_int pa_nil)))) (pg_tup (by rfl) (pgs_cons (pg_name (i := 15) scChY.nd rfl (Or.inl rfl)) (pgs_cons (pg_name (i := 16) scChY.nd rfl (Or.inl rfl)) pgs_nil)))
  (pss_one (ps_expr (pe_callSH GS hr5 rfl (L2N.passAt tk) (pa_cons (pv 0) (pa_cons (pv 14) (pa_cons (pv 15) (pa_cons (pv 16) pa_nil)))))))))))))))))), ?_⟩
    obtain ⟨okn, okk, oke, lf, okf⟩ := ok
    have hv0 := hv
    have hv : Dp K H v (.tuple [nmD t.names, nmD t.kinds, .tuple (t.keeps.map exD), .tuple (t.fns.map fnD)]) := hv
    obtain ⟨a, xs, rfl, hq, hd⟩ := hv.tupInv
    obtain ⟨x, y, z, u, rfl, hx, hy, hz, hu⟩ := hd.four
    obtain ⟨b1, ys1, rfl, hb1, hd1⟩ := hx.tupInv
    obtain ⟨b2, ys2, rfl, hb2, hd2⟩ := hy.tupInv
    obtain ⟨b3, ys3, rfl, hb3, hd3⟩ := hz.tupInv
    obtain ⟨c, zs, rfl, hc, hzd⟩ := hu.tupInv
    have pf := DpAll.map hzd
    have pk := DpAll.map hd3
    have e1 : ys1 = t.names.map V.str := dp_strs hd1
    have e2 : ys2 = t.kinds.map V.str := dp_strs hd2
    subst e1 e2
    have lz : zs.length = t.fns.length := Paired.length pf
    have lF := sm.fns
    have lN := sm.names
    have lK := sm.kinds
    refine ⟨_, rfl, a, _, rfl, hq, rfl, _, _, rfl, _, _, rfl, _, _, rfl, _, _, rfl, rfl, ?_⟩
    refine ⟨_, rfl, b1, _, rfl, .inl hb1, _, rfl, b2, _, rfl, .inl hb2, ?_⟩
    refine ⟨_, rfl, c, rfl, ⟨_, hc⟩, fun D hD => ?_⟩
    refine lc_tup (K := K) (a := c) (xs := zs) (fun i H' => Same H H' ∧ H' D = some (.lst (((t.fns.take i).map Fn.name).map V.str))) ⟨same_new hD, upd_same⟩ (fun i H' _ h' => SqT.same h'.1 hc) ?_ ?_
    · rintro i x H1 hx ⟨s1, eD⟩
      obtain ⟨fn, hfn, hfd⟩ := Paired.at pf hx
      have hi : i < zs.length := (List.getElem?_eq_some_iff.mp hx).1
      have hfd : Dp K H x (.tuple [.str fn.name, .tuple (fn.ps.map prD), blD fn.b]) := hfd
      obtain ⟨d, ds, rfl, hd5, hdd⟩ := hfd.tupInv
      obtain ⟨u1, u2, u3, rfl, g1, _, _⟩ := hdd.three
      rw [g1.strInv] at hd5
      refine ⟨d, _, rfl, SqT.same s1 hd5, rfl, _, _, rfl, _, _, rfl, _, _, rfl, rfl, wipe3 (by decide) (by decide) (by decide), ?_⟩
      refine ⟨V.str fn.name, by kernel_rfl, _, eD, smallX (by rw [List.length_map, List.length_map, List.length_take]; omega), fun c o z => ?_, ?_⟩
      · rw [upd_ne (ne_of_none z hD)]
        exact s1 _ _ z
      · rw [upd_same, take_snoc hfn, List.map_append, List.map_append]
        rfl
    · rintro H1 ⟨s1, eD⟩
      rw [lz, List.take_length] at eD
      refine ⟨D, _, rfl, .inr (SqL.of eD), ?_⟩
      have eev : t.names.map V.str ++ (t.kinds.map V.str ++ ((t.fns.map Fn.name).map V.str ++ [])) = (evT t).map V.str := by
        unfold evT
        rw [List.append_nil, List.map_append, List.map_append]
      have lev : (evT t).length ≤ 13 := by
        unfold evT
        rw [List.length_append, List.length_append, List.length_map]
        omega
      refine ⟨Nat.le_of_lt (smallX (by rw [eev, List.length_map]; omega)), fun q hq1 => ?_⟩
      have s2 := same_new (o := .lst (t.names.map V.str ++ (t.kinds.map V.str ++ ((t.fns.map Fn.name).map V.str ++ [])))) hq1
      obtain ⟨G1, eG1⟩ : ∃ G, G = upd H1 q (.lst (t.names.map V.str ++ (t.kinds.map V.str ++ ((t.fns.map Fn.name).map V.str ++ [])))) := ⟨_, rfl⟩
      have eq : G1 q = some (.lst ((evT t).map V.str)) := by rw [eG1, upd_same, eev]
      rw [← eG1] at s2 ⊢
      have s3 := s1.trans s2
      refine ⟨_, rfl, q, evT t, rfl, SqL.of eq, ResE.left h s3 fun e0 G2 s4 => ?_⟩
      have h := ResE.pass e0 h
      have s5 := s3.trans s4
      have eq := s4 _ _ eq
      clear eG1 hq1 s2 s3 s4 s1 eD
      refine ⟨_, rfl, c, rfl, ⟨_, SqT.same s5 hc⟩, ?_⟩
      refine for_tup (K := K) (a := c) (xs := zs) (fun i σ H' => Same G2 H' ∧ (∀ j f, j < i → t.fns[j]? = some f → fbO t f = none) ∧ ∃ x7 x9 x10 : Option V, σ = [some (.ref a), some (.ref b1), some (.ref b2), some (.ref b3), some (.ref c), some (.ref q), none, x7, none, x9, x10, none, none, none, none, none, none]) ⟨Same.refl _, fun j f hj _ => absurd hj (Nat.not_lt_zero _), _, _, _, rfl⟩ (fun j σ H' _ h' => SqT.same (s5.trans h'.1) hc) ?_ ?_
      · rintro i x σ H3 hx ⟨s6, hno, x7, x9, x10, rfl⟩
        obtain ⟨fn, hfn, hfd⟩ := Paired.at pf hx
        have mf := List.mem_of_getElem? hfn
        have sz1 := sm.sz1 mf
        have ps1 := sm.ps fn mf
        have in1 := sm.inn fn mf
        have s7 := s5.trans s6
        refine ⟨_, rfl, _, rfl, _, x, t, fn, rfl, hv0.same s7, okn.1, hfd.same s7, okf fn mf, by omega, by omega, fun r a' c' H4 s8 f1 f2 f3 ne e1 e2 e3 => ?_⟩
        refine ⟨r, _, rfl, SqT.of e1, rfl, _, _, rfl, _, _, rfl, rfl, ?_⟩
        refine ⟨_, rfl, q, _, rfl, .inr (SqL.of ((s6.trans s8) _ _ eq)), _, rfl, a', _, rfl, .inr (SqL.of e2), _, rfl, c', _, rfl, .inr (SqL.of e3), ?_⟩
        have el : (evT t).map V.str ++ ((prs fn).map V.str ++ ((innerF t.names (prs fn) fn.b).map V.str ++ [])) = (evT t ++ (prs fn ++ innerF t.names (prs fn) fn.b)).map V.str := by
          rw [List.append_nil, List.map_append, List.map_append]
        have lpr : (prs fn).length ≤ 3 := by unfold prs; rw [List.length_map]; exact ps1
        refine ⟨Nat.le_of_lt (smallX (by rw [el, List.length_map, List.length_append, List.length_append]; omega)), fun q2 hq2 => ?_⟩
        have s9 := same_new (o := .lst ((evT t).map V.str ++ ((prs fn).map V.str ++ ((innerF t.names (prs fn) fn.b).map V.str ++ [])))) hq2
        refine ⟨q2, _, rfl, SqL.of (by rw [← el]; exact upd_same), ResE.at (f := fbO t) h hfn hno ((s7.trans s8).trans s9) fun e0 G5 s10 => ?_⟩
        exact ⟨((s6.trans s8).trans s9).trans s10, no_succ hno hfn e0, _, _, _, rfl⟩
      · rintro σ H3 ⟨s6, hno, x7, x9, x10, rfl⟩
        have s7 := s5.trans s6
        have eq := s6 _ _ eq
        have h := ResE.pass (fs_none (by rw [← lz]; exact hno)) h
        clear hno
        refine ⟨_, rfl, b3, rfl, ⟨_, SqT.same s7 hb3⟩, ?_⟩
        refine for_tup (K := K) (a := b3) (xs := ys3) (fun i σ H' => Same H3 H' ∧ (∀ j e, j < i → t.keeps[j]? = some e → fcO t e = none) ∧ ∃ x6 x11 x12 x13 : Option V, σ = [some (.ref a), some (.ref b1), some (.ref b2), some (.ref b3), some (.ref c), some (.ref q), x6, x7, none, x9, x10, x11, x12, x13, none, none, none]) ⟨Same.refl _, fun j f hj _ => absurd hj (Nat.not_lt_zero _), _, _, _, _, rfl⟩ (fun j σ H' _ h' => SqT.same (s7.trans h'.1) hb3) ?_ ?_
        · rintro i x σ H4 hx ⟨s8, hno, x6, x11, x12, x13, rfl⟩
          obtain ⟨e, he, hed⟩ := Paired.at pk hx
          have me := List.mem_of_getElem? he
          have hed : Dp K H x (.tuple [.int e.c, .tuple (e.ts.map fun p => .tuple [.str p.1, .int p.2])]) := hed
          obtain ⟨d, ds, rfl, hd1, hdd⟩ := hed.tupInv
          obtain ⟨u1, u2, rfl, g1, g2⟩ := hdd.two
          obtain ⟨b4, ts, rfl, hb4, hbd4⟩ := g2.tupInv
          have pt := DpAll.map hbd4
          have s9 := s7.trans s8
          refine ⟨d, _, rfl, SqT.same s9 hd1, rfl, _, _, rfl, _, _, rfl, rfl, ?_⟩
          refine ⟨_, rfl, b4, rfl, ⟨_, SqT.same s9 hb4⟩, ?_⟩
          refine for_tup (K := K) (a := b4) (xs := ts) (fun i σ H' => H' = H4 ∧ (∀ j p, j < i → e.ts[j]? = some p → fpO t p = none) ∧ ∃ x6 x13 : Option V, σ = [some (.ref a), some (.ref b1), some (.ref b2), some (.ref b3), some (.ref c), some (.ref q), x6, x7, none, x9, x10, some u1, some (.ref b4), x13, none, none, none]) ⟨rfl, fun j f hj _ => absurd hj (Nat.not_lt_zero _), _, _, rfl⟩ (fun j σ H' _ h' => by rw [h'.1]; exact SqT.same s9 hb4) ?_ ?_
          · rintro j y σ H5 hy ⟨rfl, hnp, x6, x13, rfl⟩
            obtain ⟨pr, ht, htd⟩ := Paired.at pt hy
            obtain ⟨c3, zs3, rfl, hc3, hcd3⟩ := htd.tupInv
            obtain ⟨u, w, rfl, hu, hw⟩ := hcd3.two
            rw [hu.strInv, hw.intInv] at hc3
            refine ⟨c3, _, rfl, SqT.same s9 hc3, rfl, _, _, rfl, _, _, rfl, rfl, ?_⟩
            refine ⟨_, rfl, _, rfl, b1, _, rfl, .inr (SqT.same s9 hb1), rfl, flat_strs _, _, rfl, ?_⟩
            rw [if_pos rfl, inV_mem]
            by_cases hp : pr.1 ∈ t.names
            · refine iteE (by rw [decide_eq_true hp]; rfl) ⟨rfl, no_succ hnp ht (by unfold fpO; rw [if_pos hp]), _, _, rfl⟩
            · refine iteS (by rw [decide_eq_false hp]; rfl) ⟨_, rfl, _, rfl, fun d hd => ?_⟩
              have e1 : fpO t pr = some (.unk pr.1) := by unfold fpO; rw [if_neg hp]
              have e2 : fcO t e = some (.unk pr.1) := fs_at ht e1 hnp
              rw [fs_at he e2 hno] at h
              exact h d _ s9 hd
          · rintro σ H5 ⟨rfl, hnp, x6, x13, rfl⟩
            exact ⟨s8, no_succ hno he (fs_none (by rw [← Paired.length pt]; exact hnp)), _, _, _, _, rfl⟩
        · rintro σ H4 ⟨s8, hno, x6, x11, x12, x13, rfl⟩
          have h := ResE.pass (fs_none (by rw [← Paired.length pk]; exact hno)) h
          clear hno
          have s9 := s7.trans s8
          have eq := s8 _ _ eq
          refine ⟨_, rfl, c, rfl, ⟨_, SqT.same s9 hc⟩, ?_⟩
          refine for_tup (K := K) (a := c) (xs := zs) (fun i σ H' => Same H4 H' ∧ (∀ j f, j < i → t.fns[j]? = some f → fdO t f = none) ∧ ∃ x7 x9 x10 x14 x15 x16 : Option V, σ = [some (.ref a), some (.ref b1), some (.ref b2), some (.ref b3), some (.ref c), some (.ref q), x6, x7, none, x9, x10, x11, x12, x13, x14, x15, x16]) ⟨Same.refl _, fun j f hj _ => absurd hj (Nat.not_lt_zero _), _, _, _, _, _, _, rfl⟩ (fun j σ H' _ h' => SqT.same (s9.trans h'.1) hc) ?_ ?_
          · rintro i x σ H5 hx ⟨s10, hno, x7, x9, x10, x14, x15, x16, rfl⟩
            obtain ⟨fn, hfn, hfd⟩ := Paired.at pf hx
            have mf := List.mem_of_getElem? hfn
            have sz1 := sm.sz1 mf
            have ps1 := sm.ps fn mf
            have in1 := sm.inn fn mf
            have okn := okf fn mf
            have s11 := s9.trans s10
            refine ⟨_, rfl, _, rfl, _, x, t, fn, rfl, hv0.same s11, by omega, hfd.same s11, okf fn mf, by omega, by omega, fun r a' c' H6 s12 f1 f2 f3 ne e1 e2 e3 => ?_⟩
            refine ⟨r, _, rfl, SqT.of e1, rfl, _, _, rfl, _, _, rfl, rfl, ?_⟩
            have s13 := s11.trans s12
            have lpr : (prs fn).length ≤ 3 := by unfold prs; rw [List.length_map]; exact ps1
            intro dk hdk
            have s14 := s13.trans (same_new (o := .dK []) hdk)
            have k67 := same_new (o := .dK []) hdk
            have edk : upd H6 dk (.dK []) dk = some (.dK []) := upd_same
            have ea6 := (same_new (o := .dK []) hdk) _ _ e2
            have ec6 := (same_new (o := .dK []) hdk) _ _ e3
            have eq6 := (same_new (o := .dK []) hdk) _ _ ((s10.trans s12) _ _ eq)
            generalize upd H6 dk (.dK []) = H7 at *
            refine ⟨_, rfl, b1, _, rfl, .inl (SqT.same s14 hb1), _, rfl, a', _, rfl, .inr (SqL.of ea6), _, rfl, c', _, rfl, .inr (SqL.of ec6), ?_⟩
            have el : t.names.map V.str ++ ((prs fn).map V.str ++ ((innerF t.names (prs fn) fn.b).map V.str ++ [])) = (vnT t fn).map V.str := by
              unfold vnT
              rw [List.append_nil, List.map_append, List.map_append]
            refine ⟨Nat.le_of_lt (smallX (by rw [el, List.length_map]; unfold vnT; rw [List.length_append, List.length_append]; omega)), fun qv hqv => ?_⟩
            have s15 := same_new (o := .lst (t.names.map V.str ++ ((prs fn).map V.str ++ ((innerF t.names (prs fn) fn.b).map V.str ++ [])))) hqv
            have ev : upd H7 qv (.lst (t.names.map V.str ++ ((prs fn).map V.str ++ ((innerF t.names (prs fn) fn.b).map V.str ++ [])))) qv = some (.lst ((vnT t fn).map V.str)) := by rw [upd_same, el]
            have edk := s15 _ _ edk
            have eq7 := s15 _ _ eq6
            have s16 := s14.trans s15
            generalize upd H7 qv (.lst (t.names.map V.str ++ ((prs fn).map V.str ++ ((innerF t.names (prs fn) fn.b).map V.str ++ [])))) = H8 at *
            refine ⟨_, rfl, _, rfl, _, rfl, b1, _, rfl, .inr (SqT.same s16 hb1), _, rfl, b2, _, rfl, .inr (SqT.same s16 hb2), _, _, rfl, rfl, _, rfl, q, _, rfl, SqL.of eq7, fun qf hqf => ?_⟩
            have lsum : ((t.names.map V.str).length : Int) + ((t.kinds.map V.str).length : Int) = ((t.names.length + t.kinds.length : Nat) : Int) := by rw [List.length_map, List.length_map]; omega
            have ecut : cutV ((evT t).map V.str) (some (((t.names.map V.str).length : Int) + ((t.kinds.map V.str).length : Int))) none = (t.fns.map Fn.name).map V.str := by
              rw [lsum, cut_drop, ← List.map_drop]
              unfold evT
              rw [← List.append_assoc, ← List.length_append, List.drop_left]
            have s17 := same_new (o := .lst (cutV ((evT t).map V.str) (some (((t.names.map V.str).length : Int) + ((t.kinds.map V.str).length : Int))) none)) hqf
            have ef : upd H8 qf (.lst (cutV ((evT t).map V.str) (some (((t.names.map V.str).length : Int) + ((t.kinds.map V.str).length : Int))) none)) qf = some (.lst ((t.fns.map Fn.name).map V.str)) := by rw [upd_same, ecut]
            have edk := s17 _ _ edk
            have ev := s17 _ _ ev
            have eq8 := s17 _ _ eq7
            have s18 := s16.trans s17
            generalize upd H8 qf (.lst (cutV ((evT t).map V.str) (some (((t.names.map V.str).length : Int) + ((t.kinds.map V.str).length : Int))) none)) = H9 at *
            have nd : dk ≠ qv ∧ dk ≠ qf ∧ dk ≠ q := ⟨ne_of edk ev (by intro z; cases z), ne_of edk ef (by intro z; cases z), ne_of edk eq8 (by intro z; cases z)⟩
            refine ⟨edk, [(.inr wv, .ref qv), (.inr wk, .ref b2), (.inr wf, .ref qf)], rfl, (by show 3 ≤ 15; decide), ?_⟩
            have em : mergeK [] [((.inr wv : Key), V.ref qv), (.inr wk, .ref b2), (.inr wf, .ref qf)] = [(.inr wv, .ref qv), (.inr wk, .ref b2), (.inr wf, .ref qf)] := by kernel_rfl
            rw [em]
            have sG : Same H6 (upd H9 dk (.dK [(.inr wv, .ref qv), (.inr wk, .ref b2), (.inr wf, .ref qf)])) := fun b o z => by
              rw [upd_ne (ne_of_none z hdk)]
              exact s17 _ _ (s15 _ _ (k67 _ _ z))
            have kn : KnAt K (upd H9 dk (.dK [(.inr wv, .ref qv), (.inr wk, .ref b2), (.inr wf, .ref qf)])) (.ref dk) (vnT t fn) t.kinds (t.fns.map Fn.name) := by
              refine ⟨dk, qv, b2, qf, rfl, upd_same, ?_, SqT.same sG (SqT.same s13 hb2), ?_⟩
              · rw [upd_ne nd.1.symm]; exact ev
              · rw [upd_ne nd.2.1.symm]; exact ef
            have s19 := s13.trans sG
            have sH := (s10.trans s12).trans sG
            clear em ecut lsum el s18 s17 s16 s15 s14 k67 hqf hqv
            generalize upd H9 dk (.dK [(.inr wv, .ref qv), (.inr wk, .ref b2), (.inr wf, .ref qf)]) = H10 at *
            have hfd2 : Dp K H x (.tuple [.str fn.name, .tuple (fn.ps.map prD), blD fn.b]) := hfd
            obtain ⟨fa, fs, rfl, hfa, hfdd⟩ := hfd2.tupInv
            obtain ⟨v1, v2, v3, rfl, _, _, w3⟩ := hfdd.three
            refine ⟨_, rfl, fa, _, _, _, rfl, rfl, SqT.same s19 hfa, rfl, v3, fn.b, 0, rfl, w3.same s19, okn.2.2.2.1, okn.2.2.1, by omega, fun L ls H11 s20 nL eL pL => ?_⟩
            refine ⟨L, rfl, ⟨_, SqL.of eL⟩, ?_⟩
            refine for_list (K := K) (a := L) (xs := ls) (fun i σ H' => Same H11 H' ∧ (∀ j p, j < i → (allB fn.b 0)[j]? = some p → stE t (vnT t fn) t.kinds (t.fns.map Fn.name) p.1 p.2 = none) ∧ ∃ x15 x16 : Option V, σ = [some (.ref a), some (.ref b1), some (.ref b2), some (.ref b3), some (.ref c), some (.ref q), x6, some (.ref a'), none, some (.ref fa), some (.ref c'), x11, x12, x13, some (.ref dk), x15, x16]) ⟨Same.refl _, fun j f hj _ => absurd hj (Nat.not_lt_zero _), _, _, rfl⟩ (fun j σ H' _ h' => SqL.of (h'.1 _ _ eL)) ?_ ?_
            · rintro i2 y σ H12 hy ⟨s21, hnp, x15, x16, rfl⟩
              obtain ⟨⟨num, st⟩, hp, b, u, rfl, hb, hpd⟩ := Paired.at pL hy
              have mp := List.mem_of_getElem? hp
              have le := le_allB fn.b 0 _ mp
              have oks := ok_allB fn.b 0 okn.2.2.1.2 _ mp
              have db := dpB_eq fn.b
              have dn := okn.2.2.2.1
              simp only at le
              refine ⟨b, _, rfl, SqT.same s21 hb, rfl, _, _, rfl, _, _, rfl, rfl, ?_⟩
              refine ⟨_, rfl, _, rfl, _, rfl, _, rfl, .ref a, .ref dk, u, num, t, vnT t fn, t.kinds, t.fns.map Fn.name, st, rfl, hv0.same ((s19.trans s20).trans s21), kn.same (s20.trans s21), hpd.same s21, oks, by omega, by omega, ln fn mf _ mp, lps, ?_⟩
              cases he : stE t (vnT t fn) t.kinds (t.fns.map Fn.name) num st with
              | none => exact fun H13 s22 => ⟨s21.trans s22, no_succ hnp hp he, _, _, rfl⟩
              | some e1 =>
                have e2 : fdO t fn = some e1 := by
                  unfold fdO
                  refine fs_at hp ?_ hnp
                  exact he
                rw [fs_at hfn e2 hno] at h
                exact fun d H13 s22 hd => h d H13 (((s19.trans s20).trans s21).trans s22) hd
            · rintro σ H12 ⟨s21, hnp, x15, x16, rfl⟩
              exact ⟨(sH.trans s20).trans s21, no_succ hno hfn (fs_none (by rw [← Paired.length pL]; exact hnp)), _, _, _, _, _, _, rfl⟩
          · rintro σ H5 ⟨s10, hno, _⟩
            rw [fs_none (by rw [← lz]; exact hno)] at h
            exact h _ (s9.trans s10)
end

/-! ### class Program, errors of names included -/
abbrev sPIX : Stmt := inClass (topS 62) 0
abbrev NPIX : List Str := ["self", "tree"]
abbrev PPIX : List Str := ["self", "tree"]
theorem scPIX : FnScope NPIX PPIX (defScope sPIX) := ⟨rfl, rfl, rfl, by decide +kernel, rfl, by decide +kernel, by decide +kernel⟩
/-- a program at a -/
def PrgAt (K : PySem.W.Frag) (C : Addr) (H : Hp) (a : Addr) (t : Tr) : Prop := ∃ dx v g, H a = some (.ins C dx [("content", v), ("globals", g)]) ∧ Dp K H v (trD t) ∧ Dp K H g (nmD t.names)
theorem noL_pr (p : Str × Bool) : noL (prD p) = true := rfl
theorem noL_fn (f : Fn) : noL (fnD f) = true := by
  simp only [fnD, noL, noLs, noL_bl, Bool.true_and, Bool.and_true]
  exact noLs_map noL_pr _
theorem noL_tr (t : Tr) : noL (trD t) = true := by
  simp only [trD, noL, noLs, noL_nm, Bool.true_and, Bool.and_true]
  rw [noLs_map noL_ex, noLs_map noL_fn]
  rfl
theorem PrgAt.same {K : PySem.W.Frag} {C : Addr} {H H' : Hp} (s : Same H H') {a : Addr} {t : Tr} (h : PrgAt K C H a t) : PrgAt K C H' a t :=
  let ⟨dx, v, g, h1, h2, h3⟩ := h
  ⟨dx, v, g, s _ _ h1, h2.same s, h3.same s⟩
theorem PrgAt.tps {K : PySem.W.Frag} {C : Addr} {H H' : Hp} {a : Addr} (h0 : H' a = H a) (s : Tps H H') {t : Tr} (h : PrgAt K C H a t) : PrgAt K C H' a t :=
  let ⟨dx, v, g, h1, h2, h3⟩ := h
  ⟨dx, v, g, h0.trans h1, h2.tps s (noL_tr t), h3.tps s (noL_nm _)⟩
structure TxPrg (K : PySem.W.Frag) (C : Addr) : Prop where
  cl : Cls K C
  nC : NoAttr K C "content"
  nG : NoAttr K C "globals"
/-- what Program(tree) does with a tree of the right form and size -/
def ResP (K : PySem.W.Frag) (C : Addr) (C' : Nat → Addr) (H : Hp) (S : Addr) (t : Tr) (Q : Hp → Prop) (E : XK) : Option Er → Prop
  | none => ∀ H', PrgAt K C H' S t → (∀ b o, H b = some o → b ≠ S → H' b = some o) → Q H'
  | some e => ∀ d H', Same H H' → H' d = none → E (.ref (C' (erI e))) (some d) (upd H' d (.xd (erF e)))
section
variable {P : Program} {w : World} {K : PySem.W.Frag} {mg : Str → Option Value} {base : Heap} {C : Addr} {C' : Nat → Addr}
end

/-! ### k08: Program.__init__ with every answer -/
theorem ndL_map {α : Type} {f : α → PyData} : ∀ l : List α, ndD.ndL (l.map f) = (l.map fun x => ndD (f x)).sum
  | [] => rfl
  | x :: r => by
    rw [List.map_cons, List.map_cons, List.sum_cons, ← ndL_map r]
    rfl
theorem ex_small {e : Ex} (h : GB (exD e)) : smallE e ∧ e.ts.length ≤ 20000 := by
  have h1 := (h.mem (d := .int e.c) (by simp)).int
  have h2 : GB (.tuple (e.ts.map fun p => PyData.tuple [.str p.1, .int p.2])) := h.mem (by simp)
  have h3 := h2.len
  rw [List.length_map] at h3
  have hL : LIM = 1000000000000 := rfl
  refine ⟨⟨by omega, fun p hp => ?_⟩, h3⟩
  have := ((h2.mem (d := .tuple [.str p.1, .int p.2]) (List.mem_map.mpr ⟨p, hp, rfl⟩)).mem (d := .int p.2) (by simp)).int
  omega
theorem fn_nd {f : Fn} : ndD.ndL (stsD f.b) + 1 ≤ ndD (fnD f) := by
  have h : ndD (fnD f) = 1 + (1 + ((1 + ndD.ndL (f.ps.map prD)) + ((1 + ndD.ndL (stsD f.b)) + 0))) := rfl
  omega
theorem big_of {t : Tr} (g : GB (trD t)) : BigT t := by
  have gf : GB (.tuple (t.fns.map fnD)) := g.mem (by simp)
  have gk : GB (.tuple (t.keeps.map exD)) := g.mem (by simp)
  have hn : ndD (trD t) = 1 + (ndD (nmD t.names) + (ndD (nmD t.kinds) + ((1 + ndD.ndL (t.keeps.map exD)) + ((1 + ndD.ndL (t.fns.map fnD)) + 0)))) := rfl
  have hc := g.c
  have hm : ∀ f ∈ t.fns, ndD (fnD f) ≤ ndD.ndL (t.fns.map fnD) := fun f hf => ndL_mem (List.mem_map_of_mem hf)
  have hS := ndL_map (f := fnD) t.fns
  have gbl : ∀ f ∈ t.fns, GB (blD f.b) := fun f hf => (gf.mem (d := fnD f) (List.mem_map_of_mem hf)).mem (d := blD f.b) (by simp)
  refine ⟨?_, fun f hf => ?_, ⟨?_, fun e he => ?_⟩, fun f hf p hp => ?_⟩
  · have := sum_le2 (f := fun f : Fn => szB f.b) (g := fun f => ndD (fnD f)) (fun f => by have := sz_nd f.b; have := fn_nd (f := f); omega) t.fns
    omega
  · have := hm f hf
    have := fn_nd (f := f)
    show 1 + ndD.ndL (stsD f.b) ≤ _
    omega
  · have h1 := ndL_len (t.keeps.map exD)
    rw [List.length_map] at h1
    have h2 : (t.fns.flatMap exsF).length = (t.fns.map fun f => (exsF f).length).sum := by rw [List.length_flatMap]
    have := sum_le2 (f := fun f : Fn => (exsF f).length) (g := fun f => ndD (fnD f)) (fun f => by have := ex_nd f.b; have := fn_nd (f := f); unfold exsF; omega) t.fns
    unfold exsT
    rw [List.length_append]
    omega
  · rcases List.mem_append.mp he with z | z
    · exact ex_small (gk.mem (d := exD e) (List.mem_map_of_mem z))
    · obtain ⟨f, hf, hm⟩ := List.mem_flatMap.mp z
      obtain ⟨p, hp, hm⟩ := List.mem_flatMap.mp hm
      exact ex_small (gb_exprS (gb_allB f.b 0 (gbl f hf) p hp) e hm)
  · have := nm_nd f.b p hp
    have := hm f hf
    have := fn_nd (f := f)
    omega
def ResI (K : PySem.W.Frag) (C : Addr) (C' : Nat → Addr) (H : Hp) (S : Addr) (t : Tr) (Q : Hp → Prop) (E : XK) : Option Str → Prop
  | none => ResP K C C' H S t Q E (errT t)
  | some w => ∀ d H', Same H H' → H' d = none → E (.ref (C' 7)) (some d) (upd H' d (.xd [("word", .str w)]))
def spPIY (K : PySem.W.Frag) (C : Addr) (C' : Nat → Addr) : Sp := fun vs H Q E => ∃ (S dx : Addr) (v : V) (d : PyData), vs = [.ref S, v] ∧ H S = some (.ins C dx []) ∧ Dp K H v d ∧ GD 60 d ∧
  (treeB d = false → ∀ dd H', Same H H' → H' dd = none → E (.ref (C' 2)) (some dd) (upd H' dd (.xd [("value", v)]))) ∧
  ∀ t, d = trD t → treeB d = true → ResI K C C' H S t (fun H' => Q .non H') E (bigW t)
section
variable {P : Program} {w : World} {K : PySem.W.Frag} {mg : Str → Option Value} {base : Heap} {C : Addr} {C' : Nat → Addr}
theorem ok_PIY {f : Addr} {fd : FuncData} (F : Fun K "__init__" "Program.__init__" sPIX f fd) (TC : TxPrg K C) (X : ErrH P w K mg base C') (GT : Has P w K mg base CX0 (5 + 3 * 31 + 1 + 1) "is_tree" PIsTree (spTreB K)) (GS : Has P w K mg base (L2N.CX P w) (4 + 30 + 1 + 1 + 1) "check_sizes" PChS (spChZ K C' 30)) (GN : Has P w K mg base (L2N.CX P w) (4 + 30 + 1 + 1 + 1) "check_names" PChY (spChY K C' 30)) : FnOk P w K mg base (L2N.CX P w) (5 + 3 * 31 + 1 + 1 + 1) f fd PPIX (spPIY K C C') := by
  refine Fun.okN F scPIX (fun vs H Q E h => ?_) (fun cdv A outer sh H vs Q E hr h => ?_)
  · obtain ⟨S, dx, v, t, rfl, _⟩ := h
    rfl
  · obtain ⟨S, dx, v, d, rfl, e1, hv, gd, hno, h⟩ := h
    have tk := L2N.takes_of (X := cxOf (L2N.CX P w) P w K mg base NPIX "Program.__init__" (defScope sPIX) f cdv A outer sh H E) (E := E) rfl rfl rfl rfl
    have hr7 := hr.mono (j := 4 + 30 + 1 + 1 + 1) (by decide)
    refine ⟨_, (pss_cons (ps_if (pt_not (pt_val (pe_callH GT hr rfl pass0 (pa_cons (pv 1) pa_nil))))
  (pss_one (ps_raiseX rfl tk X.h2 (hr.mono (by decide)) rfl (pa_cons (pv 1) pa_nil)))
  pss_nil)
  (pss_cons (ps_expr (pe_callSH GS hr7 rfl (L2N.passAt tk) (pa_cons (pv 1) pa_nil)))
  (pss_cons (ps_expr (pe_callSH GN hr7 rfl (L2N.passAt tk) (pa_cons (pv 1) pa_nil)))
  (pss_cons (ps_fld (pv 0) (pv 1) rfl)
  (pss_one (ps_fld (pv 0) (pe_ix (r := rIxT K) ix_tup (pv 1) pe_int (fun _ _ => rfl)) rfl)))))), ?_⟩
    refine ⟨_, rfl, v, d, rfl, hv, gd, fun H1 s1 => ⟨_, rfl, ?_⟩⟩
    cases ht : treeB d with
    | false => exact iteS rfl ⟨_, rfl, _, rfl, fun dd hdd => hno ht dd _ s1 hdd⟩
    | true =>
    refine iteE rfl ?_
    obtain ⟨t, rfl, ok⟩ := tree_of ht gd.gb
    have bt := big_of gd.gb
    have h := h t rfl ht
    refine ⟨_, rfl, v, t, rfl, hv.same s1, ok, bt, ?_⟩
    cases hb : bigW t with
    | some w =>
      rw [hb] at h
      exact fun d H' s' hd => h d H' (s1.trans s') hd
    | none =>
    rw [hb] at h
    intro H2 s2
    have s12 := s1.trans s2
    refine ⟨_, rfl, v, t, rfl, hv.same s12, ok, small_of bt hb, bt.nmd, ?_⟩
    have h : ResP K C C' H S t (fun H' => Q .non H') E (errT t) := h
    cases he : errT t with
    | some e =>
      rw [he] at h
      exact fun d H' s' hd => h d H' (s12.trans s') hd
    | none =>
    rw [he] at h
    intro H3 s3
    have s4 := s12.trans s3
    have hv4 := hv.same s4
    have hv5 : Dp K H3 v (.tuple [nmD t.names, nmD t.kinds, .tuple (t.keeps.map exD), .tuple (t.fns.map fnD)]) := hv4
    obtain ⟨a, xs, rfl, hq, hd⟩ := hv5.tupInv
    obtain ⟨x, y, z, u, rfl, hx, _, _, _⟩ := hd.four
    have e3 := s4 _ _ e1
    have tp : Tps H3 (upd H3 S (.ins C dx (putF "content" (.ref a) []))) := Tps.ins e3
    refine ⟨_, rfl, _, rfl, S, C, dx, [], rfl, e3, TC.cl, TC.nC, (by show 0 < 1000; decide), ?_⟩
    have e4 : upd H3 S (.ins C dx (putF "content" (.ref a) [])) S = some (.ins C dx (putF "content" (.ref a) [])) := upd_same
    refine ⟨_, rfl, a, _, _, _, rfl, rfl, tp.sqt hq, rfl, _, rfl, S, C, dx, _, rfl, e4, TC.cl, TC.nG, (by show 1 < 1000; decide), ?_⟩
    have tp2 : Tps (upd H3 S (.ins C dx (putF "content" (.ref a) []))) (upd (upd H3 S (.ins C dx (putF "content" (.ref a) []))) S (.ins C dx (putF "globals" x (putF "content" (.ref a) [])))) := Tps.ins e4
    refine h _ ⟨dx, .ref a, x, ?_, (hv4.tps tp (noL_tr t)).tps tp2 (noL_tr t), (hx.tps tp (noL_nm _)).tps tp2 (noL_nm _)⟩ fun b o z hb => ?_
    · rw [upd_same]
      kernel_rfl
    · rw [upd_ne hb, upd_ne hb]
      exact s4 _ _ z
end

/-! ### k08: the law's own look at the form of a tree -/
abbrev sQWd : Stmt := topS 76
abbrev NQWd : List Str := ["_law_value", "_law_keywords", "_law_letters", "_law_char"]
abbrev PQWd : List Str := ["_law_value"]
theorem scQWd : FnScope NQWd PQWd (defScope sQWd) := ⟨rfl, rfl, rfl, by decide +kernel, rfl, by decide +kernel, by decide +kernel⟩
abbrev sQAn : Stmt := topS 75
abbrev NQAn : List Str := ["_law_value", "_law_one"]
abbrev PQAn : List Str := ["_law_value"]
theorem scQAn : FnScope NQAn PQAn (defScope sQAn) := ⟨rfl, rfl, rfl, by decide +kernel, rfl, by decide +kernel, by decide +kernel⟩
abbrev sQSm : Stmt := topS 77
abbrev NQSm : List Str := ["_law_value", "_law_last", "_law_term"]
abbrev PQSm : List Str := ["_law_value"]
theorem scQSm : FnScope NQSm PQSm (defScope sQSm) := ⟨rfl, rfl, rfl, by decide +kernel, rfl, by decide +kernel, by decide +kernel⟩
abbrev sQAg : Stmt := topS 78
abbrev NQAg : List Str := ["_law_value", "_law_one"]
abbrev PQAg : List Str := ["_law_value"]
theorem scQAg : FnScope NQAg PQAg (defScope sQAg) := ⟨rfl, rfl, rfl, by decide +kernel, rfl, by decide +kernel, by decide +kernel⟩
abbrev sQCl : Stmt := topS 79
abbrev NQCl : List Str := ["_law_value"]
abbrev PQCl : List Str := ["_law_value"]
theorem scQCl : FnScope NQCl PQCl (defScope sQCl) := ⟨rfl, rfl, rfl, by decide +kernel, rfl, by decide +kernel, by decide +kernel⟩
abbrev sQHd : Stmt := topS 80
abbrev NQHd : List Str := ["_law_value", "_law_one"]
abbrev PQHd : List Str := ["_law_value"]
theorem scQHd : FnScope NQHd PQHd (defScope sQHd) := ⟨rfl, rfl, rfl, by decide +kernel, rfl, by decide +kernel, by decide +kernel⟩
abbrev sQBl : Stmt := topS 81
abbrev NQBl : List Str := ["_law_value", "_law_one"]
abbrev PQBl : List Str := ["_law_value"]
theorem scQBl : FnScope NQBl PQBl (defScope sQBl) := ⟨rfl, rfl, rfl, by decide +kernel, rfl, by decide +kernel, by decide +kernel⟩
abbrev sQSt : Stmt := topS 82
abbrev NQSt : List Str := ["_law_value", "_law_word", "_law_sizes", "_law_is_right", "_law_part"]
abbrev PQSt : List Str := ["_law_value"]
theorem scQSt : FnScope NQSt PQSt (defScope sQSt) := ⟨rfl, rfl, rfl, by decide +kernel, rfl, by decide +kernel, by decide +kernel⟩
abbrev sQFn : Stmt := topS 83
abbrev NQFn : List Str := ["_law_value", "_law_one"]
abbrev PQFn : List Str := ["_law_value"]
theorem scQFn : FnScope NQFn PQFn (defScope sQFn) := ⟨rfl, rfl, rfl, by decide +kernel, rfl, by decide +kernel, by decide +kernel⟩
abbrev sQTr : Stmt := topS 84
abbrev NQTr : List Str := ["_law_value", "_law_keep", "_law_one"]
abbrev PQTr : List Str := ["_law_value"]
theorem scQTr : FnScope NQTr PQTr (defScope sQTr) := ⟨rfl, rfl, rfl, by decide +kernel, rfl, by decide +kernel, by decide +kernel⟩
structure TxQ (mg : Str → Option Value) : Prop where
  n_isinstance : mg "isinstance" = none
  n_tuple : mg "tuple" = none
  n_str : mg "str" = none
  n_bool : mg "bool" = none
  n_int : mg "int" = none
  n_len : mg "len" = none
  n_all : mg "all" = none
  n_list : mg "list" = none
theorem units65 {k : Nat} {A : Around} (r : Room k A) : A.units + 65 < cLine := by have := r.un; omega
section
open PyProof.Rows
variable {X : Cx}
/-- a if c else b, tested -/
def tIfB (tc ta tb : TT) : TT := fun σ H Q => tc σ H fun c H1 => if c = true then ta σ H1 Q else tb σ H1 Q
theorem pt_ifExp {c a b : Expr} {pos : Pos} {tc ta tb : TT} (hc : PT X c tc) (ha : PT X a ta) (hb : PT X b tb) : PT X (.IfExp c a b pos) (tIfB tc ta tb) := by
  refine ⟨fun pins s σ H Q I h => ?_⟩
  refine isTrue_IfExp (thn (hc.run pins s σ H _ I h) fun d s1 ⟨H1, I1, q1⟩ => ?_)
  cases d with
  | true => exact ha.run pins s1 σ H1 Q I1 q1
  | false => exact hb.run pins s1 σ H1 Q I1 q1
end
def argsB : PyData → Bool
  | .tuple l => l.all argB
  | _ => false
def spQWd (K : PySem.W.Frag) : Sp := fun vs H Q _ => ∃ (v : V) (d : PyData), vs = [v] ∧ Dp K H v d ∧ GD 60 d ∧ ∀ H', Same H H' → Q (.bl (nameD d)) H'
def spQAg (K : PySem.W.Frag) : Sp := fun vs H Q _ => ∃ (v : V) (d : PyData), vs = [v] ∧ Dp K H v d ∧ GD 60 d ∧ ∀ H', Same H H' → Q (.bl (argsB d)) H'
def spQHd (K : PySem.W.Frag) (n : Nat) : Sp := fun vs H Q _ => ∃ (v : V) (d : PyData), vs = [v] ∧ Dp K H v d ∧ GD 60 d ∧ d.depth + 1 ≤ 2 * n ∧ ∀ H', Same H H' → Q (.bl (hdsB (blkB n) d)) H'
def spQBl (K : PySem.W.Frag) (n : Nat) : Sp := fun vs H Q _ => ∃ (v : V) (d : PyData), vs = [v] ∧ Dp K H v d ∧ GD 60 d ∧ d.depth + 1 ≤ 2 * n ∧ ∀ H', Same H H' → Q (.bl (blkB n d)) H'
def spQSt (K : PySem.W.Frag) (n : Nat) : Sp := fun vs H Q _ => ∃ (v : V) (d : PyData), vs = [v] ∧ Dp K H v d ∧ GD 60 d ∧ d.depth ≤ 2 * n ∧ ∀ H', Same H H' → Q (.bl (stmB (blkB n) d)) H'
theorem dep_mem {l : List PyData} {d : PyData} (h : d ∈ l) : d.depth + 1 ≤ (PyData.tuple l).depth := by
  simp only [PyData.depth]
  have := depthAll_le h
  omega
theorem len1D {α : Type} {l : List α} (h : l.length = 1) : ∃ a, l = [a] := by
  match l, h with
  | [a], _ => exact ⟨_, rfl⟩
theorem g2 {w : PyData} {x y z : PyData} (gy : GD 59 y) (gz : GD 59 z) (gd : GD 60 (.tuple [w, x, y, z])) : GD 60 (.tuple [y, z]) := gy.two gz (by
  have h3 : 1 + (ndD w + (ndD x + (ndD y + (ndD z + 0)))) ≤ 20000 := gd.c
  have := nd_pos w
  have := nd_pos x
  omega)
def kD1 : List (Key × V) := [(.inr "set", .int 3), (.inr "input", .int 2), (.inr "call", .int 4), (.inr "if", .int 3), (.inr "while", .int 2), (.inr "risk", .int 2), (.inr "raise", .int 2), (.inr "try", .int 4), (.inr "undo", .int 3)]
def kD2 : List (Key × V) := [(.inr "with", .int 5), (.inr "return", .int 2)]
theorem al_eq (c : Nat) : decide (c ∈ ((LET ++ DIG : Str)).cps.toList) = al c := by
  unfold al
  have e : (LET ++ DIG : Str).cps.toList = LET.cps.toList ++ DIG.cps.toList := by
    show (LET.cps ++ DIG.cps).toList = _
    simp
  rw [e]
  simp
theorem ascL_pre : ∀ {l r : List Str}, ascL (l ++ r) = true → ascL l = true
  | [], _, _ => rfl
  | [x], _, _ => rfl
  | x :: y :: l, r, h => by
    have h : (decide (x.cps.toList < y.cps.toList) && ascL ((y :: l) ++ r)) = true := h
    rw [Bool.and_eq_true] at h
    show (decide (x.cps.toList < y.cps.toList) && ascL (y :: l)) = true
    rw [h.1, ascL_pre h.2]
    rfl
def lastN (l : List Str) : Str := l.getLast?.getD ""
theorem ascL_snoc : ∀ {l : List Str} {x : Str}, ("" : Str).cps.toList < x.cps.toList → ascL (l ++ [x]) = (ascL l && decide ((lastN l).cps.toList < x.cps.toList))
  | [], x, h => by
    show true = (true && decide (("" : Str).cps.toList < x.cps.toList))
    rw [decide_eq_true h]
    rfl
  | [y], x, h => by
    show (decide (y.cps.toList < x.cps.toList) && true) = (true && decide (y.cps.toList < x.cps.toList))
    rw [Bool.and_true, Bool.true_and]
  | y :: z :: l, x, h => by
    have ih := ascL_snoc (l := z :: l) h
    show (decide (y.cps.toList < z.cps.toList) && ascL ((z :: l) ++ [x])) = ((decide (y.cps.toList < z.cps.toList) && ascL (z :: l)) && _)
    rw [ih, Bool.and_assoc]
    rfl
theorem lastN_snoc (l : List Str) (x : Str) : lastN (l ++ [x]) = x := by unfold lastN; rw [List.getLast?_append]; rfl
theorem name_pos {z : Str} (h : isName z = true) : ("" : Str).cps.toList < z.cps.toList := by
  cases e : z.cps.toList with
  | nil => rw [isName_nil e] at h; cases h
  | cons a r => exact List.nil_lt_cons a r
section
variable {P : Program} {w : World} {K : PySem.W.Frag} {mg : Str → Option Value} {base : Heap}
theorem ok_QWd {f : Addr} {fd : FuncData} (F : Fun K "_law_is_word" "_law_is_word" sQWd f fd) (T : TxQ mg) : FnOk P w K mg base CX0 1 f fd PQWd (spQWd K) := by
  refine F.ok scQWd (fun vs H Q E h => ?_) (fun cdv A outer s H vs Q E hr h => ?_)
  · obtain ⟨v, d, rfl, _⟩ := h
    rfl
  · obtain ⟨v, d, rfl, hv, gd, k⟩ := h
    refine ⟨_, (pss_cons (ps_set (i := 1) scQWd.nd rfl (Or.inl rfl) (pe_lst (pa_cons pe_str (pa_cons pe_str (pa_cons pe_str (pa_cons pe_str (pa_cons pe_str (pa_cons pe_str (pa_cons pe_str (pa_cons pe_str (pa_cons pe_str (pa_cons pe_str (pa_cons pe_str (pa_cons pe_str pa_nil))))))))))))))
  (pss_cons (ps_if (PW.pt (pw_or (pt_not (pt_val (pe_callB call_isi (by rfl) T.n_isinstance bb_isinstance (pa_cons (pv 0) (pa_cons (pe_bltn (v := .ty "str") (by rfl) T.n_str bb_str rfl) pa_nil))))) (pw_or (pt_cmpR op_eq (pv 0) pe_str (nomark _)) (pw_or1 (pt_cmpR op_in_seq (pv 0) (pe_op op_cat (pv 1) (pe_lst (pa_cons pe_str (pa_cons pe_str (pa_cons pe_str (pa_cons pe_str pa_nil)))))) (by rfl))))))
  (pss_one (ps_ret pe_bl))
  pss_nil)
  (pss_cons (ps_set (i := 2) scQWd.nd rfl (Or.inr rfl) pe_str)
  (pss_one (ps_ret (pe_and (pe_cmpR op_in_sign (pe_ix ix_str (pv 0) pe_int (fun _ _ => rfl)) (pv 2) (by rfl)) (pe_one (pe_callB (cr_all rfl) (by rfl) T.n_all bb_all (pa_cons (pe_lc (own := [("_law_char", 3)]) (g := gName 3) (tt := tYes) rfl scQWd.nd (pi_str (pv 0)) (blkOk_by (own := [("_law_char", 3)]) (N := NQWd) (sc := (defScope sQWd)) (by decide +kernel)) (fun _ _ _ _ _ => (pg_name (i := 3) scQWd.nd rfl (Or.inl rfl))) (fun _ _ _ _ _ => pts_nil) (fun _ _ _ _ _ => (pe_cmpR op_in_sign (pv 3) (pe_op op_add_str (pv 2) pe_str) (by rfl)))) pa_nil))))))))), ?_⟩
    refine ⟨(by show 12 ≤ sizeLine; decide), fun kq hkq => ?_⟩
    have s0 := same_new (o := .lst [.str "globals", .str "kinds", .str "keep", .str "def", .str "if", .str "else", .str "while", .str "risk", .str "raise", .str "try", .str "except", .str "finally"]) hkq
    have ekq : upd H kq (.lst [.str "globals", .str "kinds", .str "keep", .str "def", .str "if", .str "else", .str "while", .str "risk", .str "raise", .str "try", .str "except", .str "finally"]) kq = some (.lst [.str "globals", .str "kinds", .str "keep", .str "def", .str "if", .str "else", .str "while", .str "risk", .str "raise", .str "try", .str "except", .str "finally"]) := upd_same
    have hv := hv.same s0
    generalize upd H kq (.lst [.str "globals", .str "kinds", .str "keep", .str "def", .str "if", .str "else", .str "while", .str "risk", .str "raise", .str "try", .str "except", .str "finally"]) = H0 at *
    obtain ⟨t, ty, _, k2, _⟩ := dpT hv
    refine ⟨_, rfl, _, _, _, _, _, rfl, .ty _, ty, k2, _, rfl, ?_⟩
    cases hsx : isStrD d with
    | false =>
      have : nameD d = false := by cases d <;> first | rfl | cases hsx
      rw [this] at k
      exact iteS rfl (iteS rfl (k _ s0))
    | true =>
    obtain ⟨z, rfl⟩ : ∃ z, d = .str z := by cases d <;> first | exact ⟨_, rfl⟩ | cases hsx
    have hz := gd.strLen
    cases hv
    refine iteE rfl ?_
    have k : ∀ H', Same H H' → Q (.bl (isName z)) H' := k
    refine ⟨_, rfl, rfl, _, rfl, ite2 (fun he => ?_) (fun he => ?_)⟩
    · have e := str_empty_iff.mp (of_decide_eq_true he)
      rw [isName_nil e] at k
      exact k _ s0
    · have hne : z.cps.toList ≠ [] := fun e => he (decide_eq_true (str_empty_iff.mpr e))
      obtain ⟨c, hc⟩ : ∃ c, z.cps.toList[0]? = some c := by
        cases e : z.cps.toList with
        | nil => exact absurd e hne
        | cons a r => exact ⟨a, rfl⟩
      rw [isName_at hc] at k
      refine ⟨_, rfl, _, rfl, (by show 4 ≤ sizeLine; decide), fun r4 hr4 => ?_⟩
      have s1 := same_new (o := .lst [.str "undo", .str "with", .str "swallow", .str "return"]) hr4
      refine ⟨kq, r4, _, _, rfl, rfl, s1 _ _ ekq, upd_same, (by show 16 ≤ sizeLine; decide), fun p hp => ?_⟩
      have s2 := same_new (o := .lst (([.str "globals", .str "kinds", .str "keep", .str "def", .str "if", .str "else", .str "while", .str "risk", .str "raise", .str "try", .str "except", .str "finally"] : List V) ++ [.str "undo", .str "with", .str "swallow", .str "return"])) hp
      have s02 := (s0.trans s1).trans s2
      have ep : upd (upd H0 r4 (.lst [.str "undo", .str "with", .str "swallow", .str "return"])) p (.lst (([.str "globals", .str "kinds", .str "keep", .str "def", .str "if", .str "else", .str "while", .str "risk", .str "raise", .str "try", .str "except", .str "finally"] : List V) ++ [.str "undo", .str "with", .str "swallow", .str "return"])) p = some (.lst (KWS.map V.str)) := by rw [upd_same]; rfl
      refine ⟨p, KWS.map V.str, rfl, .inl (SqL.of ep), rfl, by decide +kernel, _, rfl, ite2 (fun hk => ?_) (fun hk => ?_)⟩
      · have hk : inV (.str z) (KWS.map V.str) = true := hk
        rw [hk, Bool.not_true, Bool.and_false] at k
        exact k _ s02
      · have hk : inV (.str z) (KWS.map V.str) = false := by
          have h : ¬ inV (.str z) (KWS.map V.str) = true := hk
          simpa using h
        rw [hk, Bool.not_false, Bool.and_true] at k
        generalize upd (upd H0 r4 (.lst [.str "undo", .str "with", .str "swallow", .str "return"])) p (.lst (([.str "globals", .str "kinds", .str "keep", .str "def", .str "if", .str "else", .str "while", .str "risk", .str "raise", .str "try", .str "except", .str "finally"] : List V) ++ [.str "undo", .str "with", .str "swallow", .str "return"])) = H1 at *
        refine ⟨_, rfl, z, 0, c, rfl, rfl, Nat.le_trans hz (by decide), atI_nat (j := 0) hc, _, rfl, c, _, rfl, rfl, _, rfl, ite2 (fun hl => ?_) (fun hl => ?_)⟩
        · have hl : decide (c ∈ LET.cps.toList) = true := hl
          rw [hl, Bool.true_and] at k
          refine ⟨_, rfl, z, rfl, fun D hD => lc_it (walk_str (z := z)) (fun i H' => Same H1 H' ∧ H' D = some (.lst (((z.cps.toList.take i).map al).map V.bl))) ⟨same_new hD, upd_same⟩ (fun _ _ _ _ => trivial) ?_ ?_⟩
          · rintro i x H2 H3 hi ⟨s2, e2⟩ ⟨rfl, d, hd, rfl⟩
            have hd' : z.cps.toList[i]? = some d := by rw [Array.getElem?_toList]; exact hd
            refine ⟨rfl, _, rfl, _, rfl, _, _, rfl, rfl, (by decide +kernel), d, _, rfl, rfl, _, e2, ?_, fun b o e => ?_, ?_⟩
            · refine small1000 ?_
              rw [List.length_map, List.length_map, List.length_take, Array.length_toList]
              have : z.cps.size ≤ 1000 := hz
              omega
            · rw [upd_ne (ne_of_none e hD)]
              exact s2 b o e
            · rw [upd_same, take_snoc hd', List.map_append, List.map_append]
              show some (HO.lst (_ ++ [V.bl (decide (d ∈ ((LET ++ DIG : Str)).cps.toList))])) = some (HO.lst (_ ++ [V.bl (al d)]))
              rw [al_eq]
          · rintro H2 ⟨s2, e2⟩
            rw [show z.cps.size = z.cps.toList.length from Array.length_toList.symm, List.take_length] at e2
            refine ⟨D, _, rfl, SqL.of e2, ?_⟩
            rw [List.all_map]
            exact k _ (s02.trans s2)
        · have hl : decide (c ∈ LET.cps.toList) = false := by
            have h : ¬ decide (c ∈ LET.cps.toList) = true := hl
            simpa using h
          rw [hl] at k
          exact k _ s02
theorem ok_QAn {f : Addr} {fd : FuncData} (F : Fun K "_law_all_names" "_law_all_names" sQAn f fd) (T : TxQ mg) (GN : Has P w K mg base CX0 1 "_law_is_word" PQWd (spQWd K)) : FnOk P w K mg base CX0 2 f fd PQAn (spRowB K) := by
  refine F.ok scQAn (fun vs H Q E h => ?_) (fun cdv A outer s H vs Q E hr h => ?_)
  · obtain ⟨v, ns, rfl, _⟩ := h
    rfl
  · obtain ⟨v, d, rfl, hv, gd, k⟩ := h
    refine ⟨_, (pss_one (ps_ret (pe_and (pe_callB call_isi (by rfl) T.n_isinstance bb_isinstance (pa_cons (pv 0) (pa_cons (pe_bltn (v := .ty "tuple") (by rfl) T.n_tuple bb_tuple rfl) pa_nil))) (pe_one (pe_callB (cr_all rfl) (by rfl) T.n_all bb_all (pa_cons (pe_lc (own := [("_law_one", 1)]) (g := gName 1) (tt := tYes) rfl scQAn.nd (pi_tup (pv 0)) (blkOk_by (own := [("_law_one", 1)]) (N := NQAn) (sc := (defScope sQAn)) (by decide +kernel)) (fun _ _ _ _ _ => (pg_name (i := 1) scQAn.nd rfl (Or.inl rfl))) (fun _ _ _ _ _ => pts_nil) (fun _ _ _ _ _ => (pe_callH GN hr rfl pass0 (pa_cons (pv 1) pa_nil)))) pa_nil)))))), ?_⟩
    obtain ⟨t, ty, k1, _⟩ := dpT hv
    refine ⟨_, rfl, _, _, _, _, _, rfl, .ty _, ty, k1, _, rfl, ?_⟩
    rcases tupCases d with e | ⟨l, rfl⟩
    · rw [e]
      have : rowD d = false := by cases d <;> first | rfl | cases e
      rw [this] at k
      exact iteE rfl (k _ (Same.refl _))
    obtain ⟨a, xs, rfl, hq, hd⟩ := hv.tupInv
    have ll := gd.len
    have lx := hd.len
    refine iteS rfl ⟨_, rfl, a, rfl, ⟨_, hq⟩, fun D hD => ?_⟩
    refine lc_tup (K := K) (a := a) (xs := xs) (fun i H' => Same H H' ∧ H' D = some (.lst (((l.take i).map nameD).map V.bl))) ⟨same_new hD, upd_same⟩ (fun i H' _ h' => SqT.same h'.1 hq) ?_ ?_
    · rintro i v H1 hx ⟨s1, e1⟩
      obtain ⟨z, hz, hzd⟩ := hd.at hx
      have hi : i < xs.length := (List.getElem?_eq_some_iff.mp hx).1
      refine ⟨rfl, _, rfl, v, z, rfl, hzd.same s1, (gd.mem (List.mem_of_getElem? hz)).mono (by decide), fun H2 s2 => ?_⟩
      refine ⟨_, s2 _ _ e1, smallX (by rw [List.length_map, List.length_map, List.length_take]; omega), fun c o e => ?_, ?_⟩
      · rw [upd_ne (ne_of_none e hD)]
        exact s2 _ _ (s1 _ _ e)
      · rw [upd_same, take_snoc hz, List.map_append, List.map_append]
        rfl
    · rintro H1 ⟨s1, e1⟩
      rw [lx, List.take_length] at e1
      refine ⟨D, _, rfl, SqL.of e1, ?_⟩
      rw [all_map_id]
      exact k _ s1
theorem ok_QSm {f : Addr} {fd : FuncData} (F : Fun K "_law_is_sum" "_law_is_sum" sQSm f fd) (T : TxQ mg) (GN : Has P w K mg base CX0 1 "_law_is_word" PQWd (spQWd K)) : FnOk P w K mg base CX0 2 f fd PQSm (spExpB K) := by
  refine F.ok scQSm (fun vs H Q E h => ?_) (fun cdv A outer s H vs Q E hr h => ?_)
  · obtain ⟨v, ns, rfl, _⟩ := h
    rfl
  · obtain ⟨v, d, rfl, hv, gd, k⟩ := h
    refine ⟨_, (pss_cons (ps_if (PW.pt (pw_or (pt_not (pt_val (pe_callB call_isi (by rfl) T.n_isinstance bb_isinstance (pa_cons (pv 0) (pa_cons (pe_bltn (v := .ty "tuple") (by rfl) T.n_tuple bb_tuple rfl) pa_nil))))) (pw_or (pt_cmpR op_ne (pe_callB call_len_seq (by rfl) T.n_len bb_len (pa_cons (pv 0) pa_nil)) pe_int (nomark _)) (pw_or1 (pt_not (pt_val (pe_callB call_isi (by rfl) T.n_isinstance bb_isinstance (pa_cons (pe_ix (r := rIxT K) ix_tup (pv 0) pe_int (fun _ _ => rfl)) (pa_cons (pe_bltn (v := .ty "tuple") (by rfl) T.n_tuple bb_tuple rfl) pa_nil)))))))))
  (pss_one (ps_ret pe_bl))
  pss_nil)
  (pss_cons (ps_if (PW.pt (pw_or (pt_val (pe_callB call_isi (by rfl) T.n_isinstance bb_isinstance (pa_cons (pe_ix (r := rIxT K) ix_tup (pv 0) pe_int (fun _ _ => rfl)) (pa_cons (pe_bltn (v := .ty "bool") (by rfl) T.n_bool bb_bool rfl) pa_nil)))) (pw_or1 (pt_not (pt_val (pe_callB call_isi (by rfl) T.n_isinstance bb_isinstance (pa_cons (pe_ix (r := rIxT K) ix_tup (pv 0) pe_int (fun _ _ => rfl)) (pa_cons (pe_bltn (v := .ty "int") (by rfl) T.n_int bb_int rfl) pa_nil))))))))
  (pss_one (ps_ret pe_bl))
  pss_nil)
  (pss_cons (ps_set (i := 1) scQSm.nd rfl (Or.inl rfl) pe_str)
  (pss_cons (ps_for PassesOwn.never rfl (pi_tup (pe_ix (r := rIxT K) ix_tup (pv 0) pe_int (fun _ _ => rfl))) (pg_name (i := 2) scQSm.nd rfl (Or.inl rfl))
  (pss_cons (ps_if (PW.pt (pw_or (pt_not (pt_val (pe_callB call_isi (by rfl) T.n_isinstance bb_isinstance (pa_cons (pv 2) (pa_cons (pe_bltn (v := .ty "tuple") (by rfl) T.n_tuple bb_tuple rfl) pa_nil))))) (pw_or (pt_cmpR op_ne (pe_callB call_len_seq (by rfl) T.n_len bb_len (pa_cons (pv 2) pa_nil)) pe_int (nomark _)) (pw_or (pt_not (pt_val (pe_callH GN hr rfl pass0 (pa_cons (pe_ix (r := rIxT K) ix_tup (pv 2) pe_int (fun _ _ => rfl)) pa_nil)))) (pw_or1 (pt_not (pt_cmpR op_lt_str (pv 1) (pe_ix (r := rIxT K) ix_tup (pv 2) pe_int (fun _ _ => rfl)) (nomark _))))))))
  (pss_one (ps_ret pe_bl))
  pss_nil)
  (pss_cons (ps_if (PW.pt (pw_or (pt_val (pe_callB call_isi (by rfl) T.n_isinstance bb_isinstance (pa_cons (pe_ix (r := rIxT K) ix_tup (pv 2) pe_int (fun _ _ => rfl)) (pa_cons (pe_bltn (v := .ty "bool") (by rfl) T.n_bool bb_bool rfl) pa_nil)))) (pw_or (pt_not (pt_val (pe_callB call_isi (by rfl) T.n_isinstance bb_isinstance (pa_cons (pe_ix (r := rIxT K) ix_tup (pv 2) pe_int (fun _ _ => rfl)) (pa_cons (pe_bltn (v := .ty "int") (by rfl) T.n_int bb_int rfl) pa_nil))))) (pw_or1 (pt_cmpR op_eq (pe_ix (r := rIxT K) ix_tup (pv 2) pe_int (fun _ _ => rfl)) pe_int (nomark _))))))
  (pss_one (ps_ret pe_bl))
  pss_nil)
  (pss_one (ps_set (i := 1) scQSm.nd rfl (Or.inl rfl) (pe_ix (r := rIxT K) ix_tup (pv 2) pe_int (fun _ _ => rfl)))))))
  (pss_one (ps_ret pe_bl)))))), ?_⟩
    obtain ⟨t, ty, k1, _⟩ := dpT hv
    refine ⟨_, rfl, _, _, _, _, _, rfl, .ty _, ty, k1, _, rfl, ?_⟩
    rcases tupCases d with e | ⟨l, rfl⟩
    · rw [e]
      have : exprD d = false := by cases d <;> first | rfl | cases e
      rw [this] at k
      exact iteS rfl (iteS rfl (k _ (Same.refl _)))
    refine iteE rfl ?_
    obtain ⟨a, xs, rfl, hq, hd⟩ := hv.tupInv
    have lx := hd.len
    by_cases ll : l.length = 2
    case neg =>
      have : exprD (.tuple l) = false := by
        unfold exprD
        split
        · rename_i e; cases e; exact absurd rfl ll
        · rfl
      rw [this] at k
      refine ⟨_, rfl, a, _, rfl, .inr hq, rfl, _, rfl, iteS ?_ (iteS rfl (k _ (Same.refl _)))⟩
      rw [lx]
      exact (Bool.not_eq_true' _).mpr (decide_eq_false fun z => ll (by have := V.int.inj z; omega))
    refine ⟨_, rfl, a, _, rfl, .inr hq, rfl, _, rfl, iteE (by rw [lx, ll]; decide +kernel) ?_⟩
    obtain ⟨x, y, rfl⟩ := len2D ll
    obtain ⟨vx, vy, rfl, hx, hy⟩ := hd.two
    have gx : GD 59 x := gd.mem List.mem_cons_self
    have gy : GD 59 y := gd.mem (by simp)
    obtain ⟨t1, ty1, k11, _⟩ := dpT hy
    refine ⟨_, rfl, a, _, _, _, rfl, rfl, hq, rfl, _, _, _, _, _, rfl, .ty _, ty1, k11, _, rfl, ?_⟩
    rcases tupCases y with e | ⟨ts, rfl⟩
    · have : exprD (.tuple [x, y]) = false := by cases x <;> first | rfl | (cases y <;> first | rfl | cases e)
      rw [this] at k
      rw [e]
      exact iteS rfl (k _ (Same.refl _))
    refine iteE rfl ?_
    obtain ⟨t2, ty2, _, _, k32, k42⟩ := dpT hx
    refine ⟨_, rfl, a, _, _, _, rfl, rfl, hq, rfl, _, _, _, _, _, rfl, .ty _, ty2, k32, _, rfl, ?_⟩
    have exn : inD x = false → exprD (.tuple [x, .tuple ts]) = false := fun e => by cases x <;> first | rfl | cases e
    cases hbx : isBoolD x with
    | true =>
      rw [exn (by cases x <;> first | rfl | cases hbx)] at k
      exact iteS rfl (iteS rfl (k _ (Same.refl _)))
    | false =>
    refine iteE rfl ?_
    refine ⟨_, rfl, a, _, _, _, rfl, rfl, hq, rfl, _, _, _, _, _, rfl, .ty _, ty2, k42, _, rfl, ?_⟩
    cases hix : isIntD x with
    | false =>
      rw [exn (by cases x <;> first | rfl | cases hix)] at k
      exact iteS rfl (k _ (Same.refl _))
    | true =>
    obtain ⟨c, rfl⟩ : ∃ c, x = .int c := by cases x <;> first | exact ⟨_, rfl⟩ | (cases hbx; done) | (cases hix; done)
    refine iteE rfl ?_
    obtain ⟨b, ys, rfl, hb, hyd⟩ := hy.tupInv
    have lt := gy.len
    have ly := hyd.len
    have no : ∀ t ∈ ts, termD t = false → exprD (.tuple [.int c, .tuple ts]) = false := fun t ht e => expr_no ht e
    have k : ∀ H', Same H H' → Q (.bl (exprD (.tuple [.int c, .tuple ts]))) H' := k
    refine ⟨_, rfl, a, _, _, _, rfl, rfl, hq, rfl, b, rfl, ⟨_, hb⟩, ?_⟩
    refine for_tup (K := K) (a := b) (xs := ys) (fun i σ H' => Same H H' ∧ (∃ x2 : Option V, σ = [some (.ref a), some (.str (lastN ((ts.take i).map nmOf))), x2]) ∧ (∀ t ∈ ts.take i, termD t = true) ∧ ascL ((ts.take i).map nmOf) = true) ⟨Same.refl _, ⟨_, rfl⟩, (fun _ z => by cases z), rfl⟩ (fun i σ H' _ h' => SqT.same h'.1 hb) ?_ ?_
    · rintro i z σ H1 hz ⟨s1, ⟨x2, rfl⟩, al, asc⟩
      obtain ⟨t, ht, htd⟩ := hyd.at hz
      have mt := List.mem_of_getElem? ht
      have gt : GD 58 t := gy.mem mt
      have ret : termD t = false → ∀ H', Same H H' → Q (.bl false) H' := fun e H' s' => by
        have := k _ s'
        rwa [no t mt e] at this
      obtain ⟨t1, ty1, k11, _⟩ := dpT (htd.same s1)
      refine ⟨_, rfl, _, _, _, _, _, rfl, .ty _, ty1, k11, _, rfl, ?_⟩
      rcases tupCases t with e | ⟨l, rfl⟩
      · rw [e]
        exact iteS rfl (iteS rfl (ret (by cases t <;> first | rfl | cases e) _ s1))
      refine iteE rfl ?_
      obtain ⟨e, zs, rfl, he, hed⟩ := htd.tupInv
      have lz := hed.len
      by_cases ll : l.length = 2
      case neg =>
        refine ⟨_, rfl, e, _, rfl, .inr (SqT.same s1 he), rfl, _, rfl, iteS ?_ (iteS rfl (ret ?_ _ s1))⟩
        · rw [lz]
          exact (Bool.not_eq_true' _).mpr (decide_eq_false fun z => ll (by have := V.int.inj z; omega))
        · unfold termD
          split
          · rename_i e; cases e; exact absurd rfl ll
          · rfl
      refine ⟨_, rfl, e, _, rfl, .inr (SqT.same s1 he), rfl, _, rfl, iteE (by rw [lz, ll]; decide +kernel) ?_⟩
      obtain ⟨p, q, rfl⟩ := len2D ll
      obtain ⟨vp, vq, rfl, dp, dq⟩ := hed.two
      have gp : GD 57 p := gt.mem List.mem_cons_self
      refine ⟨_, rfl, e, _, _, _, rfl, rfl, SqT.same s1 he, rfl, vp, p, rfl, dp.same s1, gp.mono (by decide), fun H2 s2 => ⟨_, rfl, ?_⟩⟩
      have s12 := s1.trans s2
      cases hnp : nameD p with
      | false => exact iteS rfl (iteS rfl (ret (term_no1 hnp) _ s12))
      | true =>
      obtain ⟨zn, rfl, hzn⟩ := name_str hnp
      rw [dp.strInv] at he
      refine iteE rfl ?_
      have step : termD (.tuple [.str zn, q]) = true → ascL ((ts.take (i + 1)).map nmOf) = (ascL ((ts.take i).map nmOf) && decide ((lastN ((ts.take i).map nmOf)).cps.toList < zn.cps.toList)) := fun _ => by
        rw [take_snoc ht, List.map_append]
        exact ascL_snoc (name_pos hzn)
      refine ⟨_, rfl, _, rfl, e, _, _, _, rfl, rfl, SqT.same s12 he, rfl, _, _, rfl, rfl, _, rfl, ite2 (fun hlt => ?_) (fun hlt => ?_)⟩
      · -- not in order
        have hlt : decide ((lastN ((ts.take i).map nmOf)).cps.toList < zn.cps.toList) = false := by simpa using hlt
        have : exprD (.tuple [.int c, .tuple ts]) = false := by
          show (ts.all termD && ascL (ts.map nmOf)) = false
          have e2 : ascL (ts.map nmOf) = false := by
            refine Bool.eq_false_iff.mpr fun h => ?_
            have h2 : ascL ((ts.take (i + 1)).map nmOf) = true := ascL_pre (r := (ts.drop (i + 1)).map nmOf) (by rw [← List.map_append, List.take_append_drop]; exact h)
            rw [take_snoc ht, List.map_append] at h2
            have h3 := ascL_snoc (l := (ts.take i).map nmOf) (x := zn) (name_pos hzn)
            rw [show [PyData.tuple [.str zn, q]].map nmOf = [zn] from rfl] at h2
            rw [h3, hlt, Bool.and_false] at h2
            cases h2
          rw [e2, Bool.and_false]
        rw [this] at k
        exact k _ s12
      have hlt : decide ((lastN ((ts.take i).map nmOf)).cps.toList < zn.cps.toList) = true := by simpa using hlt
      obtain ⟨t2, ty2, _, _, k32, k42⟩ := dpT (dq.same s12)
      have tn : inD q = false → termD (.tuple [.str zn, q]) = false := term_no2
      refine ⟨_, rfl, e, _, _, _, rfl, rfl, SqT.same s12 he, rfl, _, _, _, _, _, rfl, .ty _, ty2, k32, _, rfl, ?_⟩
      cases hbq : isBoolD q with
      | true => exact iteS rfl (iteS rfl (ret (tn (by cases q <;> first | rfl | cases hbq)) _ s12))
      | false =>
      refine iteE rfl ?_
      refine ⟨_, rfl, e, _, _, _, rfl, rfl, SqT.same s12 he, rfl, _, _, _, _, _, rfl, .ty _, ty2, k42, _, rfl, ?_⟩
      cases hiq : isIntD q with
      | false => exact iteS rfl (iteS rfl (ret (tn (by cases q <;> first | rfl | cases hiq)) _ s12))
      | true =>
      obtain ⟨m, rfl⟩ : ∃ c, q = .int c := by cases q <;> first | exact ⟨_, rfl⟩ | (cases hbq; done) | (cases hiq; done)
      rw [dq.intInv] at he
      refine iteE rfl ?_
      refine ⟨_, rfl, e, _, _, _, rfl, rfl, SqT.same s12 he, rfl, rfl, _, rfl, ite2 (fun hc => ?_) (fun hc => ?_)⟩
      · have hm : m = 0 := V.int.inj (of_decide_eq_true hc)
        exact ret (by show (isName zn && !decide (m = 0)) = false; rw [hm]; simp) _ s12
      · have hm : m ≠ 0 := fun z => hc (decide_eq_true (by rw [z]))
        have tt : termD (.tuple [.str zn, .int m]) = true := by
          show (isName zn && !decide (m = 0)) = true
          rw [hzn, decide_eq_false hm]
          rfl
        refine ⟨_, rfl, e, _, _, _, rfl, rfl, SqT.same s12 he, rfl, s12, ⟨some (.ref e), ?_⟩, fun u hu => ?_, ?_⟩
        · rw [take_snoc ht, List.map_append, show [PyData.tuple [.str zn, .int m]].map nmOf = [zn] from rfl, lastN_snoc]
          rfl
        · rw [take_snoc ht] at hu
          rcases List.mem_append.mp hu with z | z
          · exact al u z
          · rw [List.mem_singleton.mp z]
            exact tt
        · rw [step tt, asc, hlt]
          rfl
    · rintro σ H1 ⟨s1, ⟨x2, rfl⟩, al, asc⟩
      rw [ly, List.take_length] at al asc
      have : exprD (.tuple [.int c, .tuple ts]) = true := by
        show (ts.all termD && ascL (ts.map nmOf)) = true
        rw [List.all_eq_true.mpr al, asc]
        rfl
      rw [this] at k
      exact k _ s1
theorem ok_QAg {f : Addr} {fd : FuncData} (F : Fun K "_law_is_args" "_law_is_args" sQAg f fd) (T : TxQ mg) (GN : Has P w K mg base CX0 1 "_law_is_word" PQWd (spQWd K)) (GS : Has P w K mg base CX0 2 "_law_is_sum" PQSm (spExpB K)) : FnOk P w K mg base CX0 3 f fd PQAg (spQAg K) := by
  refine F.ok scQAg (fun vs H Q E h => ?_) (fun cdv A outer s H vs Q E hr h => ?_)
  · obtain ⟨v, ns, rfl, _⟩ := h
    rfl
  · obtain ⟨v, d, rfl, hv, gd, k⟩ := h
    have hr1 := hr.mono (j := 1) (by decide)
    refine ⟨_, (pss_cons (ps_if (pt_not (pt_val (pe_callB call_isi (by rfl) T.n_isinstance bb_isinstance (pa_cons (pv 0) (pa_cons (pe_bltn (v := .ty "tuple") (by rfl) T.n_tuple bb_tuple rfl) pa_nil)))))
  (pss_one (ps_ret pe_bl))
  pss_nil)
  (pss_cons (ps_for PassesOwn.never rfl (pi_tup (pv 0)) (pg_name (i := 1) scQAg.nd rfl (Or.inl rfl))
  (pss_cons (ps_if (PW.pt (pw_or (pt_not (pt_val (pe_callB call_isi (by rfl) T.n_isinstance bb_isinstance (pa_cons (pv 1) (pa_cons (pe_bltn (v := .ty "tuple") (by rfl) T.n_tuple bb_tuple rfl) pa_nil))))) (pw_or (pt_cmpR op_ne (pe_callB call_len_seq (by rfl) T.n_len bb_len (pa_cons (pv 1) pa_nil)) pe_int (nomark _)) (pw_or1 (pt_cmpR (op_notInD (units65 hr)) (pe_ix (r := rIxT K) ix_tup (pv 1) pe_int (fun _ _ => rfl)) (pe_lst (pa_cons pe_str (pa_cons pe_str pa_nil))) (by rfl))))))
  (pss_one (ps_ret pe_bl))
  pss_nil)
  (pss_one (ps_if (pt_not (pt_ifExp (pt_cmpR op_eq (pe_ix (r := rIxT K) ix_tup (pv 1) pe_int (fun _ _ => rfl)) pe_str (nomark _)) (pt_val (pe_callH GN hr1 rfl pass0 (pa_cons (pe_ix (r := rIxT K) ix_tup (pv 1) pe_int (fun _ _ => rfl)) pa_nil))) (pt_val (pe_callH GS hr rfl pass0 (pa_cons (pe_ix (r := rIxT K) ix_tup (pv 1) pe_int (fun _ _ => rfl)) pa_nil)))))
  (pss_one (ps_ret pe_bl))
  pss_nil))))
  (pss_one (ps_ret pe_bl)))), ?_⟩
    obtain ⟨t, ty, k1, _⟩ := dpT hv
    refine ⟨_, rfl, _, _, _, _, _, rfl, .ty _, ty, k1, _, rfl, ?_⟩
    rcases tupCases d with e | ⟨as, rfl⟩
    · rw [e]
      have : argsB d = false := by cases d <;> first | rfl | cases e
      rw [this] at k
      exact iteS rfl (k _ (Same.refl _))
    refine iteE rfl ?_
    obtain ⟨b, ys, rfl, hb, hyd⟩ := hv.tupInv
    have ly := hyd.len
    have k : ∀ H', Same H H' → Q (.bl (as.all argB)) H' := k
    refine ⟨_, rfl, b, rfl, ⟨_, hb⟩, ?_⟩
    refine for_tup (K := K) (a := b) (xs := ys) (fun i σ H' => Same H H' ∧ (∃ x2 : Option V, σ = [some (.ref b), x2]) ∧ (∀ t ∈ as.take i, argB t = true)) ⟨Same.refl _, ⟨_, rfl⟩, fun _ z => by cases z⟩ (fun i σ H' _ h' => SqT.same h'.1 hb) ?_ ?_
    · rintro i z σ H1 hz ⟨s1, ⟨x2, rfl⟩, al⟩
      obtain ⟨t, ht, htd⟩ := hyd.at hz
      have mt := List.mem_of_getElem? ht
      have gt : GD 59 t := gd.mem mt
      have ret : argB t = false → ∀ H', Same H H' → Q (.bl false) H' := fun e H' s' => by
        have := k _ s'
        rwa [all_no mt e] at this
      have go : argB t = true → ∀ H', Same H H' → Same H H' ∧ (∃ x2 : Option V, [some (V.ref b), some z] = [some (.ref b), x2]) ∧ (∀ t ∈ as.take (i + 1), argB t = true) := fun e H' s' => by
        refine ⟨s', ⟨_, rfl⟩, fun u hu => ?_⟩
        rw [take_snoc ht] at hu
        rcases List.mem_append.mp hu with z | z
        · exact al u z
        · rw [List.mem_singleton.mp z]
          exact e
      obtain ⟨t1, ty1, k11, _⟩ := dpT (htd.same s1)
      refine ⟨_, rfl, _, _, _, _, _, rfl, .ty _, ty1, k11, _, rfl, ?_⟩
      rcases tupCases t with e | ⟨l, rfl⟩
      · rw [e]
        exact iteS rfl (iteS rfl (ret (by cases t <;> first | rfl | cases e) _ s1))
      refine iteE rfl ?_
      obtain ⟨e, zs, rfl, he, hed⟩ := htd.tupInv
      have lz := hed.len
      by_cases ll : l.length = 2
      case neg =>
        refine ⟨_, rfl, e, _, rfl, .inr (SqT.same s1 he), rfl, _, rfl, iteS ?_ (iteS rfl (ret ?_ _ s1))⟩
        · rw [lz]
          exact (Bool.not_eq_true' _).mpr (decide_eq_false fun z => ll (by have := V.int.inj z; omega))
        · unfold argB
          split
          · rename_i e; cases e; exact absurd rfl ll
          · rfl
      refine ⟨_, rfl, e, _, rfl, .inr (SqT.same s1 he), rfl, _, rfl, iteE (by rw [lz, ll]; decide +kernel) ?_⟩
      obtain ⟨p, q, rfl⟩ := len2D ll
      obtain ⟨vp, vq, rfl, dp, dq⟩ := hed.two
      have gp : GD 58 p := gt.mem List.mem_cons_self
      have gq : GD 58 q := gt.mem (by simp)
      refine ⟨_, rfl, e, _, _, _, rfl, rfl, SqT.same s1 he, rfl, (by show 2 ≤ sizeLine; decide), fun l1 hl1 => ?_⟩
      have s2 := s1.trans (same_new (o := .lst [.str "value", .str "place"]) hl1)
      refine ⟨p, [.str "value", .str "place"], dp.same s2, .lst (SqL.of upd_same) (.cons (.str _) (.cons (.str _) .nil)), gp.sh (by decide), by decide +kernel, _, rfl, ?_⟩
      generalize upd H1 l1 (.lst [.str "value", .str "place"]) = H2 at *
      have ein : (([.str "value", .str "place"] : List PyData).any fun z => PyData.eqv z p) = match p with
          | .str w => decide (w = "value") || decide (w = "place")
          | _ => false := by
        cases p with
        | str w =>
          have e1 : ∀ a : Str, PyData.eqv (.str a) (.str w) = decide (w = a) := fun a => by
            have : PyData.eqv (.str a) (.str w) = (a == w) := by simp [PyData.eqv]
            rw [this]
            exact Bool.eq_iff_iff.mpr ⟨fun h => decide_eq_true (eq_of_beq h).symm, fun h => beq_iff_eq.mpr (of_decide_eq_true h).symm⟩
          rw [List.any_cons, List.any_cons, List.any_nil, e1, e1, Bool.or_false]
        | _ => simp [PyData.eqv]
      rw [ein]
      cases p with
      | str wd =>
        rw [dp.strInv] at he
        show if (!(decide (wd = "value") || decide (wd = "place"))) = true then _ else _
        refine ite2 (fun hc => ?_) (fun hc => ?_)
        · refine ret ?_ _ s2
          rw [Bool.not_eq_true', Bool.or_eq_false_iff] at hc
          show (if wd = "place" then nameD q else (decide (wd = "value") && exprD q)) = false
          rw [if_neg (of_decide_eq_false hc.2), hc.1]
          rfl
        have ea : argB (.tuple [.str wd, q]) = if wd = "place" then nameD q else (decide (wd = "value") && exprD q) := rfl
        by_cases hpl : wd = "place"
        · subst hpl
          rw [ea, if_pos rfl] at ret go
          refine ⟨_, rfl, e, _, _, _, rfl, rfl, SqT.same s2 he, rfl, rfl, _, rfl, iteS (by decide +kernel) ?_⟩
          refine ⟨_, rfl, e, _, _, _, rfl, rfl, SqT.same s2 he, rfl, vq, q, rfl, dq.same s2, gq.mono (by decide), fun H3 s3 => ⟨_, rfl, ?_⟩⟩
          cases hn : nameD q with
          | false => exact iteS rfl (ret hn _ (s2.trans s3))
          | true => exact iteE rfl (go hn _ (s2.trans s3))
        · have hva : wd = "value" := by
            by_cases hva : wd = "value"
            · exact hva
            · exact absurd (by rw [decide_eq_false hpl, decide_eq_false hva]; rfl) hc
          subst hva
          have ea2 : argB (.tuple [.str "value", q]) = exprD q := by rw [ea, if_neg hpl, decide_eq_true rfl, Bool.true_and]
          rw [ea2] at ret go
          refine ⟨_, rfl, e, _, _, _, rfl, rfl, SqT.same s2 he, rfl, rfl, _, rfl, iteE (by decide +kernel) ?_⟩
          refine ⟨_, rfl, e, _, _, _, rfl, rfl, SqT.same s2 he, rfl, vq, q, rfl, dq.same s2, gq.mono (by decide), fun H3 s3 => ⟨_, rfl, ?_⟩⟩
          cases hn : exprD q with
          | false => exact iteS rfl (ret hn _ (s2.trans s3))
          | true => exact iteE rfl (go hn _ (s2.trans s3))
      | _ => exact ret rfl _ s2
    · rintro σ H1 ⟨s1, ⟨x2, rfl⟩, al⟩
      rw [ly, List.take_length] at al
      rw [List.all_eq_true.mpr al] at k
      exact k _ s1
theorem ok_QCl {f : Addr} {fd : FuncData} (F : Fun K "_law_is_call" "_law_is_call" sQCl f fd) (T : TxQ mg) (GN : Has P w K mg base CX0 1 "_law_is_word" PQWd (spQWd K)) (GA : Has P w K mg base CX0 3 "_law_is_args" PQAg (spQAg K)) : FnOk P w K mg base CX0 4 f fd PQCl (spCalB K) := by
  refine F.ok scQCl (fun vs H Q E h => ?_) (fun cdv A outer s H vs Q E hr h => ?_)
  · obtain ⟨v, ns, rfl, _⟩ := h
    rfl
  · obtain ⟨v, d, rfl, hv, gd, k⟩ := h
    have hr1 := hr.mono (j := 1) (by decide)
    refine ⟨_, (pss_one (ps_ret (pe_and (pe_callB call_isi (by rfl) T.n_isinstance bb_isinstance (pa_cons (pv 0) (pa_cons (pe_bltn (v := .ty "tuple") (by rfl) T.n_tuple bb_tuple rfl) pa_nil))) (pe_and (pe_cmpR op_eq (pe_callB call_len_seq (by rfl) T.n_len bb_len (pa_cons (pv 0) pa_nil)) pe_int (nomark _)) (pe_and (pe_callH GN hr1 rfl pass0 (pa_cons (pe_ix (r := rIxT K) ix_tup (pv 0) pe_int (fun _ _ => rfl)) pa_nil)) (pe_one (pe_callH GA hr rfl pass0 (pa_cons (pe_ix (r := rIxT K) ix_tup (pv 0) pe_int (fun _ _ => rfl)) pa_nil)))))))), ?_⟩
    obtain ⟨t, ty, k1, _⟩ := dpT hv
    refine ⟨_, rfl, _, _, _, _, _, rfl, .ty _, ty, k1, _, rfl, ?_⟩
    rcases tupCases d with e | ⟨l, rfl⟩
    · rw [e]
      have : callB d = false := by cases d <;> first | rfl | cases e
      rw [this] at k
      exact iteE rfl (k _ (Same.refl _))
    refine iteS rfl ?_
    obtain ⟨a, xs, rfl, hq, hd⟩ := hv.tupInv
    have lx := hd.len
    by_cases ll : l.length = 2
    case neg =>
      have : callB (.tuple l) = false := by
        unfold callB
        split
        · rename_i e; cases e; exact absurd rfl ll
        · rfl
      rw [this] at k
      refine ⟨_, rfl, a, _, rfl, .inr hq, rfl, _, rfl, iteE ?_ (k _ (Same.refl _))⟩
      rw [lx]
      exact decide_eq_false fun z => ll (by have := V.int.inj z; omega)
    refine ⟨_, rfl, a, _, rfl, .inr hq, rfl, _, rfl, iteS (by rw [lx, ll]; decide +kernel) ?_⟩
    obtain ⟨x, y, rfl⟩ := len2D ll
    obtain ⟨vx, vy, rfl, hx, hy⟩ := hd.two
    have gx : GD 59 x := gd.mem List.mem_cons_self
    have gy : GD 59 y := gd.mem (by simp)
    have ec : callB (.tuple [x, y]) = (nameD x && argsB y) := by
      cases y with
      | tuple as => rfl
      | _ => show false = (nameD x && false); rw [Bool.and_false]
    rw [ec] at k
    refine ⟨_, rfl, a, _, _, _, rfl, rfl, hq, rfl, vx, x, rfl, hx, gx.mono (by decide), fun H2 s2 => ⟨_, rfl, ?_⟩⟩
    cases hn : nameD x with
    | false =>
      rw [hn] at k
      exact iteE rfl (k _ s2)
    | true =>
    rw [hn] at k
    exact iteS rfl ⟨_, rfl, a, _, _, _, rfl, rfl, SqT.same s2 hq, rfl, vy, y, rfl, hy.same s2, gy.mono (by decide), fun H' s' => k _ (s2.trans s')⟩
theorem ok_QHd {n : Nat} {f : Addr} {fd : FuncData} (F : Fun K "_law_is_handlers" "_law_is_handlers" sQHd f fd) (T : TxQ mg) (GR : Has P w K mg base CX0 2 "_law_all_names" PQAn (spRowB K)) (GB : Has P w K mg base CX0 (5 + 3 * n) "_law_is_block" PQBl (spQBl K n)) : FnOk P w K mg base CX0 (5 + 3 * n + 1) f fd PQHd (spQHd K n) := by
  refine F.ok scQHd (fun vs H Q E h => ?_) (fun cdv A outer s H vs Q E hr h => ?_)
  · obtain ⟨v, b, rfl, _⟩ := h
    rfl
  · obtain ⟨v, d, rfl, hv, gd, dd, k⟩ := h
    have hr2 := hr.mono (j := 2) (by omega)
    refine ⟨_, (pss_cons (ps_if (pt_not (pt_val (pe_callB call_isi (by rfl) T.n_isinstance bb_isinstance (pa_cons (pv 0) (pa_cons (pe_bltn (v := .ty "tuple") (by rfl) T.n_tuple bb_tuple rfl) pa_nil)))))
  (pss_one (ps_ret pe_bl))
  pss_nil)
  (pss_cons (ps_for PassesOwn.never rfl (pi_tup (pv 0)) (pg_name (i := 1) scQHd.nd rfl (Or.inl rfl))
  (pss_cons (ps_if (PW.pt (pw_or (pt_not (pt_val (pe_callB call_isi (by rfl) T.n_isinstance bb_isinstance (pa_cons (pv 1) (pa_cons (pe_bltn (v := .ty "tuple") (by rfl) T.n_tuple bb_tuple rfl) pa_nil))))) (pw_or (pt_cmpR op_ne (pe_callB call_len_seq (by rfl) T.n_len bb_len (pa_cons (pv 1) pa_nil)) pe_int (nomark _)) (pw_or (pt_not (pt_val (pe_callH GR hr2 rfl pass0 (pa_cons (pe_ix (r := rIxT K) ix_tup (pv 1) pe_int (fun _ _ => rfl)) pa_nil)))) (pw_or1 (pt_cmpR (op_eqE hr.units0) (pe_ix (r := rIxT K) ix_tup (pv 1) pe_int (fun _ _ => rfl)) (pe_tup pa_nil) (nomark _)))))))
  (pss_one (ps_ret pe_bl))
  pss_nil)
  (pss_one (ps_if (pt_not (pt_val (pe_callH GB hr rfl pass0 (pa_cons (pe_ix (r := rIxT K) ix_tup (pv 1) pe_int (fun _ _ => rfl)) pa_nil))))
  (pss_one (ps_ret pe_bl))
  pss_nil))))
  (pss_one (ps_ret pe_bl)))), ?_⟩
    obtain ⟨t, ty, k1, _⟩ := dpT hv
    refine ⟨_, rfl, _, _, _, _, _, rfl, .ty _, ty, k1, _, rfl, ?_⟩
    rcases tupCases d with e | ⟨hs, rfl⟩
    · rw [e]
      have : hdsB (blkB n) d = false := by cases d <;> first | rfl | cases e
      rw [this] at k
      exact iteS rfl (k _ (Same.refl _))
    refine iteE rfl ?_
    obtain ⟨b, ys, rfl, hb, hyd⟩ := hv.tupInv
    have ly := hyd.len
    have k : ∀ H', Same H H' → Q (.bl (hs.all (hdlB (blkB n)))) H' := k
    refine ⟨_, rfl, b, rfl, ⟨_, hb⟩, ?_⟩
    refine for_tup (K := K) (a := b) (xs := ys) (fun i σ H' => Same H H' ∧ (∃ x2 : Option V, σ = [some (.ref b), x2]) ∧ (∀ t ∈ hs.take i, hdlB (blkB n) t = true)) ⟨Same.refl _, ⟨_, rfl⟩, fun _ z => by cases z⟩ (fun i σ H' _ h' => SqT.same h'.1 hb) ?_ ?_
    · rintro i z σ H1 hz ⟨s1, ⟨x2, rfl⟩, al⟩
      obtain ⟨t, ht, htd⟩ := hyd.at hz
      have mt := List.mem_of_getElem? ht
      have gt : GD 59 t := gd.mem mt
      have dt := dep_mem mt
      have ret : hdlB (blkB n) t = false → ∀ H', Same H H' → Q (.bl false) H' := fun e H' s' => by
        have := k _ s'
        rwa [all_no mt e] at this
      obtain ⟨t1, ty1, k11, _⟩ := dpT (htd.same s1)
      refine ⟨_, rfl, _, _, _, _, _, rfl, .ty _, ty1, k11, _, rfl, ?_⟩
      rcases tupCases t with e | ⟨l, rfl⟩
      · rw [e]
        exact iteS rfl (iteS rfl (ret (by cases t <;> first | rfl | cases e) _ s1))
      refine iteE rfl ?_
      obtain ⟨e, zs, rfl, he, hed⟩ := htd.tupInv
      have lz := hed.len
      by_cases ll : l.length = 2
      case neg =>
        refine ⟨_, rfl, e, _, rfl, .inr (SqT.same s1 he), rfl, _, rfl, iteS ?_ (iteS rfl (ret ?_ _ s1))⟩
        · rw [lz]
          exact (Bool.not_eq_true' _).mpr (decide_eq_false fun z => ll (by have := V.int.inj z; omega))
        · unfold hdlB
          split
          · rename_i e; cases e; exact absurd rfl ll
          · rfl
      refine ⟨_, rfl, e, _, rfl, .inr (SqT.same s1 he), rfl, _, rfl, iteE (by rw [lz, ll]; decide +kernel) ?_⟩
      obtain ⟨p, q, rfl⟩ := len2D ll
      obtain ⟨vp, vq, rfl, dp, dq⟩ := hed.two
      have gp : GD 58 p := gt.mem List.mem_cons_self
      have gq : GD 58 q := gt.mem (by simp)
      have dq1 : q.depth + 1 ≤ (PyData.tuple [p, q]).depth := dep_mem (by simp)
      have eh : hdlB (blkB n) (.tuple [p, q]) = (!isNilD p && (rowD p && blkB n q)) := rfl
      refine ⟨_, rfl, e, _, _, _, rfl, rfl, SqT.same s1 he, rfl, vp, p, rfl, dp.same s1, gp.mono (by decide), fun H2 s2 => ⟨_, rfl, ?_⟩⟩
      have s12 := s1.trans s2
      cases hrp : rowD p with
      | false => exact iteS rfl (iteS rfl (ret (by rw [eh, hrp, Bool.false_and, Bool.and_false]) _ s12))
      | true =>
      obtain ⟨ns, rfl, _⟩ := row_of hrp gp.gb
      obtain ⟨ax, xs0, rfl, hax, hxd⟩ := dp.tupInv
      refine iteE rfl ?_
      refine ⟨_, rfl, e, _, _, _, rfl, rfl, SqT.same s12 he, rfl, (by show 0 ≤ sizeLine; decide), fun q0 hq2 => ?_⟩
      have s3 := s12.trans (same_new (o := .tup []) hq2)
      refine ⟨ax, q0, _, rfl, rfl, SqT.same s3 hax, SqT.of upd_same, _, rfl, ?_⟩
      have en : xs0.isEmpty = isNilD (nmD ns) := by
        have l := hxd.len
        cases ns with
        | nil => cases xs0 with
          | nil => rfl
          | cons => cases l
        | cons => cases xs0 with
          | nil => cases l
          | cons => rfl
      rw [en]
      cases hnil : isNilD (nmD ns) with
      | true => exact iteS rfl (ret (by rw [eh, hnil]; rfl) _ s3)
      | false =>
      refine iteE rfl ?_
      generalize upd H2 q0 (.tup []) = H3 at *
      refine ⟨_, rfl, e, _, _, _, rfl, rfl, SqT.same s3 he, rfl, vq, q, rfl, dq.same s3, gq.mono (by decide), by omega, fun H4 s4 => ⟨_, rfl, ?_⟩⟩
      have s34 := s3.trans s4
      cases hbq : blkB n q with
      | false => exact iteS rfl (ret (by rw [eh, hbq, Bool.and_false, Bool.and_false]) _ s34)
      | true =>
      refine iteE rfl ⟨s34, ⟨_, rfl⟩, fun u hu => ?_⟩
      rw [take_snoc ht] at hu
      rcases List.mem_append.mp hu with z | z
      · exact al u z
      · rw [List.mem_singleton.mp z, eh, hnil, hrp, hbq]
        rfl
    · rintro σ H1 ⟨s1, ⟨x2, rfl⟩, al⟩
      rw [ly, List.take_length] at al
      rw [List.all_eq_true.mpr al] at k
      exact k _ s1
theorem ok_QBl {n : Nat} {f : Addr} {fd : FuncData} (F : Fun K "_law_is_block" "_law_is_block" sQBl f fd) (T : TxQ mg) (GS : Has P w K mg base CX0 (7 + 3 * n) "_law_is_statement" PQSt (spQSt K n)) : FnOk P w K mg base CX0 (7 + 3 * n + 1) f fd PQBl (spQBl K (n + 1)) := by
  refine F.ok scQBl (fun vs H Q E h => ?_) (fun cdv A outer s H vs Q E hr h => ?_)
  · obtain ⟨v, b, rfl, _⟩ := h
    rfl
  · obtain ⟨v, d, rfl, hv, gd, dd, k⟩ := h
    refine ⟨_, (pss_one (ps_ret (pe_and (pe_callB call_isi (by rfl) T.n_isinstance bb_isinstance (pa_cons (pv 0) (pa_cons (pe_bltn (v := .ty "tuple") (by rfl) T.n_tuple bb_tuple rfl) pa_nil))) (pe_one (pe_callB (cr_all rfl) (by rfl) T.n_all bb_all (pa_cons (pe_lc (own := [("_law_one", 1)]) (g := gName 1) (tt := tYes) rfl scQBl.nd (pi_tup (pv 0)) (blkOk_by (own := [("_law_one", 1)]) (N := NQBl) (sc := (defScope sQBl)) (by decide +kernel)) (fun _ _ _ _ _ => (pg_name (i := 1) scQBl.nd rfl (Or.inl rfl))) (fun _ _ _ _ _ => pts_nil) (fun _ _ _ _ _ => (pe_callH GS hr rfl pass0 (pa_cons (pv 1) pa_nil)))) pa_nil)))))), ?_⟩
    obtain ⟨t, ty, k1, _⟩ := dpT hv
    refine ⟨_, rfl, _, _, _, _, _, rfl, .ty _, ty, k1, _, rfl, ?_⟩
    rcases tupCases d with e | ⟨l, rfl⟩
    · rw [e]
      have : blkB (n + 1) d = false := by cases d <;> first | rfl | cases e
      rw [this] at k
      exact iteE rfl (k _ (Same.refl _))
    obtain ⟨a, xs, rfl, hq, hd⟩ := hv.tupInv
    have ll := gd.len
    have lx := hd.len
    have k : ∀ H', Same H H' → Q (.bl (l.all (stmB (blkB n)))) H' := k
    refine iteS rfl ⟨_, rfl, a, rfl, ⟨_, hq⟩, fun D hD => ?_⟩
    refine lc_tup (K := K) (a := a) (xs := xs) (fun i H' => Same H H' ∧ H' D = some (.lst (((l.take i).map (stmB (blkB n))).map V.bl))) ⟨same_new hD, upd_same⟩ (fun i H' _ h' => SqT.same h'.1 hq) ?_ ?_
    · rintro i v H1 hz ⟨s1, e1⟩
      obtain ⟨z, hza, hzd⟩ := hd.at hz
      have hi : i < xs.length := (List.getElem?_eq_some_iff.mp hz).1
      have mz := List.mem_of_getElem? hza
      have dz := dep_mem mz
      refine ⟨rfl, _, rfl, v, z, rfl, hzd.same s1, (gd.mem mz).mono (by decide), by omega, fun H2 s2 => ?_⟩
      refine ⟨_, s2 _ _ e1, smallX (by rw [List.length_map, List.length_map, List.length_take]; omega), fun c o e => ?_, ?_⟩
      · rw [upd_ne (ne_of_none e hD)]
        exact s2 _ _ (s1 _ _ e)
      · rw [upd_same, take_snoc hza, List.map_append, List.map_append]
        rfl
    · rintro H1 ⟨s1, e1⟩
      rw [lx, List.take_length] at e1
      refine ⟨D, _, rfl, SqL.of e1, ?_⟩
      rw [all_map_id]
      exact k _ s1
theorem ok_QSt {n : Nat} {f : Addr} {fd : FuncData} (F : Fun K "_law_is_statement" "_law_is_statement" sQSt f fd) (T : TxQ mg) (GN : Has P w K mg base CX0 1 "_law_is_word" PQWd (spQWd K)) (GS : Has P w K mg base CX0 2 "_law_is_sum" PQSm (spExpB K)) (GC : Has P w K mg base CX0 4 "_law_is_call" PQCl (spCalB K)) (GR : Has P w K mg base CX0 2 "_law_all_names" PQAn (spRowB K)) (GB : Has P w K mg base CX0 (5 + 3 * n) "_law_is_block" PQBl (spQBl K n)) (GH : Has P w K mg base CX0 (6 + 3 * n) "_law_is_handlers" PQHd (spQHd K n)) : FnOk P w K mg base CX0 (6 + 3 * n + 1) f fd PQSt (spQSt K n) := by
  refine F.ok scQSt (fun vs H Q E h => ?_) (fun cdv A outer s H vs Q E hr h => ?_)
  · obtain ⟨v, b, rfl, _⟩ := h
    rfl
  · obtain ⟨v, d, rfl, hv, gd, dd, k⟩ := h
    have hu := hu_of hr
    have hr1 := hr.mono (j := 1) (by omega)
    have hr2 := hr.mono (j := 2) (by omega)
    have hr4 := hr.mono (j := 4) (by omega)
    have hrb := hr.mono (j := 5 + 3 * n) (by omega)
    refine ⟨_, (pss_cons (ps_if (PW.pt (pw_or (pt_not (pt_val (pe_callB call_isi (by rfl) T.n_isinstance bb_isinstance (pa_cons (pv 0) (pa_cons (pe_bltn (v := .ty "tuple") (by rfl) T.n_tuple bb_tuple rfl) pa_nil))))) (pw_or (pt_cmpR (op_eqE hr.units0) (pv 0) (pe_tup pa_nil) (nomark _)) (pw_or1 (pt_not (pt_val (pe_callB call_isi (by rfl) T.n_isinstance bb_isinstance (pa_cons (pe_ix (r := rIxT K) ix_tup (pv 0) pe_int (fun _ _ => rfl)) (pa_cons (pe_bltn (v := .ty "str") (by rfl) T.n_str bb_str rfl) pa_nil)))))))))
  (pss_one (ps_ret pe_bl))
  pss_nil)
  (pss_cons (ps_set (i := 1) scQSt.nd rfl (Or.inl rfl) (pe_ix (r := rIxT K) ix_tup (pv 0) pe_int (fun _ _ => rfl)))
  (pss_cons (ps_set (i := 2) scQSt.nd rfl (Or.inl rfl) (pe_disp (pps_cons pe_str pe_int (pps_cons pe_str pe_int (pps_cons pe_str pe_int (pps_cons pe_str pe_int (pps_cons pe_str pe_int (pps_cons pe_str pe_int (pps_cons pe_str pe_int (pps_cons pe_str pe_int (pps_cons pe_str pe_int pps_nil))))))))) (by rfl) (by rfl) (by decide) (by decide)))
  (pss_cons (ps_if (pt_cmpR op_ne (pe_callB call_len_seq (by rfl) T.n_len bb_len (pa_cons (pv 0) pa_nil)) (pe_dget2 hu (pv 2) (pv 1) (pe_dget2 hu (pe_disp (pps_cons pe_str pe_int (pps_cons pe_str pe_int pps_nil)) (by rfl) (by rfl) (by decide) (by decide)) (pv 1) (pe_un un_neg pe_int) ⟨rfl, rfl, rfl, rfl⟩) ⟨rfl, rfl, rfl, rfl⟩) (nomark _))
  (pss_one (ps_ret pe_bl))
  pss_nil)
  (pss_cons (ps_if (PW.pt (pw_and (pt_cmpR op_in_seq (pv 1) (pe_lst (pa_cons pe_str (pa_cons pe_str (pa_cons pe_str pa_nil)))) (by rfl)) (pw_and1 (pt_not (pt_val (pe_callH GN hr1 rfl pass0 (pa_cons (pe_ix (r := rIxT K) ix_tup (pv 0) pe_int (fun _ _ => rfl)) pa_nil)))))))
  (pss_one (ps_ret pe_bl))
  pss_nil)
  (pss_cons (ps_if (PW.pt (pw_and (pt_cmpR op_in_seq (pv 1) (pe_lst (pa_cons pe_str (pa_cons pe_str pa_nil))) (by rfl)) (pw_and1 (pt_not (pt_val (pe_callH GS hr2 rfl pass0 (pa_cons (pe_ix (r := rIxT K) ix_tup (pv 0) (pe_un un_neg pe_int) (fun _ _ => rfl)) pa_nil)))))))
  (pss_one (ps_ret pe_bl))
  pss_nil)
  (pss_cons (ps_if (pt_cmpR op_eq (pv 1) pe_str (nomark _))
  (pss_one (ps_ret (pe_and (pe_or (pe_cmpR op_isN (pe_ix (r := rIxT K) ix_tup (pv 0) pe_int (fun _ _ => rfl)) pe_non (nomark _)) (pe_one (pe_callH GN hr1 rfl pass0 (pa_cons (pe_ix (r := rIxT K) ix_tup (pv 0) pe_int (fun _ _ => rfl)) pa_nil)))) (pe_one (pe_callH GC hr4 rfl pass0 (pa_cons (pe_slice sl_tup (pv 0) (po_some pe_int) po_none) pa_nil))))))
  pss_nil)
  (pss_cons (ps_if (pt_cmpR op_eq (pv 1) pe_str (nomark _))
  (pss_cons (ps_set (i := 3) scQSt.nd rfl (Or.inl rfl) (pe_and (pe_callH GC hr4 rfl pass0 (pa_cons (pe_ix (r := rIxT K) ix_tup (pv 0) pe_int (fun _ _ => rfl)) pa_nil)) (pe_and (pe_callH GC hr4 rfl pass0 (pa_cons (pe_ix (r := rIxT K) ix_tup (pv 0) pe_int (fun _ _ => rfl)) pa_nil)) (pe_one (pe_callH GR hr2 rfl pass0 (pa_cons (pe_ix (r := rIxT K) ix_tup (pv 0) pe_int (fun _ _ => rfl)) pa_nil))))))
  (pss_one (ps_ret (pe_and (pv 3) (pe_one (pe_callH GB hrb rfl pass0 (pa_cons (pe_ix (r := rIxT K) ix_tup (pv 0) pe_int (fun _ _ => rfl)) pa_nil)))))))
  pss_nil)
  (pss_cons (ps_if (PW.pt (pw_and (pt_cmpR op_in_seq (pv 1) (pe_lst (pa_cons pe_str (pa_cons pe_str pa_nil))) (by rfl)) (pw_and1 (PW.pt (pw_or (pt_not (pt_val (pe_callH GR hr2 rfl pass0 (pa_cons (pe_ix (r := rIxT K) ix_tup (pv 0) pe_int (fun _ _ => rfl)) pa_nil)))) (pw_or1 (pt_cmpR (op_eqE hr.units0) (pe_ix (r := rIxT K) ix_tup (pv 0) pe_int (fun _ _ => rfl)) (pe_tup pa_nil) (nomark _))))))))
  (pss_one (ps_ret pe_bl))
  pss_nil)
  (pss_cons (ps_if (pt_cmpR op_in_seq (pv 1) (pe_lst (pa_cons pe_str (pa_cons pe_str pa_nil))) (by rfl))
  (pss_one (ps_ret (pe_callB (cr_all rfl) (by rfl) T.n_all bb_all (pa_cons (pe_lc (own := [("_law_part", 4)]) (g := gName 4) (tt := tYes) rfl scQSt.nd (pi_tup (pe_slice sl_tup (pv 0) (po_some pe_int) po_none)) (blkOk_by (own := [("_law_part", 4)]) (N := NQSt) (sc := (defScope sQSt)) (by decide +kernel)) (fun _ _ _ _ _ => (pg_name (i := 4) scQSt.nd rfl (Or.inl rfl))) (fun _ _ _ _ _ => pts_nil) (fun _ _ _ _ _ => (pe_callH GB hrb rfl pass0 (pa_cons (pv 4) pa_nil)))) pa_nil))))
  pss_nil)
  (pss_cons (ps_if (pt_cmpR op_eq (pv 1) pe_str (nomark _))
  (pss_one (ps_ret (pe_and (pe_callH GB hrb rfl pass0 (pa_cons (pe_ix (r := rIxT K) ix_tup (pv 0) pe_int (fun _ _ => rfl)) pa_nil)) (pe_and (pe_callH GH hr rfl pass0 (pa_cons (pe_ix (r := rIxT K) ix_tup (pv 0) pe_int (fun _ _ => rfl)) pa_nil)) (pe_one (pe_callH GB hrb rfl pass0 (pa_cons (pe_ix (r := rIxT K) ix_tup (pv 0) pe_int (fun _ _ => rfl)) pa_nil)))))))
  pss_nil)
  (pss_one (ps_ret (pe_or (pe_cmpR op_ne (pv 1) pe_str (nomark _)) (pe_one (pe_callH GB hrb rfl pass0 (pa_cons (pe_ix (r := rIxT K) ix_tup (pv 0) pe_int (fun _ _ => rfl)) pa_nil))))))))))))))))), ?_⟩
    obtain ⟨t, ty, k1, _⟩ := dpT hv
    refine ⟨_, rfl, _, _, _, _, _, rfl, .ty _, ty, k1, _, rfl, ?_⟩
    rcases tupCases d with e | ⟨l, rfl⟩
    · rw [sta_no0 e] at k
      rw [e]
      exact iteS rfl (iteS rfl (k _ (Same.refl _)))
    refine iteE rfl ?_
    obtain ⟨a, xs0, rfl, hq0, hd0⟩ := hv.tupInv
    refine ⟨_, rfl, (by show 0 ≤ sizeLine; decide), fun q hq2 => ?_⟩
    have s1 := same_new (o := .tup []) hq2
    refine ⟨a, q, _, rfl, rfl, SqT.same s1 hq0, SqT.of upd_same, _, rfl, ?_⟩
    cases l with
    | nil =>
      rw [hd0.nilInv]
      exact iteS rfl (iteS rfl (k _ s1))
    | cons x r =>
    obtain ⟨v0, xs, rfl, h0, hd⟩ := hd0.consInv
    have hq := SqT.same s1 hq0
    have h0 := h0.same s1
    have hd := DpAll.same s1 hd
    have k : ∀ H', Same (upd H q (.tup [])) H' → Q (.bl (stmB (blkB n) (.tuple (x :: r)))) H' := fun H' s' => k _ (s1.trans s')
    clear hq0 hd0 s1
    generalize upd H q (.tup []) = H1 at hq h0 hd k ⊢
    refine iteE rfl ?_
    obtain ⟨t0, ty0, _, k20, _⟩ := dpT h0
    refine ⟨_, rfl, a, _, _, _, rfl, rfl, hq, atI_nat (j := 0) rfl, _, _, _, _, _, rfl, .ty _, ty0, k20, _, rfl, ?_⟩
    cases hsx : isStrD x with
    | false =>
      rw [sta_no1 hsx] at k
      exact iteS rfl (k _ (Same.refl _))
    | true =>
    obtain ⟨wd, rfl⟩ : ∃ z, x = .str z := by cases x <;> first | exact ⟨_, rfl⟩ | cases hsx
    rw [h0.strInv] at hq
    refine iteE rfl ?_
    have lx : (V.str wd :: xs).length = r.length + 1 := by rw [List.length_cons, hd.len]
    have gm : ∀ x ∈ r, GD 59 x := fun x hx => gd.mem (List.mem_cons_of_mem _ hx)
    have dm : ∀ x ∈ r, x.depth + 1 ≤ 2 * n := fun x hx => Nat.le_trans (dep_mem (List.mem_cons_of_mem _ hx)) dd
    refine ⟨_, rfl, a, _, _, _, rfl, rfl, hq, atI_nat (j := 0) rfl, fun sd hsd => ⟨upd_same, kD1, rfl, by decide, ?_⟩⟩
    rw [show mergeK [] kD1 = kD1 from by kernel_rfl, upd_upd]
    have s1 := same_new (o := .dK kD1) hsd
    have hq0 := SqT.same s1 hq
    have esd : upd H1 sd (.dK kD1) sd = some (.dK kD1) := upd_same
    generalize upd H1 sd (.dK kD1) = H2 at s1 hq0 esd ⊢
    have ne2 : ∀ {p2 : Addr}, H2 p2 = none → upd (upd H2 p2 (.dK [])) p2 (.dK (mergeK [] kD2)) sd = some (.dK kD1) := fun h => by
      have : sd ≠ _ := ne_of_none esd h
      rw [upd_ne this, upd_ne this]
      exact esd
    have sP2 : ∀ {p2 : Addr}, H2 p2 = none → Same H1 (upd (upd H2 p2 (.dK [])) p2 (.dK (mergeK [] kD2))) := fun h => by
      rw [upd_upd]
      exact s1.trans (same_new h)
    have wds : (wd = "set" ∨ wd = "input" ∨ wd = "raise" ∨ wd = "return" ∨ wd = "call" ∨ wd = "with" ∨ wd = "risk" ∨ wd = "undo" ∨ wd = "if" ∨ wd = "while" ∨ wd = "try") ∨ (wd ≠ "set" ∧ wd ≠ "input" ∧ wd ≠ "raise" ∧ wd ≠ "return" ∧ wd ≠ "call" ∧ wd ≠ "with" ∧ wd ≠ "risk" ∧ wd ≠ "undo" ∧ wd ≠ "if" ∧ wd ≠ "while" ∧ wd ≠ "try") := by
      by_cases h0 : wd = "set"
      · exact .inl (.inl h0)
      by_cases h1 : wd = "input"
      · exact .inl (.inr (.inl h1))
      by_cases h2 : wd = "raise"
      · exact .inl (.inr (.inr (.inl h2)))
      by_cases h3 : wd = "return"
      · exact .inl (.inr (.inr (.inr (.inl h3))))
      by_cases h4 : wd = "call"
      · exact .inl (.inr (.inr (.inr (.inr (.inl h4)))))
      by_cases h5 : wd = "with"
      · exact .inl (.inr (.inr (.inr (.inr (.inr (.inl h5))))))
      by_cases h6 : wd = "risk"
      · exact .inl (.inr (.inr (.inr (.inr (.inr (.inr (.inl h6)))))))
      by_cases h7 : wd = "undo"
      · exact .inl (.inr (.inr (.inr (.inr (.inr (.inr (.inr (.inl h7))))))))
      by_cases h8 : wd = "if"
      · exact .inl (.inr (.inr (.inr (.inr (.inr (.inr (.inr (.inr (.inl h8)))))))))
      by_cases h9 : wd = "while"
      · exact .inl (.inr (.inr (.inr (.inr (.inr (.inr (.inr (.inr (.inr (.inl h9))))))))))
      by_cases h10 : wd = "try"
      · exact .inl (.inr (.inr (.inr (.inr (.inr (.inr (.inr (.inr (.inr (.inr (h10)))))))))))
      exact .inr ⟨h0, h1, h2, h3, h4, h5, h6, h7, h8, h9, h10⟩
    rcases wds with (hw | hw | hw | hw | hw | hw | hw | hw | hw | hw | hw) | hw
    · -- set
      subst hw
      have ev : Option.getD (valV kD1 (.inr "set")) (Option.getD (valV (mergeK [] kD2) (.inr "set")) (V.int (-1))) = V.int 3 := by kernel_rfl
      by_cases lr : r.length = 2
      case neg =>
        refine ⟨_, rfl, a, _, rfl, .inr hq0, _, rfl, sd, rfl, .inl ⟨_, Rd.of esd⟩, _, rfl, fun p2 hp2 => ⟨upd_same, kD2, rfl, by decide, p2, rfl, .inl ⟨_, Rd.of upd_same⟩, _, rfl, _, rfl, _, DGet.k (k := .inr "set") upd_same, _, DGet.k (k := .inr "set") (ne2 hp2), rfl, _, rfl, iteS (by rw [ev, lx]; exact (Bool.not_eq_true' _).mpr (decide_eq_false fun z => lr (by have := V.int.inj z; omega))) ?_⟩⟩
        have : stmB (blkB n) (.tuple (.str "set" :: r)) = false := by
          match r, lr with
          | [], _ => kernel_rfl
          | [x], _ => kernel_rfl
          | [x, y], h => exact absurd rfl h
          | [x, y, z], _ => kernel_rfl
          | [x, y, z, u], _ => kernel_rfl
          | _ :: _ :: _ :: _ :: _ :: _, _ => rfl
        rw [this] at k
        exact k _ (sP2 hp2)
      refine ⟨_, rfl, a, _, rfl, .inr hq0, _, rfl, sd, rfl, .inl ⟨_, Rd.of esd⟩, _, rfl, fun p2 hp2 => ⟨upd_same, kD2, rfl, by decide, p2, rfl, .inl ⟨_, Rd.of upd_same⟩, _, rfl, _, rfl, _, DGet.k (k := .inr "set") upd_same, _, DGet.k (k := .inr "set") (ne2 hp2), rfl, _, rfl, iteE (by rw [ev, lx, lr]; decide +kernel) ?_⟩⟩
      have s0 := sP2 hp2
      obtain ⟨x, y, rfl⟩ := len2D lr
      obtain ⟨vx, vy, rfl, hx, hy⟩ := hd.two
      have gx := gm x (by simp)
      have dx := dm x (by simp)
      have gy := gm y (by simp)
      have dy := dm y (by simp)
      have es : stmB (blkB n) (.tuple [.str "set", x, y]) = (nameD x && exprD y) := by kernel_rfl
      rw [es] at k
      refine ⟨_, rfl, (by show 3 ≤ sizeLine; decide), fun l1 hl1 => ⟨l1, _, rfl, .inl (SqL.of upd_same), rfl, rfl, _, rfl, iteS (by decide +kernel) ?_⟩⟩
      have s1 := s0.trans (same_new (o := .lst [.str "set", .str "input", .str "raise"]) hl1)
      refine ⟨_, rfl, a, _, _, _, rfl, rfl, (SqT.same s1 hq), rfl, vx, x, rfl, hx.same s1, gx.mono (by decide), fun K1 t1 => ⟨_, rfl, ?_⟩⟩
      have s2 := s1.trans (t1)
      cases hn : nameD x with
      | false =>
        rw [hn] at k
        exact iteS rfl (k _ s2)
      | true =>
      rw [hn] at k
      refine iteE rfl ?_
      refine ⟨_, rfl, (by show 2 ≤ sizeLine; decide), fun l2 hl2 => ⟨l2, _, rfl, .inl (SqL.of upd_same), rfl, rfl, _, rfl, iteS (by decide +kernel) ?_⟩⟩
      have s3 := s2.trans (same_new (o := .lst [.str "set", .str "return"]) hl2)
      refine ⟨_, rfl, _, rfl, a, _, _, _, rfl, rfl, (SqT.same s3 hq), rfl, vy, y, rfl, hy.same s3, gy.mono (by decide), fun K2 t2 => ⟨_, rfl, ?_⟩⟩
      have s4 := s3.trans (t2)
      cases hs : exprD y with
      | false =>
        rw [hs] at k
        exact iteS rfl (k _ s4)
      | true =>
      rw [hs] at k
      refine iteE rfl ?_
      refine ⟨_, rfl, rfl, _, rfl, iteE (by decide +kernel) ?_⟩
      refine ⟨_, rfl, rfl, _, rfl, iteE (by decide +kernel) ?_⟩
      refine ⟨_, rfl, (by show 2 ≤ sizeLine; decide), fun l3 hl3 => ⟨l3, _, rfl, .inl (SqL.of upd_same), rfl, rfl, _, rfl, iteE (by decide +kernel) ?_⟩⟩
      have s5 := s4.trans (same_new (o := .lst [.str "risk", .str "undo"]) hl3)
      refine ⟨_, rfl, (by show 2 ≤ sizeLine; decide), fun l4 hl4 => ⟨l4, _, rfl, .inl (SqL.of upd_same), rfl, rfl, _, rfl, iteE (by decide +kernel) ?_⟩⟩
      have s6 := s5.trans (same_new (o := .lst [.str "if", .str "while"]) hl4)
      refine ⟨_, rfl, rfl, _, rfl, iteE (by decide +kernel) ?_⟩
      refine ⟨_, rfl, rfl, _, rfl, iteS (by decide +kernel) ?_⟩
      exact k _ s6
    · -- input
      subst hw
      have ev : Option.getD (valV kD1 (.inr "input")) (Option.getD (valV (mergeK [] kD2) (.inr "input")) (V.int (-1))) = V.int 2 := by kernel_rfl
      by_cases lr : r.length = 1
      case neg =>
        refine ⟨_, rfl, a, _, rfl, .inr hq0, _, rfl, sd, rfl, .inl ⟨_, Rd.of esd⟩, _, rfl, fun p2 hp2 => ⟨upd_same, kD2, rfl, by decide, p2, rfl, .inl ⟨_, Rd.of upd_same⟩, _, rfl, _, rfl, _, DGet.k (k := .inr "input") upd_same, _, DGet.k (k := .inr "input") (ne2 hp2), rfl, _, rfl, iteS (by rw [ev, lx]; exact (Bool.not_eq_true' _).mpr (decide_eq_false fun z => lr (by have := V.int.inj z; omega))) ?_⟩⟩
        have : stmB (blkB n) (.tuple (.str "input" :: r)) = false := by
          match r, lr with
          | [], _ => kernel_rfl
          | [x], h => exact absurd rfl h
          | [x, y], _ => kernel_rfl
          | [x, y, z], _ => kernel_rfl
          | [x, y, z, u], _ => kernel_rfl
          | _ :: _ :: _ :: _ :: _ :: _, _ => rfl
        rw [this] at k
        exact k _ (sP2 hp2)
      refine ⟨_, rfl, a, _, rfl, .inr hq0, _, rfl, sd, rfl, .inl ⟨_, Rd.of esd⟩, _, rfl, fun p2 hp2 => ⟨upd_same, kD2, rfl, by decide, p2, rfl, .inl ⟨_, Rd.of upd_same⟩, _, rfl, _, rfl, _, DGet.k (k := .inr "input") upd_same, _, DGet.k (k := .inr "input") (ne2 hp2), rfl, _, rfl, iteE (by rw [ev, lx, lr]; decide +kernel) ?_⟩⟩
      have s0 := sP2 hp2
      obtain ⟨x, rfl⟩ := len1D lr
      obtain ⟨vx, rfl, hx⟩ := hd.one
      have gx := gm x (by simp)
      have dx := dm x (by simp)
      have es : stmB (blkB n) (.tuple [.str "input", x]) = nameD x := by kernel_rfl
      rw [es] at k
      refine ⟨_, rfl, (by show 3 ≤ sizeLine; decide), fun l1 hl1 => ⟨l1, _, rfl, .inl (SqL.of upd_same), rfl, rfl, _, rfl, iteS (by decide +kernel) ?_⟩⟩
      have s1 := s0.trans (same_new (o := .lst [.str "set", .str "input", .str "raise"]) hl1)
      refine ⟨_, rfl, a, _, _, _, rfl, rfl, (SqT.same s1 hq), rfl, vx, x, rfl, hx.same s1, gx.mono (by decide), fun K1 t1 => ⟨_, rfl, ?_⟩⟩
      have s2 := s1.trans (t1)
      cases hn : nameD x with
      | false =>
        rw [hn] at k
        exact iteS rfl (k _ s2)
      | true =>
      rw [hn] at k
      refine iteE rfl ?_
      refine ⟨_, rfl, (by show 2 ≤ sizeLine; decide), fun l2 hl2 => ⟨l2, _, rfl, .inl (SqL.of upd_same), rfl, rfl, _, rfl, iteE (by decide +kernel) ?_⟩⟩
      have s3 := s2.trans (same_new (o := .lst [.str "set", .str "return"]) hl2)
      refine ⟨_, rfl, rfl, _, rfl, iteE (by decide +kernel) ?_⟩
      refine ⟨_, rfl, rfl, _, rfl, iteE (by decide +kernel) ?_⟩
      refine ⟨_, rfl, (by show 2 ≤ sizeLine; decide), fun l3 hl3 => ⟨l3, _, rfl, .inl (SqL.of upd_same), rfl, rfl, _, rfl, iteE (by decide +kernel) ?_⟩⟩
      have s4 := s3.trans (same_new (o := .lst [.str "risk", .str "undo"]) hl3)
      refine ⟨_, rfl, (by show 2 ≤ sizeLine; decide), fun l4 hl4 => ⟨l4, _, rfl, .inl (SqL.of upd_same), rfl, rfl, _, rfl, iteE (by decide +kernel) ?_⟩⟩
      have s5 := s4.trans (same_new (o := .lst [.str "if", .str "while"]) hl4)
      refine ⟨_, rfl, rfl, _, rfl, iteE (by decide +kernel) ?_⟩
      refine ⟨_, rfl, rfl, _, rfl, iteS (by decide +kernel) ?_⟩
      exact k _ s5
    · -- raise
      subst hw
      have ev : Option.getD (valV kD1 (.inr "raise")) (Option.getD (valV (mergeK [] kD2) (.inr "raise")) (V.int (-1))) = V.int 2 := by kernel_rfl
      by_cases lr : r.length = 1
      case neg =>
        refine ⟨_, rfl, a, _, rfl, .inr hq0, _, rfl, sd, rfl, .inl ⟨_, Rd.of esd⟩, _, rfl, fun p2 hp2 => ⟨upd_same, kD2, rfl, by decide, p2, rfl, .inl ⟨_, Rd.of upd_same⟩, _, rfl, _, rfl, _, DGet.k (k := .inr "raise") upd_same, _, DGet.k (k := .inr "raise") (ne2 hp2), rfl, _, rfl, iteS (by rw [ev, lx]; exact (Bool.not_eq_true' _).mpr (decide_eq_false fun z => lr (by have := V.int.inj z; omega))) ?_⟩⟩
        have : stmB (blkB n) (.tuple (.str "raise" :: r)) = false := by
          match r, lr with
          | [], _ => kernel_rfl
          | [x], h => exact absurd rfl h
          | [x, y], _ => kernel_rfl
          | [x, y, z], _ => kernel_rfl
          | [x, y, z, u], _ => kernel_rfl
          | _ :: _ :: _ :: _ :: _ :: _, _ => rfl
        rw [this] at k
        exact k _ (sP2 hp2)
      refine ⟨_, rfl, a, _, rfl, .inr hq0, _, rfl, sd, rfl, .inl ⟨_, Rd.of esd⟩, _, rfl, fun p2 hp2 => ⟨upd_same, kD2, rfl, by decide, p2, rfl, .inl ⟨_, Rd.of upd_same⟩, _, rfl, _, rfl, _, DGet.k (k := .inr "raise") upd_same, _, DGet.k (k := .inr "raise") (ne2 hp2), rfl, _, rfl, iteE (by rw [ev, lx, lr]; decide +kernel) ?_⟩⟩
      have s0 := sP2 hp2
      obtain ⟨x, rfl⟩ := len1D lr
      obtain ⟨vx, rfl, hx⟩ := hd.one
      have gx := gm x (by simp)
      have dx := dm x (by simp)
      have es : stmB (blkB n) (.tuple [.str "raise", x]) = nameD x := by kernel_rfl
      rw [es] at k
      refine ⟨_, rfl, (by show 3 ≤ sizeLine; decide), fun l1 hl1 => ⟨l1, _, rfl, .inl (SqL.of upd_same), rfl, rfl, _, rfl, iteS (by decide +kernel) ?_⟩⟩
      have s1 := s0.trans (same_new (o := .lst [.str "set", .str "input", .str "raise"]) hl1)
      refine ⟨_, rfl, a, _, _, _, rfl, rfl, (SqT.same s1 hq), rfl, vx, x, rfl, hx.same s1, gx.mono (by decide), fun K1 t1 => ⟨_, rfl, ?_⟩⟩
      have s2 := s1.trans (t1)
      cases hn : nameD x with
      | false =>
        rw [hn] at k
        exact iteS rfl (k _ s2)
      | true =>
      rw [hn] at k
      refine iteE rfl ?_
      refine ⟨_, rfl, (by show 2 ≤ sizeLine; decide), fun l2 hl2 => ⟨l2, _, rfl, .inl (SqL.of upd_same), rfl, rfl, _, rfl, iteE (by decide +kernel) ?_⟩⟩
      have s3 := s2.trans (same_new (o := .lst [.str "set", .str "return"]) hl2)
      refine ⟨_, rfl, rfl, _, rfl, iteE (by decide +kernel) ?_⟩
      refine ⟨_, rfl, rfl, _, rfl, iteE (by decide +kernel) ?_⟩
      refine ⟨_, rfl, (by show 2 ≤ sizeLine; decide), fun l3 hl3 => ⟨l3, _, rfl, .inl (SqL.of upd_same), rfl, rfl, _, rfl, iteE (by decide +kernel) ?_⟩⟩
      have s4 := s3.trans (same_new (o := .lst [.str "risk", .str "undo"]) hl3)
      refine ⟨_, rfl, (by show 2 ≤ sizeLine; decide), fun l4 hl4 => ⟨l4, _, rfl, .inl (SqL.of upd_same), rfl, rfl, _, rfl, iteE (by decide +kernel) ?_⟩⟩
      have s5 := s4.trans (same_new (o := .lst [.str "if", .str "while"]) hl4)
      refine ⟨_, rfl, rfl, _, rfl, iteE (by decide +kernel) ?_⟩
      refine ⟨_, rfl, rfl, _, rfl, iteS (by decide +kernel) ?_⟩
      exact k _ s5
    · -- return
      subst hw
      have ev : Option.getD (valV kD1 (.inr "return")) (Option.getD (valV (mergeK [] kD2) (.inr "return")) (V.int (-1))) = V.int 2 := by kernel_rfl
      by_cases lr : r.length = 1
      case neg =>
        refine ⟨_, rfl, a, _, rfl, .inr hq0, _, rfl, sd, rfl, .inl ⟨_, Rd.of esd⟩, _, rfl, fun p2 hp2 => ⟨upd_same, kD2, rfl, by decide, p2, rfl, .inl ⟨_, Rd.of upd_same⟩, _, rfl, _, rfl, _, DGet.k (k := .inr "return") upd_same, _, DGet.k (k := .inr "return") (ne2 hp2), rfl, _, rfl, iteS (by rw [ev, lx]; exact (Bool.not_eq_true' _).mpr (decide_eq_false fun z => lr (by have := V.int.inj z; omega))) ?_⟩⟩
        have : stmB (blkB n) (.tuple (.str "return" :: r)) = false := by
          match r, lr with
          | [], _ => kernel_rfl
          | [x], h => exact absurd rfl h
          | [x, y], _ => kernel_rfl
          | [x, y, z], _ => kernel_rfl
          | [x, y, z, u], _ => kernel_rfl
          | _ :: _ :: _ :: _ :: _ :: _, _ => rfl
        rw [this] at k
        exact k _ (sP2 hp2)
      refine ⟨_, rfl, a, _, rfl, .inr hq0, _, rfl, sd, rfl, .inl ⟨_, Rd.of esd⟩, _, rfl, fun p2 hp2 => ⟨upd_same, kD2, rfl, by decide, p2, rfl, .inl ⟨_, Rd.of upd_same⟩, _, rfl, _, rfl, _, DGet.k (k := .inr "return") upd_same, _, DGet.k (k := .inr "return") (ne2 hp2), rfl, _, rfl, iteE (by rw [ev, lx, lr]; decide +kernel) ?_⟩⟩
      have s0 := sP2 hp2
      obtain ⟨x, rfl⟩ := len1D lr
      obtain ⟨vx, rfl, hx⟩ := hd.one
      have gx := gm x (by simp)
      have dx := dm x (by simp)
      have es : stmB (blkB n) (.tuple [.str "return", x]) = exprD x := by kernel_rfl
      rw [es] at k
      refine ⟨_, rfl, (by show 3 ≤ sizeLine; decide), fun l1 hl1 => ⟨l1, _, rfl, .inl (SqL.of upd_same), rfl, rfl, _, rfl, iteE (by decide +kernel) ?_⟩⟩
      have s1 := s0.trans (same_new (o := .lst [.str "set", .str "input", .str "raise"]) hl1)
      refine ⟨_, rfl, (by show 2 ≤ sizeLine; decide), fun l2 hl2 => ⟨l2, _, rfl, .inl (SqL.of upd_same), rfl, rfl, _, rfl, iteS (by decide +kernel) ?_⟩⟩
      have s2 := s1.trans (same_new (o := .lst [.str "set", .str "return"]) hl2)
      refine ⟨_, rfl, _, rfl, a, _, _, _, rfl, rfl, (SqT.same s2 hq), rfl, vx, x, rfl, hx.same s2, gx.mono (by decide), fun K2 t2 => ⟨_, rfl, ?_⟩⟩
      have s3 := s2.trans (t2)
      cases hs : exprD x with
      | false =>
        rw [hs] at k
        exact iteS rfl (k _ s3)
      | true =>
      rw [hs] at k
      refine iteE rfl ?_
      refine ⟨_, rfl, rfl, _, rfl, iteE (by decide +kernel) ?_⟩
      refine ⟨_, rfl, rfl, _, rfl, iteE (by decide +kernel) ?_⟩
      refine ⟨_, rfl, (by show 2 ≤ sizeLine; decide), fun l3 hl3 => ⟨l3, _, rfl, .inl (SqL.of upd_same), rfl, rfl, _, rfl, iteE (by decide +kernel) ?_⟩⟩
      have s4 := s3.trans (same_new (o := .lst [.str "risk", .str "undo"]) hl3)
      refine ⟨_, rfl, (by show 2 ≤ sizeLine; decide), fun l4 hl4 => ⟨l4, _, rfl, .inl (SqL.of upd_same), rfl, rfl, _, rfl, iteE (by decide +kernel) ?_⟩⟩
      have s5 := s4.trans (same_new (o := .lst [.str "if", .str "while"]) hl4)
      refine ⟨_, rfl, rfl, _, rfl, iteE (by decide +kernel) ?_⟩
      refine ⟨_, rfl, rfl, _, rfl, iteS (by decide +kernel) ?_⟩
      exact k _ s5
    · -- call
      subst hw
      have ev : Option.getD (valV kD1 (.inr "call")) (Option.getD (valV (mergeK [] kD2) (.inr "call")) (V.int (-1))) = V.int 4 := by kernel_rfl
      by_cases lr : r.length = 3
      case neg =>
        refine ⟨_, rfl, a, _, rfl, .inr hq0, _, rfl, sd, rfl, .inl ⟨_, Rd.of esd⟩, _, rfl, fun p2 hp2 => ⟨upd_same, kD2, rfl, by decide, p2, rfl, .inl ⟨_, Rd.of upd_same⟩, _, rfl, _, rfl, _, DGet.k (k := .inr "call") upd_same, _, DGet.k (k := .inr "call") (ne2 hp2), rfl, _, rfl, iteS (by rw [ev, lx]; exact (Bool.not_eq_true' _).mpr (decide_eq_false fun z => lr (by have := V.int.inj z; omega))) ?_⟩⟩
        have : stmB (blkB n) (.tuple (.str "call" :: r)) = false := by
          match r, lr with
          | [], _ => kernel_rfl
          | [x], _ => kernel_rfl
          | [x, y], _ => kernel_rfl
          | [x, y, z], h => exact absurd rfl h
          | [x, y, z, u], _ => kernel_rfl
          | _ :: _ :: _ :: _ :: _ :: _, _ => rfl
        rw [this] at k
        exact k _ (sP2 hp2)
      refine ⟨_, rfl, a, _, rfl, .inr hq0, _, rfl, sd, rfl, .inl ⟨_, Rd.of esd⟩, _, rfl, fun p2 hp2 => ⟨upd_same, kD2, rfl, by decide, p2, rfl, .inl ⟨_, Rd.of upd_same⟩, _, rfl, _, rfl, _, DGet.k (k := .inr "call") upd_same, _, DGet.k (k := .inr "call") (ne2 hp2), rfl, _, rfl, iteE (by rw [ev, lx, lr]; decide +kernel) ?_⟩⟩
      have s0 := sP2 hp2
      obtain ⟨x, y, z, rfl⟩ := len3D lr
      obtain ⟨vx, vy, vz, rfl, hx, hy, hz⟩ := hd.three
      have gx := gm x (by simp)
      have dx := dm x (by simp)
      have gy := gm y (by simp)
      have dy := dm y (by simp)
      have gz := gm z (by simp)
      have dz := dm z (by simp)
      have es : stmB (blkB n) (.tuple [.str "call", x, y, z]) = ((isNonD x || nameD x) && callB (.tuple [y, z])) := by kernel_rfl
      rw [es] at k
      refine ⟨_, rfl, (by show 3 ≤ sizeLine; decide), fun l1 hl1 => ⟨l1, _, rfl, .inl (SqL.of upd_same), rfl, rfl, _, rfl, iteE (by decide +kernel) ?_⟩⟩
      have s1 := s0.trans (same_new (o := .lst [.str "set", .str "input", .str "raise"]) hl1)
      refine ⟨_, rfl, (by show 2 ≤ sizeLine; decide), fun l2 hl2 => ⟨l2, _, rfl, .inl (SqL.of upd_same), rfl, rfl, _, rfl, iteE (by decide +kernel) ?_⟩⟩
      have s2 := s1.trans (same_new (o := .lst [.str "set", .str "return"]) hl2)
      refine ⟨_, rfl, rfl, _, rfl, iteS (by decide +kernel) ?_⟩
      refine ⟨_, rfl, a, _, _, _, rfl, rfl, (SqT.same s2 hq), rfl, rfl, _, rfl, ?_⟩
      rw [dp_non hx]
      cases hn : isNonD x with
      | true =>
        rw [hn] at k
        refine iteS rfl ⟨_, rfl, iteS rfl ⟨_, rfl, _, rfl, a, _, rfl, (SqT.same s2 hq), fun z => Nat.noConfusion (show 2 = 0 from z.1), fun q hq2 => ?_⟩⟩
        rw [show cutV [V.str "call", vx, vy, vz] (some 2) none = [vy, vz] from rfl]
        have s9 := s2.trans (same_new (o := .tup [vy, vz]) hq2)
        exact ⟨.ref q, _, rfl, .tup (SqT.of upd_same) (.cons (hy.same s9) (.cons (hz.same s9) .nil)), g2 gy gz gd, fun H' s' => k _ (s9.trans s')⟩
      | false =>
        rw [hn, Bool.false_or] at k
        refine iteE rfl ⟨_, rfl, a, _, _, _, rfl, rfl, (SqT.same s2 hq), rfl, vx, x, rfl, hx.same s2, gx.mono (by decide), fun K1 t1 => ⟨_, rfl, ?_⟩⟩
        have s8 := s2.trans t1
        cases hnm : nameD x with
        | false =>
          rw [hnm] at k
          exact iteE rfl (k _ s8)
        | true =>
          rw [hnm] at k
          refine iteS rfl ⟨_, rfl, _, rfl, a, _, rfl, SqT.same s8 hq, fun z => Nat.noConfusion (show 2 = 0 from z.1), fun q hq2 => ?_⟩
          rw [show cutV [V.str "call", vx, vy, vz] (some 2) none = [vy, vz] from rfl]
          have s9 := s8.trans (same_new (o := .tup [vy, vz]) hq2)
          exact ⟨.ref q, _, rfl, .tup (SqT.of upd_same) (.cons (hy.same s9) (.cons (hz.same s9) .nil)), g2 gy gz gd, fun H' s' => k _ (s9.trans s')⟩
    · -- with
      subst hw
      have ev : Option.getD (valV kD1 (.inr "with")) (Option.getD (valV (mergeK [] kD2) (.inr "with")) (V.int (-1))) = V.int 5 := by kernel_rfl
      by_cases lr : r.length = 4
      case neg =>
        refine ⟨_, rfl, a, _, rfl, .inr hq0, _, rfl, sd, rfl, .inl ⟨_, Rd.of esd⟩, _, rfl, fun p2 hp2 => ⟨upd_same, kD2, rfl, by decide, p2, rfl, .inl ⟨_, Rd.of upd_same⟩, _, rfl, _, rfl, _, DGet.k (k := .inr "with") upd_same, _, DGet.k (k := .inr "with") (ne2 hp2), rfl, _, rfl, iteS (by rw [ev, lx]; exact (Bool.not_eq_true' _).mpr (decide_eq_false fun z => lr (by have := V.int.inj z; omega))) ?_⟩⟩
        have : stmB (blkB n) (.tuple (.str "with" :: r)) = false := by
          match r, lr with
          | [], _ => kernel_rfl
          | [x], _ => kernel_rfl
          | [x, y], _ => kernel_rfl
          | [x, y, z], _ => kernel_rfl
          | [x, y, z, u], h => exact absurd rfl h
          | _ :: _ :: _ :: _ :: _ :: _, _ => rfl
        rw [this] at k
        exact k _ (sP2 hp2)
      refine ⟨_, rfl, a, _, rfl, .inr hq0, _, rfl, sd, rfl, .inl ⟨_, Rd.of esd⟩, _, rfl, fun p2 hp2 => ⟨upd_same, kD2, rfl, by decide, p2, rfl, .inl ⟨_, Rd.of upd_same⟩, _, rfl, _, rfl, _, DGet.k (k := .inr "with") upd_same, _, DGet.k (k := .inr "with") (ne2 hp2), rfl, _, rfl, iteE (by rw [ev, lx, lr]; decide +kernel) ?_⟩⟩
      have s0 := sP2 hp2
      obtain ⟨x, y, z, u, rfl⟩ := len4D lr
      obtain ⟨vx, vy, vz, vu, rfl, hx, hy, hz, hu⟩ := hd.four
      have gx := gm x (by simp)
      have dx := dm x (by simp)
      have gy := gm y (by simp)
      have dy := dm y (by simp)
      have gz := gm z (by simp)
      have dz := dm z (by simp)
      have gu := gm u (by simp)
      have du := dm u (by simp)
      have es : stmB (blkB n) (.tuple [.str "with", x, y, z, u]) = (callB x && (callB y && (rowD z && blkB n u))) := by kernel_rfl
      rw [es] at k
      refine ⟨_, rfl, (by show 3 ≤ sizeLine; decide), fun l1 hl1 => ⟨l1, _, rfl, .inl (SqL.of upd_same), rfl, rfl, _, rfl, iteE (by decide +kernel) ?_⟩⟩
      have s1 := s0.trans (same_new (o := .lst [.str "set", .str "input", .str "raise"]) hl1)
      refine ⟨_, rfl, (by show 2 ≤ sizeLine; decide), fun l2 hl2 => ⟨l2, _, rfl, .inl (SqL.of upd_same), rfl, rfl, _, rfl, iteE (by decide +kernel) ?_⟩⟩
      have s2 := s1.trans (same_new (o := .lst [.str "set", .str "return"]) hl2)
      refine ⟨_, rfl, rfl, _, rfl, iteE (by decide +kernel) ?_⟩
      refine ⟨_, rfl, rfl, _, rfl, iteS (by decide +kernel) ?_⟩
      refine ⟨_, rfl, a, _, _, _, rfl, rfl, (SqT.same s2 hq), rfl, vx, x, rfl, hx.same s2, gx.mono (by decide), fun K_x t_x => ⟨_, rfl, ?_⟩⟩
      have s3 := s2.trans (t_x)
      cases h_c1 : callB x with
      | false =>
        rw [h_c1] at k
        exact iteE rfl ⟨_, rfl, _, rfl, iteE rfl (k _ s3)⟩
      | true =>
      rw [h_c1] at k
      refine iteS rfl ?_
      refine ⟨_, rfl, a, _, _, _, rfl, rfl, (SqT.same s3 hq), rfl, vy, y, rfl, hy.same s3, gy.mono (by decide), fun K_y t_y => ⟨_, rfl, ?_⟩⟩
      have s4 := s3.trans (t_y)
      cases h_c2 : callB y with
      | false =>
        rw [h_c2] at k
        exact iteE rfl ⟨_, rfl, _, rfl, iteE rfl (k _ s4)⟩
      | true =>
      rw [h_c2] at k
      refine iteS rfl ?_
      refine ⟨_, rfl, a, _, _, _, rfl, rfl, (SqT.same s4 hq), rfl, vz, z, rfl, hz.same s4, gz.mono (by decide), fun K_z t_z => ?_⟩
      have s5 := s4.trans (t_z)
      refine ⟨_, rfl, _, rfl, ?_⟩
      cases h_c3 : rowD z with
      | false =>
        rw [h_c3] at k
        exact iteE rfl (k _ s5)
      | true =>
      rw [h_c3] at k
      exact iteS rfl ⟨_, rfl, a, _, _, _, rfl, rfl, (SqT.same s5 hq), rfl, vu, u, rfl, hu.same s5, gu.mono (by decide), by omega, fun H' s' => k _ (s5.trans s')⟩
    · -- risk
      subst hw
      have ev : Option.getD (valV kD1 (.inr "risk")) (Option.getD (valV (mergeK [] kD2) (.inr "risk")) (V.int (-1))) = V.int 2 := by kernel_rfl
      by_cases lr : r.length = 1
      case neg =>
        refine ⟨_, rfl, a, _, rfl, .inr hq0, _, rfl, sd, rfl, .inl ⟨_, Rd.of esd⟩, _, rfl, fun p2 hp2 => ⟨upd_same, kD2, rfl, by decide, p2, rfl, .inl ⟨_, Rd.of upd_same⟩, _, rfl, _, rfl, _, DGet.k (k := .inr "risk") upd_same, _, DGet.k (k := .inr "risk") (ne2 hp2), rfl, _, rfl, iteS (by rw [ev, lx]; exact (Bool.not_eq_true' _).mpr (decide_eq_false fun z => lr (by have := V.int.inj z; omega))) ?_⟩⟩
        have : stmB (blkB n) (.tuple (.str "risk" :: r)) = false := by
          match r, lr with
          | [], _ => kernel_rfl
          | [x], h => exact absurd rfl h
          | [x, y], _ => kernel_rfl
          | [x, y, z], _ => kernel_rfl
          | [x, y, z, u], _ => kernel_rfl
          | _ :: _ :: _ :: _ :: _ :: _, _ => rfl
        rw [this] at k
        exact k _ (sP2 hp2)
      refine ⟨_, rfl, a, _, rfl, .inr hq0, _, rfl, sd, rfl, .inl ⟨_, Rd.of esd⟩, _, rfl, fun p2 hp2 => ⟨upd_same, kD2, rfl, by decide, p2, rfl, .inl ⟨_, Rd.of upd_same⟩, _, rfl, _, rfl, _, DGet.k (k := .inr "risk") upd_same, _, DGet.k (k := .inr "risk") (ne2 hp2), rfl, _, rfl, iteE (by rw [ev, lx, lr]; decide +kernel) ?_⟩⟩
      have s0 := sP2 hp2
      obtain ⟨x, rfl⟩ := len1D lr
      obtain ⟨vx, rfl, hx⟩ := hd.one
      have gx := gm x (by simp)
      have dx := dm x (by simp)
      have es : stmB (blkB n) (.tuple [.str "risk", x]) = (!isNilD x && rowD x) := by kernel_rfl
      rw [es] at k
      refine ⟨_, rfl, (by show 3 ≤ sizeLine; decide), fun l1 hl1 => ⟨l1, _, rfl, .inl (SqL.of upd_same), rfl, rfl, _, rfl, iteE (by decide +kernel) ?_⟩⟩
      have s1 := s0.trans (same_new (o := .lst [.str "set", .str "input", .str "raise"]) hl1)
      refine ⟨_, rfl, (by show 2 ≤ sizeLine; decide), fun l2 hl2 => ⟨l2, _, rfl, .inl (SqL.of upd_same), rfl, rfl, _, rfl, iteE (by decide +kernel) ?_⟩⟩
      have s2 := s1.trans (same_new (o := .lst [.str "set", .str "return"]) hl2)
      refine ⟨_, rfl, rfl, _, rfl, iteE (by decide +kernel) ?_⟩
      refine ⟨_, rfl, rfl, _, rfl, iteE (by decide +kernel) ?_⟩
      refine ⟨_, rfl, (by show 2 ≤ sizeLine; decide), fun l3 hl3 => ⟨l3, _, rfl, .inl (SqL.of upd_same), rfl, rfl, _, rfl, iteS (by decide +kernel) ?_⟩⟩
      have s3 := s2.trans (same_new (o := .lst [.str "risk", .str "undo"]) hl3)
      refine ⟨_, rfl, a, _, _, _, rfl, rfl, (SqT.same s3 hq), rfl, vx, x, rfl, hx.same s3, gx.mono (by decide), fun K3 t3 => ⟨_, rfl, ?_⟩⟩
      have s4 := s3.trans (t3)
      cases hr3 : rowD x with
      | false =>
        rw [hr3, Bool.and_false] at k
        exact iteS rfl (iteS rfl (k _ s4))
      | true =>
      rw [hr3] at k
      refine iteE rfl ?_
      obtain ⟨ns, rfl, _⟩ := row_of hr3 gx.gb
      obtain ⟨ax, xs0, rfl, hax, hxd⟩ := hx.tupInv
      refine ⟨_, rfl, a, _, _, _, rfl, rfl, (SqT.same s4 hq), rfl, (by show 0 ≤ sizeLine; decide), fun q hq2 => ?_⟩
      have s5 := s4.trans (same_new (o := .tup []) hq2)
      refine ⟨ax, q, _, rfl, rfl, SqT.same s5 hax, SqT.of upd_same, _, rfl, ?_⟩
      have en : xs0.isEmpty = isNilD (nmD ns) := by
        have l := hxd.len
        cases ns with
        | nil => cases xs0 with
          | nil => rfl
          | cons => cases l
        | cons => cases xs0 with
          | nil => cases l
          | cons => rfl
      rw [en]
      cases hnil : isNilD (nmD ns) with
      | true =>
        rw [hnil] at k
        exact iteS rfl (k _ s5)
      | false =>
      rw [hnil] at k
      refine iteE rfl ?_
      refine ⟨_, rfl, (by show 2 ≤ sizeLine; decide), fun l4 hl4 => ⟨l4, _, rfl, .inl (SqL.of upd_same), rfl, rfl, _, rfl, iteE (by decide +kernel) ?_⟩⟩
      have s6 := s5.trans (same_new (o := .lst [.str "if", .str "while"]) hl4)
      refine ⟨_, rfl, rfl, _, rfl, iteE (by decide +kernel) ?_⟩
      refine ⟨_, rfl, rfl, _, rfl, iteS (by decide +kernel) ?_⟩
      exact k _ s6
    · -- undo
      subst hw
      have ev : Option.getD (valV kD1 (.inr "undo")) (Option.getD (valV (mergeK [] kD2) (.inr "undo")) (V.int (-1))) = V.int 3 := by kernel_rfl
      by_cases lr : r.length = 2
      case neg =>
        refine ⟨_, rfl, a, _, rfl, .inr hq0, _, rfl, sd, rfl, .inl ⟨_, Rd.of esd⟩, _, rfl, fun p2 hp2 => ⟨upd_same, kD2, rfl, by decide, p2, rfl, .inl ⟨_, Rd.of upd_same⟩, _, rfl, _, rfl, _, DGet.k (k := .inr "undo") upd_same, _, DGet.k (k := .inr "undo") (ne2 hp2), rfl, _, rfl, iteS (by rw [ev, lx]; exact (Bool.not_eq_true' _).mpr (decide_eq_false fun z => lr (by have := V.int.inj z; omega))) ?_⟩⟩
        have : stmB (blkB n) (.tuple (.str "undo" :: r)) = false := by
          match r, lr with
          | [], _ => kernel_rfl
          | [x], _ => kernel_rfl
          | [x, y], h => exact absurd rfl h
          | [x, y, z], _ => kernel_rfl
          | [x, y, z, u], _ => kernel_rfl
          | _ :: _ :: _ :: _ :: _ :: _, _ => rfl
        rw [this] at k
        exact k _ (sP2 hp2)
      refine ⟨_, rfl, a, _, rfl, .inr hq0, _, rfl, sd, rfl, .inl ⟨_, Rd.of esd⟩, _, rfl, fun p2 hp2 => ⟨upd_same, kD2, rfl, by decide, p2, rfl, .inl ⟨_, Rd.of upd_same⟩, _, rfl, _, rfl, _, DGet.k (k := .inr "undo") upd_same, _, DGet.k (k := .inr "undo") (ne2 hp2), rfl, _, rfl, iteE (by rw [ev, lx, lr]; decide +kernel) ?_⟩⟩
      have s0 := sP2 hp2
      obtain ⟨x, y, rfl⟩ := len2D lr
      obtain ⟨vx, vy, rfl, hx, hy⟩ := hd.two
      have gx := gm x (by simp)
      have dx := dm x (by simp)
      have gy := gm y (by simp)
      have dy := dm y (by simp)
      have es : stmB (blkB n) (.tuple [.str "undo", x, y]) = (!isNilD x && (rowD x && blkB n y)) := by kernel_rfl
      rw [es] at k
      refine ⟨_, rfl, (by show 3 ≤ sizeLine; decide), fun l1 hl1 => ⟨l1, _, rfl, .inl (SqL.of upd_same), rfl, rfl, _, rfl, iteE (by decide +kernel) ?_⟩⟩
      have s1 := s0.trans (same_new (o := .lst [.str "set", .str "input", .str "raise"]) hl1)
      refine ⟨_, rfl, (by show 2 ≤ sizeLine; decide), fun l2 hl2 => ⟨l2, _, rfl, .inl (SqL.of upd_same), rfl, rfl, _, rfl, iteE (by decide +kernel) ?_⟩⟩
      have s2 := s1.trans (same_new (o := .lst [.str "set", .str "return"]) hl2)
      refine ⟨_, rfl, rfl, _, rfl, iteE (by decide +kernel) ?_⟩
      refine ⟨_, rfl, rfl, _, rfl, iteE (by decide +kernel) ?_⟩
      refine ⟨_, rfl, (by show 2 ≤ sizeLine; decide), fun l3 hl3 => ⟨l3, _, rfl, .inl (SqL.of upd_same), rfl, rfl, _, rfl, iteS (by decide +kernel) ?_⟩⟩
      have s3 := s2.trans (same_new (o := .lst [.str "risk", .str "undo"]) hl3)
      refine ⟨_, rfl, a, _, _, _, rfl, rfl, (SqT.same s3 hq), rfl, vx, x, rfl, hx.same s3, gx.mono (by decide), fun K3 t3 => ⟨_, rfl, ?_⟩⟩
      have s4 := s3.trans (t3)
      cases hr3 : rowD x with
      | false =>
        rw [hr3, Bool.false_and, Bool.and_false] at k
        exact iteS rfl (iteS rfl (k _ s4))
      | true =>
      rw [hr3] at k
      refine iteE rfl ?_
      obtain ⟨ns, rfl, _⟩ := row_of hr3 gx.gb
      obtain ⟨ax, xs0, rfl, hax, hxd⟩ := hx.tupInv
      refine ⟨_, rfl, a, _, _, _, rfl, rfl, (SqT.same s4 hq), rfl, (by show 0 ≤ sizeLine; decide), fun q hq2 => ?_⟩
      have s5 := s4.trans (same_new (o := .tup []) hq2)
      refine ⟨ax, q, _, rfl, rfl, SqT.same s5 hax, SqT.of upd_same, _, rfl, ?_⟩
      have en : xs0.isEmpty = isNilD (nmD ns) := by
        have l := hxd.len
        cases ns with
        | nil => cases xs0 with
          | nil => rfl
          | cons => cases l
        | cons => cases xs0 with
          | nil => cases l
          | cons => rfl
      rw [en]
      cases hnil : isNilD (nmD ns) with
      | true =>
        rw [hnil] at k
        exact iteS rfl (k _ s5)
      | false =>
      rw [hnil] at k
      refine iteE rfl ?_
      refine ⟨_, rfl, (by show 2 ≤ sizeLine; decide), fun l4 hl4 => ⟨l4, _, rfl, .inl (SqL.of upd_same), rfl, rfl, _, rfl, iteE (by decide +kernel) ?_⟩⟩
      have s6 := s5.trans (same_new (o := .lst [.str "if", .str "while"]) hl4)
      refine ⟨_, rfl, rfl, _, rfl, iteE (by decide +kernel) ?_⟩
      refine ⟨_, rfl, rfl, _, rfl, iteE (by decide +kernel) ?_⟩
      exact ⟨_, rfl, a, _, _, _, rfl, rfl, (SqT.same s6 hq), rfl, vy, y, rfl, hy.same s6, gy.mono (by decide), by omega, fun H' s' => k _ (s6.trans s')⟩
    · -- if
      subst hw
      have ev : Option.getD (valV kD1 (.inr "if")) (Option.getD (valV (mergeK [] kD2) (.inr "if")) (V.int (-1))) = V.int 3 := by kernel_rfl
      by_cases lr : r.length = 2
      case neg =>
        refine ⟨_, rfl, a, _, rfl, .inr hq0, _, rfl, sd, rfl, .inl ⟨_, Rd.of esd⟩, _, rfl, fun p2 hp2 => ⟨upd_same, kD2, rfl, by decide, p2, rfl, .inl ⟨_, Rd.of upd_same⟩, _, rfl, _, rfl, _, DGet.k (k := .inr "if") upd_same, _, DGet.k (k := .inr "if") (ne2 hp2), rfl, _, rfl, iteS (by rw [ev, lx]; exact (Bool.not_eq_true' _).mpr (decide_eq_false fun z => lr (by have := V.int.inj z; omega))) ?_⟩⟩
        have : stmB (blkB n) (.tuple (.str "if" :: r)) = false := by
          match r, lr with
          | [], _ => kernel_rfl
          | [x], _ => kernel_rfl
          | [x, y], h => exact absurd rfl h
          | [x, y, z], _ => kernel_rfl
          | [x, y, z, u], _ => kernel_rfl
          | _ :: _ :: _ :: _ :: _ :: _, _ => rfl
        rw [this] at k
        exact k _ (sP2 hp2)
      refine ⟨_, rfl, a, _, rfl, .inr hq0, _, rfl, sd, rfl, .inl ⟨_, Rd.of esd⟩, _, rfl, fun p2 hp2 => ⟨upd_same, kD2, rfl, by decide, p2, rfl, .inl ⟨_, Rd.of upd_same⟩, _, rfl, _, rfl, _, DGet.k (k := .inr "if") upd_same, _, DGet.k (k := .inr "if") (ne2 hp2), rfl, _, rfl, iteE (by rw [ev, lx, lr]; decide +kernel) ?_⟩⟩
      have s0 := sP2 hp2
      obtain ⟨x, y, rfl⟩ := len2D lr
      obtain ⟨vx, vy, rfl, hx, hy⟩ := hd.two
      have gx := gm x (by simp)
      have dx := dm x (by simp)
      have gy := gm y (by simp)
      have dy := dm y (by simp)
      have es : stmB (blkB n) (.tuple [.str "if", x, y]) = (blkB n x && blkB n y) := by kernel_rfl
      rw [es] at k
      refine ⟨_, rfl, (by show 3 ≤ sizeLine; decide), fun l1 hl1 => ⟨l1, _, rfl, .inl (SqL.of upd_same), rfl, rfl, _, rfl, iteE (by decide +kernel) ?_⟩⟩
      have s1 := s0.trans (same_new (o := .lst [.str "set", .str "input", .str "raise"]) hl1)
      refine ⟨_, rfl, (by show 2 ≤ sizeLine; decide), fun l2 hl2 => ⟨l2, _, rfl, .inl (SqL.of upd_same), rfl, rfl, _, rfl, iteE (by decide +kernel) ?_⟩⟩
      have s2 := s1.trans (same_new (o := .lst [.str "set", .str "return"]) hl2)
      refine ⟨_, rfl, rfl, _, rfl, iteE (by decide +kernel) ?_⟩
      refine ⟨_, rfl, rfl, _, rfl, iteE (by decide +kernel) ?_⟩
      refine ⟨_, rfl, (by show 2 ≤ sizeLine; decide), fun l3 hl3 => ⟨l3, _, rfl, .inl (SqL.of upd_same), rfl, rfl, _, rfl, iteE (by decide +kernel) ?_⟩⟩
      have s3 := s2.trans (same_new (o := .lst [.str "risk", .str "undo"]) hl3)
      refine ⟨_, rfl, (by show 2 ≤ sizeLine; decide), fun l4 hl4 => ⟨l4, _, rfl, .inl (SqL.of upd_same), rfl, rfl, _, rfl, iteS (by decide +kernel) ?_⟩⟩
      have s4 := s3.trans (same_new (o := .lst [.str "if", .str "while"]) hl4)
      refine ⟨_, rfl, _, rfl, a, _, rfl, (SqT.same s4 hq), fun z => Nat.noConfusion (show 1 = 0 from z.1), fun t ht => ?_⟩
      rw [show cutV [V.str "if", vx, vy] (some 1) none = [vx, vy] from rfl]
      have s5 := s4.trans (same_new (o := .tup [vx, vy]) ht)
      refine ⟨t, rfl, ⟨_, SqT.of upd_same⟩, fun D hD => ?_⟩
      refine lc_tup (K := K) (a := t) (xs := [vx, vy]) (fun i H' => Same (upd _ t (.tup [vx, vy])) H' ∧ H' D = some (.lst (((([x, y] : List PyData).take i).map (blkB n)).map V.bl))) ⟨same_new hD, upd_same⟩ (fun i H' _ h' => SqT.same h'.1 (SqT.of upd_same)) ?_ ?_
      · rintro i v H4 hz ⟨u5, e1⟩
        have hda : DpAll K H1 [vx, vy] [x, y] := .cons hx (.cons hy (.nil))
        obtain ⟨z, hza, hzd⟩ := hda.at hz
        have mz : z ∈ ([x, y] : List PyData) := List.mem_of_getElem? hza
        refine ⟨rfl, _, rfl, v, z, rfl, hzd.same (s5.trans u5), (gm z mz).mono (by decide), by have := dm z mz; omega, fun H5 u6 => ?_⟩
        refine ⟨_, u6 _ _ e1, smallX (by rw [List.length_map, List.length_map, List.length_take]; show min i 2 ≤ 100000; omega), fun c o e => ?_, ?_⟩
        · rw [upd_ne (ne_of_none e hD)]
          exact u6 _ _ (u5 _ _ e)
        · rw [upd_same, take_snoc hza, List.map_append, List.map_append]
          rfl
      · rintro H4 ⟨u5, e1⟩
        refine ⟨D, _, rfl, SqL.of e1, ?_⟩
        rw [all_map_id]
        have ea : (([x, y] : List PyData).take [vx, vy].length).all (blkB n) = (blkB n x && blkB n y) := by
          show (blkB n x && (blkB n y && true)) = _
          rw [Bool.and_true]
        rw [ea]
        exact k _ (s5.trans u5)
    · -- while
      subst hw
      have ev : Option.getD (valV kD1 (.inr "while")) (Option.getD (valV (mergeK [] kD2) (.inr "while")) (V.int (-1))) = V.int 2 := by kernel_rfl
      by_cases lr : r.length = 1
      case neg =>
        refine ⟨_, rfl, a, _, rfl, .inr hq0, _, rfl, sd, rfl, .inl ⟨_, Rd.of esd⟩, _, rfl, fun p2 hp2 => ⟨upd_same, kD2, rfl, by decide, p2, rfl, .inl ⟨_, Rd.of upd_same⟩, _, rfl, _, rfl, _, DGet.k (k := .inr "while") upd_same, _, DGet.k (k := .inr "while") (ne2 hp2), rfl, _, rfl, iteS (by rw [ev, lx]; exact (Bool.not_eq_true' _).mpr (decide_eq_false fun z => lr (by have := V.int.inj z; omega))) ?_⟩⟩
        have : stmB (blkB n) (.tuple (.str "while" :: r)) = false := by
          match r, lr with
          | [], _ => kernel_rfl
          | [x], h => exact absurd rfl h
          | [x, y], _ => kernel_rfl
          | [x, y, z], _ => kernel_rfl
          | [x, y, z, u], _ => kernel_rfl
          | _ :: _ :: _ :: _ :: _ :: _, _ => rfl
        rw [this] at k
        exact k _ (sP2 hp2)
      refine ⟨_, rfl, a, _, rfl, .inr hq0, _, rfl, sd, rfl, .inl ⟨_, Rd.of esd⟩, _, rfl, fun p2 hp2 => ⟨upd_same, kD2, rfl, by decide, p2, rfl, .inl ⟨_, Rd.of upd_same⟩, _, rfl, _, rfl, _, DGet.k (k := .inr "while") upd_same, _, DGet.k (k := .inr "while") (ne2 hp2), rfl, _, rfl, iteE (by rw [ev, lx, lr]; decide +kernel) ?_⟩⟩
      have s0 := sP2 hp2
      obtain ⟨x, rfl⟩ := len1D lr
      obtain ⟨vx, rfl, hx⟩ := hd.one
      have gx := gm x (by simp)
      have dx := dm x (by simp)
      have es : stmB (blkB n) (.tuple [.str "while", x]) = blkB n x := by kernel_rfl
      rw [es] at k
      refine ⟨_, rfl, (by show 3 ≤ sizeLine; decide), fun l1 hl1 => ⟨l1, _, rfl, .inl (SqL.of upd_same), rfl, rfl, _, rfl, iteE (by decide +kernel) ?_⟩⟩
      have s1 := s0.trans (same_new (o := .lst [.str "set", .str "input", .str "raise"]) hl1)
      refine ⟨_, rfl, (by show 2 ≤ sizeLine; decide), fun l2 hl2 => ⟨l2, _, rfl, .inl (SqL.of upd_same), rfl, rfl, _, rfl, iteE (by decide +kernel) ?_⟩⟩
      have s2 := s1.trans (same_new (o := .lst [.str "set", .str "return"]) hl2)
      refine ⟨_, rfl, rfl, _, rfl, iteE (by decide +kernel) ?_⟩
      refine ⟨_, rfl, rfl, _, rfl, iteE (by decide +kernel) ?_⟩
      refine ⟨_, rfl, (by show 2 ≤ sizeLine; decide), fun l3 hl3 => ⟨l3, _, rfl, .inl (SqL.of upd_same), rfl, rfl, _, rfl, iteE (by decide +kernel) ?_⟩⟩
      have s3 := s2.trans (same_new (o := .lst [.str "risk", .str "undo"]) hl3)
      refine ⟨_, rfl, (by show 2 ≤ sizeLine; decide), fun l4 hl4 => ⟨l4, _, rfl, .inl (SqL.of upd_same), rfl, rfl, _, rfl, iteS (by decide +kernel) ?_⟩⟩
      have s4 := s3.trans (same_new (o := .lst [.str "if", .str "while"]) hl4)
      refine ⟨_, rfl, _, rfl, a, _, rfl, (SqT.same s4 hq), fun z => Nat.noConfusion (show 1 = 0 from z.1), fun t ht => ?_⟩
      rw [show cutV [V.str "while", vx] (some 1) none = [vx] from rfl]
      have s5 := s4.trans (same_new (o := .tup [vx]) ht)
      refine ⟨t, rfl, ⟨_, SqT.of upd_same⟩, fun D hD => ?_⟩
      refine lc_tup (K := K) (a := t) (xs := [vx]) (fun i H' => Same (upd _ t (.tup [vx])) H' ∧ H' D = some (.lst (((([x] : List PyData).take i).map (blkB n)).map V.bl))) ⟨same_new hD, upd_same⟩ (fun i H' _ h' => SqT.same h'.1 (SqT.of upd_same)) ?_ ?_
      · rintro i v H4 hz ⟨u5, e1⟩
        have hda : DpAll K H1 [vx] [x] := .cons hx (.nil)
        obtain ⟨z, hza, hzd⟩ := hda.at hz
        have mz : z ∈ ([x] : List PyData) := List.mem_of_getElem? hza
        refine ⟨rfl, _, rfl, v, z, rfl, hzd.same (s5.trans u5), (gm z mz).mono (by decide), by have := dm z mz; omega, fun H5 u6 => ?_⟩
        refine ⟨_, u6 _ _ e1, smallX (by rw [List.length_map, List.length_map, List.length_take]; show min i 1 ≤ 100000; omega), fun c o e => ?_, ?_⟩
        · rw [upd_ne (ne_of_none e hD)]
          exact u6 _ _ (u5 _ _ e)
        · rw [upd_same, take_snoc hza, List.map_append, List.map_append]
          rfl
      · rintro H4 ⟨u5, e1⟩
        refine ⟨D, _, rfl, SqL.of e1, ?_⟩
        rw [all_map_id]
        have ea : (([x] : List PyData).take [vx].length).all (blkB n) = blkB n x := by
          show (blkB n x && true) = _
          rw [Bool.and_true]
        rw [ea]
        exact k _ (s5.trans u5)
    · -- try
      subst hw
      have ev : Option.getD (valV kD1 (.inr "try")) (Option.getD (valV (mergeK [] kD2) (.inr "try")) (V.int (-1))) = V.int 4 := by kernel_rfl
      by_cases lr : r.length = 3
      case neg =>
        refine ⟨_, rfl, a, _, rfl, .inr hq0, _, rfl, sd, rfl, .inl ⟨_, Rd.of esd⟩, _, rfl, fun p2 hp2 => ⟨upd_same, kD2, rfl, by decide, p2, rfl, .inl ⟨_, Rd.of upd_same⟩, _, rfl, _, rfl, _, DGet.k (k := .inr "try") upd_same, _, DGet.k (k := .inr "try") (ne2 hp2), rfl, _, rfl, iteS (by rw [ev, lx]; exact (Bool.not_eq_true' _).mpr (decide_eq_false fun z => lr (by have := V.int.inj z; omega))) ?_⟩⟩
        have : stmB (blkB n) (.tuple (.str "try" :: r)) = false := by
          match r, lr with
          | [], _ => kernel_rfl
          | [x], _ => kernel_rfl
          | [x, y], _ => kernel_rfl
          | [x, y, z], h => exact absurd rfl h
          | [x, y, z, u], _ => kernel_rfl
          | _ :: _ :: _ :: _ :: _ :: _, _ => rfl
        rw [this] at k
        exact k _ (sP2 hp2)
      refine ⟨_, rfl, a, _, rfl, .inr hq0, _, rfl, sd, rfl, .inl ⟨_, Rd.of esd⟩, _, rfl, fun p2 hp2 => ⟨upd_same, kD2, rfl, by decide, p2, rfl, .inl ⟨_, Rd.of upd_same⟩, _, rfl, _, rfl, _, DGet.k (k := .inr "try") upd_same, _, DGet.k (k := .inr "try") (ne2 hp2), rfl, _, rfl, iteE (by rw [ev, lx, lr]; decide +kernel) ?_⟩⟩
      have s0 := sP2 hp2
      obtain ⟨x, y, z, rfl⟩ := len3D lr
      obtain ⟨vx, vy, vz, rfl, hx, hy, hz⟩ := hd.three
      have gx := gm x (by simp)
      have dx := dm x (by simp)
      have gy := gm y (by simp)
      have dy := dm y (by simp)
      have gz := gm z (by simp)
      have dz := dm z (by simp)
      have es : stmB (blkB n) (.tuple [.str "try", x, y, z]) = (blkB n x && (blkB n z && hdsB (blkB n) y)) := by kernel_rfl
      rw [es] at k
      refine ⟨_, rfl, (by show 3 ≤ sizeLine; decide), fun l1 hl1 => ⟨l1, _, rfl, .inl (SqL.of upd_same), rfl, rfl, _, rfl, iteE (by decide +kernel) ?_⟩⟩
      have s1 := s0.trans (same_new (o := .lst [.str "set", .str "input", .str "raise"]) hl1)
      refine ⟨_, rfl, (by show 2 ≤ sizeLine; decide), fun l2 hl2 => ⟨l2, _, rfl, .inl (SqL.of upd_same), rfl, rfl, _, rfl, iteE (by decide +kernel) ?_⟩⟩
      have s2 := s1.trans (same_new (o := .lst [.str "set", .str "return"]) hl2)
      refine ⟨_, rfl, rfl, _, rfl, iteE (by decide +kernel) ?_⟩
      refine ⟨_, rfl, rfl, _, rfl, iteE (by decide +kernel) ?_⟩
      refine ⟨_, rfl, (by show 2 ≤ sizeLine; decide), fun l3 hl3 => ⟨l3, _, rfl, .inl (SqL.of upd_same), rfl, rfl, _, rfl, iteE (by decide +kernel) ?_⟩⟩
      have s3 := s2.trans (same_new (o := .lst [.str "risk", .str "undo"]) hl3)
      refine ⟨_, rfl, (by show 2 ≤ sizeLine; decide), fun l4 hl4 => ⟨l4, _, rfl, .inl (SqL.of upd_same), rfl, rfl, _, rfl, iteE (by decide +kernel) ?_⟩⟩
      have s4 := s3.trans (same_new (o := .lst [.str "if", .str "while"]) hl4)
      refine ⟨_, rfl, rfl, _, rfl, iteS (by decide +kernel) ?_⟩
      refine ⟨_, rfl, a, _, _, _, rfl, rfl, (SqT.same s4 hq), rfl, vx, x, rfl, hx.same s4, gx.mono (by decide), by omega, fun K4 t4 => ⟨_, rfl, ?_⟩⟩
      have s5 := s4.trans (t4)
      cases hb1 : blkB n x with
      | false =>
        rw [hb1] at k
        exact iteE rfl (k _ s5)
      | true =>
      rw [hb1] at k
      refine iteS rfl ⟨_, rfl, a, _, _, _, rfl, rfl, (SqT.same s5 hq), rfl, vy, y, rfl, hy.same s5, gy.mono (by decide), by omega, fun K5 t5 => ⟨_, rfl, ?_⟩⟩
      have s6 := s5.trans (t5)
      cases hb2 : hdsB (blkB n) y with
      | false =>
        rw [hb2, Bool.and_false] at k
        exact iteE rfl (k _ s6)
      | true =>
      rw [hb2, Bool.and_true] at k
      exact iteS rfl ⟨_, rfl, a, _, _, _, rfl, rfl, (SqT.same s6 hq), rfl, vz, z, rfl, hz.same s6, gz.mono (by decide), by omega, fun H' s' => k _ (s6.trans s')⟩
    · -- another word
      obtain ⟨n0, n1, n2, n3, n4, n5, n6, n7, n8, n9, n10⟩ := hw
      have inj : ∀ {z : Str}, wd ≠ z → ¬ (Sum.inr z : Key) = .inr wd := fun h e => h (Sum.inr.inj e).symm
      have ev : Option.getD (valV kD1 (.inr wd)) (Option.getD (valV (mergeK [] kD2) (.inr wd)) (V.int (-1))) = V.int (-1) := by
        rw [show mergeK [] kD2 = kD2 from by kernel_rfl]
        unfold kD1 kD2
        rw [valV_neg (inj (by assumption)), valV_neg (inj (by assumption)), valV_neg (inj (by assumption)), valV_neg (inj (by assumption)), valV_neg (inj (by assumption)), valV_neg (inj (by assumption)), valV_neg (inj (by assumption)), valV_neg (inj (by assumption)), valV_neg (inj (by assumption)), valV_nil, valV_neg (inj (by assumption)), valV_neg (inj (by assumption)), valV_nil]
        rfl
      have : stmB (blkB n) (.tuple (.str wd :: r)) = false := by
        match r with
        | [] => rfl
        | [x] => show (if wd = "while" then _ else if wd = "input" then _ else if wd = "risk" then _ else if wd = "raise" then _ else if wd = "return" then _ else false) = false; rw [if_neg (by assumption), if_neg (by assumption), if_neg (by assumption), if_neg (by assumption), if_neg (by assumption)]
        | [x, y] => show (if wd = "if" then _ else if wd = "undo" then _ else if wd = "set" then _ else false) = false; rw [if_neg (by assumption), if_neg (by assumption), if_neg (by assumption)]
        | [x, y, z] => show (if wd = "try" then _ else if wd = "call" then _ else false) = false; rw [if_neg (by assumption), if_neg (by assumption)]
        | [x, y, z, u] => show (if wd = "with" then _ else false) = false; rw [if_neg (by assumption)]
        | _ :: _ :: _ :: _ :: _ :: _ => rfl
      rw [this] at k
      refine ⟨_, rfl, a, _, rfl, .inr hq0, _, rfl, sd, rfl, .inl ⟨_, Rd.of esd⟩, _, rfl, fun p2 hp2 => ⟨upd_same, kD2, rfl, by decide, p2, rfl, .inl ⟨_, Rd.of upd_same⟩, _, rfl, _, rfl, _, DGet.k (k := .inr wd) upd_same, _, DGet.k (k := .inr wd) (ne2 hp2), (by rw [ev]; rfl), _, rfl, iteS ?_ (k _ (sP2 hp2))⟩⟩
      rw [ev, lx]
      exact (Bool.not_eq_true' _).mpr (decide_eq_false fun z => by have := V.int.inj z; omega)
end

/-! ### k08: _law_is_function, _law_is_tree -/
def spQFn (K : PySem.W.Frag) : Sp := fun vs H Q _ => ∃ (v : V) (d : PyData), vs = [v] ∧ Dp K H v d ∧ GD 58 d ∧ ∀ H', Same H H' → Q (.bl (funB d)) H'
section
variable {P : Program} {w : World} {K : PySem.W.Frag} {mg : Str → Option Value} {base : Heap}
theorem ok_Qblocks {fb fh fs : Addr} {db dh ds : FuncData} (FB : Fun K "_law_is_block" "_law_is_block" sQBl fb db) (FH : Fun K "_law_is_handlers" "_law_is_handlers" sQHd fh dh) (FS : Fun K "_law_is_statement" "_law_is_statement" sQSt fs ds) (T : TxQ mg)
    (mb : mg "_law_is_block" = some (.ref fb)) (kb : PySem.W.keepIn K (.ref fb) = true) (bb : Binds K db PQBl [])
    (mh : mg "_law_is_handlers" = some (.ref fh)) (kh : PySem.W.keepIn K (.ref fh) = true) (bh : Binds K dh PQHd [])
    (ms : mg "_law_is_statement" = some (.ref fs)) (ks : PySem.W.keepIn K (.ref fs) = true) (bs : Binds K ds PQSt [])
    (GN : Has P w K mg base CX0 1 "_law_is_word" PQWd (spQWd K)) (GS : Has P w K mg base CX0 2 "_law_is_sum" PQSm (spExpB K)) (GC : Has P w K mg base CX0 4 "_law_is_call" PQCl (spCalB K)) (GR : Has P w K mg base CX0 2 "_law_all_names" PQAn (spRowB K)) : ∀ n, FnOk P w K mg base CX0 (5 + 3 * n) fb db PQBl (spQBl K n) := by
  intro n
  induction n with
  | zero => exact ⟨fun vs H Q E h => by obtain ⟨_, _, _, _, _, h, _⟩ := h; exact absurd h (Nat.not_succ_le_zero _), fun _ _ _ _ _ _ _ _ _ _ _ _ _ h => by obtain ⟨_, _, _, _, _, h, _⟩ := h; exact absurd h (Nat.not_succ_le_zero _)⟩
  | succ n ih =>
    have GB : Has P w K mg base CX0 (5 + 3 * n) "_law_is_block" PQBl (spQBl K n) := ⟨fb, db, ih, mb, kb, bb⟩
    have GH : Has P w K mg base CX0 (5 + 3 * n + 1) "_law_is_handlers" PQHd (spQHd K n) := ⟨fh, dh, ok_QHd FH T GR GB, mh, kh, bh⟩
    rw [show 5 + 3 * n + 1 = 6 + 3 * n by omega] at GH
    have GSt : Has P w K mg base CX0 (6 + 3 * n + 1) "_law_is_statement" PQSt (spQSt K n) := ⟨fs, ds, ok_QSt FS T GN GS GC GR GB GH, ms, ks, bs⟩
    rw [show 6 + 3 * n + 1 = 7 + 3 * n by omega] at GSt
    have r := ok_QBl FB T GSt
    rw [show 7 + 3 * n + 1 = 5 + 3 * (n + 1) by omega] at r
    exact r
theorem ok_QFn {f : Addr} {fd : FuncData} (F : Fun K "_law_is_function" "_law_is_function" sQFn f fd) (T : TxQ mg) (GN : Has P w K mg base CX0 1 "_law_is_word" PQWd (spQWd K)) (GB : Has P w K mg base CX0 (5 + 3 * 30) "_law_is_block" PQBl (spQBl K 30)) : FnOk P w K mg base CX0 (5 + 3 * 30 + 1) f fd PQFn (spQFn K) := by
  refine F.ok scQFn (fun vs H Q E h => ?_) (fun cdv A outer s H vs Q E hr h => ?_)
  · obtain ⟨v, e, rfl, _⟩ := h
    rfl
  · obtain ⟨v, d, rfl, hv, gd, k⟩ := h
    have hr1 := hr.mono (j := 1) (by omega)
    refine ⟨_, (pss_cons (ps_if (PW.pt (pw_or (pt_not (pt_val (pe_callB call_isi (by rfl) T.n_isinstance bb_isinstance (pa_cons (pv 0) (pa_cons (pe_bltn (v := .ty "tuple") (by rfl) T.n_tuple bb_tuple rfl) pa_nil))))) (pw_or (pt_cmpR op_ne (pe_callB call_len_seq (by rfl) T.n_len bb_len (pa_cons (pv 0) pa_nil)) pe_int (nomark _)) (pw_or (pt_not (pt_val (pe_callH GN hr1 rfl pass0 (pa_cons (pe_ix (r := rIxT K) ix_tup (pv 0) pe_int (fun _ _ => rfl)) pa_nil)))) (pw_or1 (pt_not (pt_val (pe_callB call_isi (by rfl) T.n_isinstance bb_isinstance (pa_cons (pe_ix (r := rIxT K) ix_tup (pv 0) pe_int (fun _ _ => rfl)) (pa_cons (pe_bltn (v := .ty "tuple") (by rfl) T.n_tuple bb_tuple rfl) pa_nil))))))))))
  (pss_one (ps_ret pe_bl))
  pss_nil)
  (pss_cons (ps_for PassesOwn.never rfl (pi_tup (pe_ix (r := rIxT K) ix_tup (pv 0) pe_int (fun _ _ => rfl))) (pg_name (i := 1) scQFn.nd rfl (Or.inl rfl))
  (pss_one (ps_if (PW.pt (pw_or (pt_not (pt_val (pe_callB call_isi (by rfl) T.n_isinstance bb_isinstance (pa_cons (pv 1) (pa_cons (pe_bltn (v := .ty "tuple") (by rfl) T.n_tuple bb_tuple rfl) pa_nil))))) (pw_or (pt_cmpR op_ne (pe_callB call_len_seq (by rfl) T.n_len bb_len (pa_cons (pv 1) pa_nil)) pe_int (nomark _)) (pw_or (pt_not (pt_val (pe_callH GN hr1 rfl pass0 (pa_cons (pe_ix (r := rIxT K) ix_tup (pv 1) pe_int (fun _ _ => rfl)) pa_nil)))) (pw_or1 (pt_not (pt_val (pe_callB call_isi (by rfl) T.n_isinstance bb_isinstance (pa_cons (pe_ix (r := rIxT K) ix_tup (pv 1) pe_int (fun _ _ => rfl)) (pa_cons (pe_bltn (v := .ty "bool") (by rfl) T.n_bool bb_bool rfl) pa_nil))))))))))
  (pss_one (ps_ret pe_bl))
  pss_nil)))
  (pss_one (ps_ret (pe_callH GB hr rfl pass0 (pa_cons (pe_ix (r := rIxT K) ix_tup (pv 0) pe_int (fun _ _ => rfl)) pa_nil)))))), ?_⟩
    obtain ⟨t, ty, k1, _⟩ := dpT hv
    refine ⟨_, rfl, _, _, _, _, _, rfl, .ty _, ty, k1, _, rfl, ?_⟩
    rcases tupCases d with e | ⟨l, rfl⟩
    · have : funB d = false := by cases d <;> first | rfl | cases e
      rw [this] at k
      rw [e]
      exact iteS rfl (iteS rfl (k _ (Same.refl _)))
    refine iteE rfl ?_
    obtain ⟨a, xs, rfl, hq, hd⟩ := hv.tupInv
    have lx := hd.len
    by_cases ll : l.length = 3
    case neg =>
      have : funB (.tuple l) = false := by
        unfold funB
        split
        · rename_i e; cases e; exact absurd rfl ll
        · rfl
      rw [this] at k
      refine ⟨_, rfl, a, _, rfl, .inr hq, rfl, _, rfl, iteS ?_ (iteS rfl (k _ (Same.refl _)))⟩
      rw [lx]
      exact (Bool.not_eq_true' _).mpr (decide_eq_false fun z => ll (by have := V.int.inj z; omega))
    refine ⟨_, rfl, a, _, rfl, .inr hq, rfl, _, rfl, iteE (by rw [lx, ll]; decide +kernel) ?_⟩
    obtain ⟨x, y, z, rfl⟩ := len3D ll
    obtain ⟨vx, vy, vz, rfl, hx, hy, hz⟩ := hd.three
    have gx : GD 57 x := gd.mem List.mem_cons_self
    have gy : GD 57 y := gd.mem (by simp)
    have gz : GD 57 z := gd.mem (by simp)
    refine ⟨_, rfl, a, _, _, _, rfl, rfl, hq, rfl, vx, x, rfl, hx, gx.mono (by decide), fun H2 s2 => ⟨_, rfl, ?_⟩⟩
    cases hn : nameD x with
    | false =>
      have : funB (.tuple [x, y, z]) = false := by
        cases y with
        | tuple ps => show (nameD x && _) = false; rw [hn]; rfl
        | _ => rfl
      rw [this] at k
      exact iteS rfl (iteS rfl (k _ s2))
    | true =>
    refine iteE rfl ?_
    obtain ⟨t1, ty1, k11, _⟩ := dpT (hy.same s2)
    refine ⟨_, rfl, a, _, _, _, rfl, rfl, SqT.same s2 hq, rfl, _, _, _, _, _, rfl, .ty _, ty1, k11, _, rfl, ?_⟩
    rcases tupCases y with e | ⟨ps, rfl⟩
    · have : funB (.tuple [x, y, z]) = false := by cases y <;> first | rfl | cases e
      rw [this] at k
      rw [e]
      exact iteS rfl (k _ s2)
    refine iteE rfl ?_
    have ef : funB (.tuple [x, .tuple ps, z]) = (ps.all parB && blkB 30 z) := by show (nameD x && (ps.all parB && blkB 30 z)) = _; rw [hn]; rfl
    rw [ef] at k
    obtain ⟨b, ys, rfl, hb, hyd⟩ := hy.tupInv
    have ly := hyd.len
    refine ⟨_, rfl, a, _, _, _, rfl, rfl, SqT.same s2 hq, rfl, b, rfl, ⟨_, SqT.same s2 hb⟩, ?_⟩
    refine for_tup (K := K) (a := b) (xs := ys) (fun i σ H' => Same H H' ∧ (∃ x2 : Option V, σ = [some (.ref a), x2]) ∧ (∀ t ∈ ps.take i, parB t = true)) ⟨s2, ⟨_, rfl⟩, fun _ z => by cases z⟩ (fun i σ H' _ h' => SqT.same h'.1 hb) ?_ ?_
    · rintro i z σ H1 hz ⟨s1, ⟨x2, rfl⟩, al⟩
      obtain ⟨t, ht, htd⟩ := hyd.at hz
      have mt := List.mem_of_getElem? ht
      have gt : GD 56 t := gy.mem mt
      have ret : parB t = false → ∀ H', Same H H' → Q (.bl false) H' := fun e H' s' => by
        have := k _ s'
        rwa [all_no mt e, Bool.false_and] at this
      obtain ⟨t1, ty1, k11, _⟩ := dpT (htd.same s1)
      refine ⟨_, rfl, _, _, _, _, _, rfl, .ty _, ty1, k11, _, rfl, ?_⟩
      rcases tupCases t with e | ⟨l, rfl⟩
      · rw [e]
        exact iteS rfl (iteS rfl (ret (by cases t <;> first | rfl | cases e) _ s1))
      refine iteE rfl ?_
      obtain ⟨e, zs, rfl, he, hed⟩ := htd.tupInv
      have lz := hed.len
      by_cases ll : l.length = 2
      case neg =>
        refine ⟨_, rfl, e, _, rfl, .inr (SqT.same s1 he), rfl, _, rfl, iteS ?_ (iteS rfl (ret ?_ _ s1))⟩
        · rw [lz]
          exact (Bool.not_eq_true' _).mpr (decide_eq_false fun z => ll (by have := V.int.inj z; omega))
        · unfold parB
          split
          · rename_i e; cases e; exact absurd rfl ll
          · rfl
      refine ⟨_, rfl, e, _, rfl, .inr (SqT.same s1 he), rfl, _, rfl, iteE (by rw [lz, ll]; decide +kernel) ?_⟩
      obtain ⟨p, q, rfl⟩ := len2D ll
      obtain ⟨vp, vq, rfl, dp, dq⟩ := hed.two
      have gp : GD 55 p := gt.mem List.mem_cons_self
      have ep : parB (.tuple [p, q]) = (nameD p && isBoolD q) := rfl
      refine ⟨_, rfl, e, _, _, _, rfl, rfl, SqT.same s1 he, rfl, vp, p, rfl, dp.same s1, gp.mono (by decide), fun H3 s3 => ⟨_, rfl, ?_⟩⟩
      have s13 := s1.trans s3
      cases hnp : nameD p with
      | false => exact iteS rfl (iteS rfl (ret (by rw [ep, hnp]; rfl) _ s13))
      | true =>
      refine iteE rfl ?_
      obtain ⟨t2, ty2, _, _, k32, _⟩ := dpT (dq.same s13)
      refine ⟨_, rfl, e, _, _, _, rfl, rfl, SqT.same s13 he, rfl, _, _, _, _, _, rfl, .ty _, ty2, k32, _, rfl, ?_⟩
      cases hbq : isBoolD q with
      | false => exact iteS rfl (ret (by rw [ep, hbq, Bool.and_false]) _ s13)
      | true =>
      refine iteE rfl ⟨s13, ⟨_, rfl⟩, fun u hu => ?_⟩
      rw [take_snoc ht] at hu
      rcases List.mem_append.mp hu with z | z
      · exact al u z
      · rw [List.mem_singleton.mp z, ep, hnp, hbq]
        rfl
    · rintro σ H1 ⟨s1, ⟨x2, rfl⟩, al⟩
      rw [ly, List.take_length] at al
      rw [List.all_eq_true.mpr al] at k
      have dz := gz.h
      exact ⟨_, rfl, a, _, _, _, rfl, rfl, SqT.same s1 hq, rfl, vz, z, rfl, hz.same s1, gz.mono (by decide), by omega, fun H' s' => k _ (s1.trans s')⟩
theorem ok_QTr {f : Addr} {fd : FuncData} (F : Fun K "_law_is_tree" "_law_is_tree" sQTr f fd) (T : TxQ mg) (GR : Has P w K mg base CX0 2 "_law_all_names" PQAn (spRowB K)) (GS : Has P w K mg base CX0 2 "_law_is_sum" PQSm (spExpB K)) (GF : Has P w K mg base CX0 (5 + 3 * 30 + 1) "_law_is_function" PQFn (spQFn K)) : FnOk P w K mg base CX0 (5 + 3 * 30 + 1 + 1) f fd PQTr (spTreB K) := by
  refine F.ok scQTr (fun vs H Q E h => ?_) (fun cdv A outer s H vs Q E hr h => ?_)
  · obtain ⟨v, e, rfl, _⟩ := h
    rfl
  · obtain ⟨v, d, rfl, hv, gd, k⟩ := h
    have hr2 := hr.mono (j := 2) (by omega)
    refine ⟨_, (pss_cons (ps_if (PW.pt (pw_or (pt_not (pt_val (pe_callB call_isi (by rfl) T.n_isinstance bb_isinstance (pa_cons (pv 0) (pa_cons (pe_bltn (v := .ty "tuple") (by rfl) T.n_tuple bb_tuple rfl) pa_nil))))) (pw_or (pt_cmpR op_ne (pe_callB call_len_seq (by rfl) T.n_len bb_len (pa_cons (pv 0) pa_nil)) pe_int (nomark _)) (pw_or (pt_not (pt_val (pe_callH GR hr2 rfl pass0 (pa_cons (pe_ix (r := rIxT K) ix_tup (pv 0) pe_int (fun _ _ => rfl)) pa_nil)))) (pw_or1 (pt_not (pt_val (pe_callH GR hr2 rfl pass0 (pa_cons (pe_ix (r := rIxT K) ix_tup (pv 0) pe_int (fun _ _ => rfl)) pa_nil)))))))))
  (pss_one (ps_ret pe_bl))
  pss_nil)
  (pss_cons (ps_if (PW.pt (pw_or (pt_not (pt_val (pe_callB call_isi (by rfl) T.n_isinstance bb_isinstance (pa_cons (pe_ix (r := rIxT K) ix_tup (pv 0) pe_int (fun _ _ => rfl)) (pa_cons (pe_bltn (v := .ty "tuple") (by rfl) T.n_tuple bb_tuple rfl) pa_nil))))) (pw_or1 (pt_not (pt_val (pe_callB call_isi (by rfl) T.n_isinstance bb_isinstance (pa_cons (pe_ix (r := rIxT K) ix_tup (pv 0) pe_int (fun _ _ => rfl)) (pa_cons (pe_bltn (v := .ty "tuple") (by rfl) T.n_tuple bb_tuple rfl) pa_nil))))))))
  (pss_one (ps_ret pe_bl))
  pss_nil)
  (pss_cons (ps_for PassesOwn.never rfl (pi_tup (pe_ix (r := rIxT K) ix_tup (pv 0) pe_int (fun _ _ => rfl))) (pg_name (i := 1) scQTr.nd rfl (Or.inl rfl))
  (pss_one (ps_if (PW.pt (pw_or (pt_not (pt_val (pe_callH GS hr2 rfl pass0 (pa_cons (pv 1) pa_nil)))) (pw_or1 (pt_cmpR op_ne (pe_ix (r := rIxT K) ix_tup (pv 1) pe_int (fun _ _ => rfl)) pe_int (nomark _)))))
  (pss_one (ps_ret pe_bl))
  pss_nil)))
  (pss_one (ps_ret (pe_callB (cr_all rfl) (by rfl) T.n_all bb_all (pa_cons (pe_lc (own := [("_law_one", 2)]) (g := gName 2) (tt := tYes) rfl scQTr.nd (pi_tup (pe_ix (r := rIxT K) ix_tup (pv 0) pe_int (fun _ _ => rfl))) (blkOk_by (own := [("_law_one", 2)]) (N := NQTr) (sc := (defScope sQTr)) (by decide +kernel)) (fun _ _ _ _ _ => (pg_name (i := 2) scQTr.nd rfl (Or.inl rfl))) (fun _ _ _ _ _ => pts_nil) (fun _ _ _ _ _ => (pe_callH GF hr rfl pass0 (pa_cons (pv 2) pa_nil)))) pa_nil))))))), ?_⟩
    obtain ⟨t, ty, k1, _⟩ := dpT hv
    refine ⟨_, rfl, _, _, _, _, _, rfl, .ty _, ty, k1, _, rfl, ?_⟩
    rcases tupCases d with e | ⟨l, rfl⟩
    · have : treeB d = false := by cases d <;> first | rfl | cases e
      rw [this] at k
      rw [e]
      exact iteS rfl (iteS rfl (k _ (Same.refl _)))
    refine iteE rfl ?_
    obtain ⟨a, xs, rfl, hq, hd⟩ := hv.tupInv
    have lx := hd.len
    by_cases ll : l.length = 4
    case neg =>
      have : treeB (.tuple l) = false := by
        unfold treeB
        split
        · rename_i e; cases e; exact absurd rfl ll
        · rfl
      rw [this] at k
      refine ⟨_, rfl, a, _, rfl, .inr hq, rfl, _, rfl, iteS ?_ (iteS rfl (k _ (Same.refl _)))⟩
      rw [lx]
      exact (Bool.not_eq_true' _).mpr (decide_eq_false fun z => ll (by have := V.int.inj z; omega))
    refine ⟨_, rfl, a, _, rfl, .inr hq, rfl, _, rfl, iteE (by rw [lx, ll]; decide +kernel) ?_⟩
    obtain ⟨x, y, z, u, rfl⟩ := len4D ll
    obtain ⟨vx, vy, vz, vu, rfl, hx, hy, hz, hu⟩ := hd.four
    have gx : GD 59 x := gd.mem List.mem_cons_self
    have gy : GD 59 y := gd.mem (by simp)
    have gz : GD 59 z := gd.mem (by simp)
    have gu : GD 59 u := gd.mem (by simp)
    have no1 : (rowD x && rowD y) = false → treeB (.tuple [x, y, z, u]) = false := fun h => by
      cases z with
      | tuple es =>
        cases u with
        | tuple fs =>
          show (rowD x && (rowD y && _)) = false
          rw [← Bool.and_assoc, h]
          rfl
        | _ => rfl
      | _ => rfl
    refine ⟨_, rfl, a, _, _, _, rfl, rfl, hq, rfl, vx, x, rfl, hx, gx.mono (by decide), fun H1 s1 => ⟨_, rfl, ?_⟩⟩
    cases hrx : rowD x with
    | false =>
      rw [no1 (by rw [hrx]; rfl)] at k
      exact iteS rfl (iteS rfl (k _ s1))
    | true =>
    refine iteE rfl ?_
    refine ⟨_, rfl, a, _, _, _, rfl, rfl, SqT.same s1 hq, rfl, vy, y, rfl, hy.same s1, gy.mono (by decide), fun H2 s2 => ⟨_, rfl, ?_⟩⟩
    have s3 := s1.trans s2
    cases hry : rowD y with
    | false =>
      rw [no1 (by rw [hry, Bool.and_false])] at k
      exact iteS rfl (k _ s3)
    | true =>
    refine iteE rfl ?_
    obtain ⟨t1, ty1, k11, _⟩ := dpT (hz.same s3)
    refine ⟨_, rfl, a, _, _, _, rfl, rfl, SqT.same s3 hq, rfl, _, _, _, _, _, rfl, .ty _, ty1, k11, _, rfl, ?_⟩
    rcases tupCases z with e | ⟨es, rfl⟩
    · have : treeB (.tuple [x, y, z, u]) = false := by cases z <;> first | rfl | cases e
      rw [this] at k
      rw [e]
      exact iteS rfl (iteS rfl (k _ s3))
    refine iteE rfl ?_
    obtain ⟨t2, ty2, k12, _⟩ := dpT (hu.same s3)
    refine ⟨_, rfl, a, _, _, _, rfl, rfl, SqT.same s3 hq, rfl, _, _, _, _, _, rfl, .ty _, ty2, k12, _, rfl, ?_⟩
    rcases tupCases u with e | ⟨fs, rfl⟩
    · have : treeB (.tuple [x, y, .tuple es, u]) = false := by cases u <;> first | rfl | cases e
      rw [this] at k
      rw [e]
      exact iteS rfl (k _ s3)
    refine iteE rfl ?_
    have et : treeB (.tuple [x, y, .tuple es, .tuple fs]) = (es.all kpB && fs.all funB) := by
      show (rowD x && (rowD y && (es.all kpB && fs.all funB))) = _
      rw [hrx, hry]
      rfl
    rw [et] at k
    obtain ⟨b, ys, rfl, hb, hyd⟩ := hz.tupInv
    have ly := hyd.len
    refine ⟨_, rfl, a, _, _, _, rfl, rfl, SqT.same s3 hq, rfl, b, rfl, ⟨_, SqT.same s3 hb⟩, ?_⟩
    refine for_tup (K := K) (a := b) (xs := ys) (fun i σ H' => Same H H' ∧ (∃ x2 : Option V, σ = [some (.ref a), x2, none]) ∧ (∀ t ∈ es.take i, kpB t = true)) ⟨s3, ⟨_, rfl⟩, fun _ z => by cases z⟩ (fun i σ H' _ h' => SqT.same h'.1 hb) ?_ ?_
    · rintro i v σ H4 hz ⟨s5, ⟨x2, rfl⟩, al⟩
      obtain ⟨e, hza, hzd⟩ := hyd.at hz
      have me := List.mem_of_getElem? hza
      have ret : kpB e = false → ∀ H', Same H H' → Q (.bl false) H' := fun e H' s' => by
        have := k _ s'
        rwa [all_no me e, Bool.false_and] at this
      refine ⟨_, rfl, v, e, rfl, hzd.same s5, (gz.mem me).mono (by decide), fun H5 s6 => ⟨_, rfl, ?_⟩⟩
      have s56 := s5.trans s6
      cases hx : exprD e with
      | false => exact iteS rfl (iteS rfl (ret (kp_no hx) _ s56))
      | true =>
      refine iteE rfl ?_
      obtain ⟨c, ts, rfl⟩ := expr_ex hx
      obtain ⟨d, us, rfl, hd5, hdd⟩ := Dp.tupInv (hzd.same s56)
      obtain ⟨q, r, rfl, hq5, _⟩ := hdd.two
      rw [hq5.intInv] at hd5
      have ek : kpB (.tuple [.int c, .tuple ts]) = decide (c = 0) := by
        show (exprD _ && decide (c = 0)) = _
        rw [hx, Bool.true_and]
      refine ⟨_, rfl, d, _, _, _, rfl, rfl, hd5, rfl, rfl, _, rfl, ite2 (fun hc => ?_) (fun hc => ?_)⟩
      · refine ret ?_ _ s56
        rw [ek]
        refine decide_eq_false fun z => ?_
        rw [z] at hc
        exact absurd hc (by decide +kernel)
      · have hc0 : c = 0 := by
          by_cases hc0 : c = 0
          · exact hc0
          · exact absurd ((Bool.not_eq_true' _).mpr (decide_eq_false fun z => hc0 (V.int.inj z))) hc
        refine ⟨s56, ⟨_, rfl⟩, fun w hw => ?_⟩
        rw [take_snoc hza] at hw
        rcases List.mem_append.mp hw with z | z
        · exact al w z
        · rw [List.mem_singleton.mp z, ek]
          exact decide_eq_true hc0
    · rintro σ H4 ⟨s5, ⟨x2, rfl⟩, al⟩
      rw [ly, List.take_length] at al
      rw [List.all_eq_true.mpr al, Bool.true_and] at k
      obtain ⟨c, zs, rfl, hc, hzd⟩ := hu.tupInv
      have lu := gu.len
      have lz := hzd.len
      refine ⟨_, rfl, a, _, _, _, rfl, rfl, SqT.same s5 hq, rfl, c, rfl, ⟨_, SqT.same s5 hc⟩, fun D hD => ?_⟩
      refine lc_tup (K := K) (a := c) (xs := zs) (fun i H' => Same H4 H' ∧ H' D = some (.lst (((fs.take i).map funB).map V.bl))) ⟨same_new hD, upd_same⟩ (fun i H' _ h' => SqT.same (s5.trans h'.1) hc) ?_ ?_
      · rintro i v H5 hz ⟨s7, e1⟩
        obtain ⟨z, hza, hzd⟩ := hzd.at hz
        have hi : i < zs.length := (List.getElem?_eq_some_iff.mp hz).1
        refine ⟨rfl, _, rfl, v, z, rfl, hzd.same (s5.trans s7), gu.mem (List.mem_of_getElem? hza), fun H6 s8 => ?_⟩
        refine ⟨_, s8 _ _ e1, smallX (by rw [List.length_map, List.length_map, List.length_take]; omega), fun c o e => ?_, ?_⟩
        · rw [upd_ne (ne_of_none e hD)]
          exact s8 _ _ (s7 _ _ e)
        · rw [upd_same, take_snoc hza, List.map_append, List.map_append]
          rfl
      · rintro H5 ⟨s7, e1⟩
        rw [lz, List.take_length] at e1
        refine ⟨D, _, rfl, SqL.of e1, ?_⟩
        rw [all_map_id]
        exact k _ (s5.trans s7)
end

/-! ### the law's drawn programs: expressions, args, calls -/
abbrev sLEx : Stmt := topS 68
abbrev NLEx : List Str := ["_law_pool_here", "_law_names_here", "_law_great", "_law_terms", "_law_name", "_law_factor"]
abbrev PLEx : List Str := ["_law_pool_here", "_law_names_here", "_law_great"]
theorem scLEx : FnScope NLEx PLEx (defScope sLEx) := ⟨rfl, rfl, rfl, by decide +kernel, rfl, by decide +kernel, by decide +kernel⟩
theorem bb_sorted : bootBuiltins "sorted" = some (.builtin "sorted") := by decide +kernel
structure TxGen (mg : Str → Option Value) : Prop where
  n_sorted : mg "sorted" = none
  n_tuple : mg "tuple" = none
  n_range : mg "range" = none
  n_len : mg "len" = none
theorem nl_tr {a b c : List Nat} (h1 : ¬ b < a) (h2 : ¬ c < b) : ¬ c < a := fun h => (List.le_trans (α := Nat) h1 h2) h
theorem rise_pw : ∀ (l : List Str) (p : Str), PyProof.Rows.risingS p l = true → (p :: l).Pairwise fun a b => ¬ b.cps.toList < a.cps.toList
  | [], p, _ => List.pairwise_singleton _ _
  | x :: r, p, h => by
    have h : (!PySem.Spec.ltCps x.cps.toList p.cps.toList && PyProof.Rows.risingS x r) = true := h
    rw [Bool.and_eq_true, Bool.not_eq_true', PyProof.Rows.ltCps_eq, decide_eq_false_iff_not] at h
    have ih := rise_pw r x h.2
    refine List.pairwise_cons.mpr ⟨fun y hy => ?_, ih⟩
    rcases List.mem_cons.mp hy with rfl | hy
    · exact h.1
    · exact nl_tr h.1 ((List.pairwise_cons.mp ih).1 y hy)
def asc (a b : Str) : Prop := a.cps.toList < b.cps.toList
theorem sort_asc {l : List Str} (h : PyProof.Rows.sortedS l = true) (nd : l.Nodup) : l.Pairwise asc := by
  have pw : l.Pairwise fun a b => ¬ b.cps.toList < a.cps.toList := by
    cases l with
    | nil => exact .nil
    | cons x r => exact rise_pw r x h
  refine (List.Pairwise.and pw nd).imp fun {a b} ⟨h1, h2⟩ => ?_
  unfold asc
  rcases Classical.em (a.cps.toList < b.cps.toList) with z | z
  · exact z
  · exact absurd (TL.ext_tl (List.le_antisymm (α := Nat) h1 z)) h2
/-- an expression over some names, with small numbers -/
structure EX (own : List Str) (e : Ex) : Prop where
  c : -3 ≤ e.c ∧ e.c ≤ 3
  nm : ∀ p ∈ e.ts, p.1 ∈ own ∧ p.2 ≠ 0 ∧ -4 ≤ p.2 ∧ p.2 ≤ 4
  up : (e.ts.map Prod.fst).Pairwise asc
  ln : e.ts.length ≤ own.length
theorem But.tps {p c : Addr} {H H' : Hp} {lim : V} {n : Nat} (b : But p c H H') (P0 : PoolAt H p c lim n) : Tps H H' := by
  obtain ⟨i, cs, cn, sd, md, e1, e2, _⟩ := P0
  exact ⟨fun a xs e => b _ _ e (ne_of e e1 (by intro z; cases z)) (ne_of e e2 (by intro z; cases z)), fun a o xs e => b _ _ e (ne_of e e1 (by intro z; cases z)) (ne_of e e2 (by intro z; cases z))⟩
theorem But.of {p c : Addr} {H H' : Hp} (s : Same H H') : But p c H H' := fun b o e _ _ => s b o e
def spLEx (K : PySem.W.Frag) : Sp := fun vs H Q _ => ∃ (p c nl : Addr) (lim : V) (n : Nat) (own : List Str), vs = [.ref p, .ref nl, .int 4] ∧ PoolAt H p c lim n ∧ n + 100 < 1000000000000 ∧ H nl = some (.lst (own.map V.str)) ∧ nl ≠ p ∧ nl ≠ c ∧ own.Nodup ∧ own.length < 60 ∧
  ∀ (v : V) (e : Ex) (H' : Hp), EX own e → Dp K H' v (exD e) → PoolAt H' p c lim (n + own.length + 1) → But p c H H' → Q v H'
section
variable {P : Program} {w : World} {K : PySem.W.Frag} {mg : Str → Option Value} {base : Heap}
theorem fac_in {r : Int} (r0 : 0 ≤ r) (r1 : r < 7) : ∃ f : Int, atI [V.int 0, V.int 0, V.int 1, V.int (-1), V.int 2, V.int (-3), V.int 4] r = some (V.int f) ∧ -4 ≤ f ∧ f ≤ 4 := by
  have : r = 0 ∨ r = 1 ∨ r = 2 ∨ r = 3 ∨ r = 4 ∨ r = 5 ∨ r = 6 := by omega
  rcases this with rfl | rfl | rfl | rfl | rfl | rfl | rfl
  · exact ⟨0, rfl, by decide, by decide⟩
  · exact ⟨0, rfl, by decide, by decide⟩
  · exact ⟨1, rfl, by decide, by decide⟩
  · exact ⟨-1, rfl, by decide, by decide⟩
  · exact ⟨2, rfl, by decide, by decide⟩
  · exact ⟨-3, rfl, by decide, by decide⟩
  · exact ⟨4, rfl, by decide, by decide⟩
theorem ok_LEx {f : Addr} {fd : FuncData} (F : Fun K "_law_expression" "_law_expression" sLEx f fd) (T : TxGen mg) (GD : Has P w K mg base CX0 2 "_law_draw" PDraw spDraw) : FnOk P w K mg base CX0 3 f fd PLEx (spLEx K) := by
  refine F.ok scLEx (fun vs H Q E h => ?_) (fun cdv A outer s H vs Q E hr h => ?_)
  · obtain ⟨p, c, nl, lim, n, own, rfl, _⟩ := h
    rfl
  · obtain ⟨p, c, nl, lim, n, own, rfl, P0, hn, hnl, np, nc, nd, l60, k⟩ := h
    refine ⟨_, (pss_cons (ps_set (i := 3) scLEx.nd rfl (Or.inl rfl) (pe_lst pa_nil))
  (pss_cons (ps_for PassesOwn.never rfl (pi_list (pe_callB cr_sortedS (by rfl) T.n_sorted bb_sorted (pa_cons (pv 1) pa_nil))) (pg_name (i := 4) scLEx.nd rfl (Or.inl rfl))
  (pss_cons (ps_set (i := 5) scLEx.nd rfl (Or.inl rfl) (pe_ix (r := rIxL K) ix_list (pe_lst (pa_cons pe_int (pa_cons pe_int (pa_cons pe_int (pa_cons (pe_un un_neg pe_int) (pa_cons pe_int (pa_cons (pe_un un_neg pe_int) (pa_cons (pv 2) pa_nil)))))))) (pe_callH GD hr rfl pass0 (pa_cons (pv 0) (pa_cons pe_int pa_nil))) (fun _ _ => rfl)))
  (pss_one (ps_if (pt_cmpR op_ne (pv 5) pe_int (nomark _))
  (pss_one (ps_expr (pe_bm PySem.F.plainAttrs_list PySem.F.slot_list_append PySem.F.type_list_append mt_append (pv 3) (pa_cons (pe_tup (pa_cons (pv 4) (pa_cons (pv 5) pa_nil))) pa_nil))))
  pss_nil))))
  (pss_one (ps_ret (pe_tup (pa_cons (pe_op op_sub (pe_callH GD hr rfl pass0 (pa_cons (pv 0) (pa_cons pe_int pa_nil))) pe_int) (pa_cons (pe_callTy call_tuple_of (by rfl) T.n_tuple bb_tuple (pa_cons (pv 3) pa_nil)) pa_nil))))))), ?_⟩
    refine ⟨(by show 0 ≤ sizeLine; decide), fun q hq => ?_⟩
    have s1 := same_new (o := .lst []) hq
    have P1 := P0.same s1
    have qp := P0.ne1 hq
    have qc := P0.ne2 hq
    refine ⟨_, rfl, nl, own, rfl, SqL.of (s1 _ _ hnl), by omega, fun ys L perm srt hL => ?_⟩
    have Lp := P1.ne1 hL
    have Lc := P1.ne2 hL
    have s2 := same_new (o := .lst (ys.map V.str)) hL
    have qL : q ≠ L := ne_of_none upd_same hL
    have ly : ys.length = own.length := perm.length_eq
    have as := sort_asc srt (perm.nodup_iff.mpr nd)
    have L2 : upd (upd H q (.lst [])) L (.lst (ys.map V.str)) L = some (.lst (ys.map V.str)) := upd_same
    have q2 : upd (upd H q (.lst [])) L (.lst (ys.map V.str)) q = some (.lst []) := s2 _ _ upd_same
    refine ⟨L, rfl, ⟨_, SqL.of L2⟩, ?_⟩
    refine for_list (K := K) (a := L) (xs := ys.map V.str) (fun j σ H' => (∃ x4 x5 : Option V, σ = [some (.ref p), some (.ref nl), some (.int 4), some (.ref q), x4, x5]) ∧ PoolAt H' p c lim (n + j) ∧ But p c H H' ∧ H' L = some (.lst (ys.map V.str)) ∧ ∃ (us : List V) (es : List (Str × Int)), H' q = some (.lst us) ∧ us.length ≤ j ∧ Paired (fun x pr => Dp K H' x (.tuple [.str pr.1, .int pr.2])) us es ∧ (∀ pr ∈ es, pr.2 ≠ 0 ∧ -4 ≤ pr.2 ∧ pr.2 ≤ 4) ∧ (es.map Prod.fst).Sublist (ys.take j))
      ⟨⟨_, _, rfl⟩, P1.same s2, But.of (s1.trans s2), L2, [], [], q2, Nat.le_refl _, .nil, fun _ z => (nomatch z), List.Sublist.refl _⟩ (fun j σ H' _ h' => SqL.of h'.2.2.2.1) ?_ ?_
    · rintro j x σ H3 hx ⟨⟨x4, x5, rfl⟩, P3, b3, eL3, us, es, eq3, lu, pu, pe, sub⟩
      have hj : j < ys.length := by
        have := (List.getElem?_eq_some_iff.mp hx).1
        rwa [List.length_map] at this
      obtain ⟨nm, hnm⟩ : ∃ nm, ys[j]? = some nm := ⟨_, List.getElem?_eq_getElem hj⟩
      rw [List.getElem?_map, hnm] at hx
      simp only [Option.map_some, Option.some.injEq] at hx
      subst hx
      refine ⟨_, rfl, _, rfl, _, rfl, (by show 7 ≤ sizeLine; decide), fun D hD => ?_⟩
      have s3 := same_new (o := .lst [V.int 0, V.int 0, V.int 1, V.int (-1), V.int 2, V.int (-3), V.int 4]) hD
      have P4 := P3.same s3
      refine ⟨_, rfl, p, c, lim, n + j, 7, rfl, P4, by omega, by decide, by decide, fun r H4 r0 r1 P5 b5 => ?_⟩
      have eD : H4 D = some (.lst [V.int 0, V.int 0, V.int 1, V.int (-1), V.int 2, V.int (-3), V.int 4]) := b5 _ _ upd_same (P3.ne1 hD) (P3.ne2 hD)
      obtain ⟨fa, hfa, f0, f1⟩ := fac_in r0 r1
      have b4 : But p c H3 H4 := (But.of s3).trans b5
      have b6 := b3.trans b4
      have eL4 := b4 _ _ eL3 Lp Lc
      have eq4 := b4 _ _ eq3 qp qc
      have t4 : Tps H3 H4 := b4.tps P3
      have pu4 : Paired (fun x pr => Dp K H4 x (.tuple [.str pr.1, .int pr.2])) us es := Paired.mapP pu fun _ pr z => Dp.tps t4 z rfl
      have sub2 : (es.map Prod.fst).Sublist (ys.take (j + 1)) := sub.trans (List.take_sublist_take_left (Nat.le_succ j))
      refine ⟨D, _, _, _, rfl, rfl, SqL.of eD, hfa, ?_⟩
      refine ⟨_, rfl, rfl, _, rfl, ?_⟩
      by_cases hz : fa = 0
      · refine iteE (by rw [hz]; rfl) ?_
        exact ⟨⟨_, _, rfl⟩, P5, b6, eL4, us, es, eq4, by omega, pu4, pe, sub2⟩
      · refine iteS (by rw [decide_eq_false (fun z => hz (V.int.inj z))]; rfl) ?_
        refine ⟨_, rfl, .inl ⟨rfl, _, SqL.of eq4⟩, _, rfl, _, rfl, (by show 2 ≤ sizeLine; decide), fun t ht => ?_⟩
        have s5 := same_new (o := .tup [V.str nm, V.int fa]) ht
        have eq5 := s5 _ _ eq4
        refine ⟨q, _, _, rfl, rfl, eq5, small1000 (by omega), ?_⟩
        have t5 : Tps (upd H4 t (.tup [V.str nm, V.int fa])) (upd (upd H4 t (.tup [V.str nm, V.int fa])) q (.lst (us ++ [.ref t]))) := Tps.lst eq5
        have t6 := (Tps.of s5).trans t5
        refine ⟨⟨_, _, rfl⟩, (P5.same s5).upd qp qc, fun b o z h1 h2 => ?_, ?_, us ++ [.ref t], es ++ [(nm, fa)], upd_same, by rw [List.length_append]; show us.length + 1 ≤ j + 1; omega, ?_, ?_, ?_⟩
        · rw [upd_ne (ne_of_none z hq)]
          exact s5 _ _ (b6 _ _ z h1 h2)
        · rw [upd_ne qL.symm]
          exact s5 _ _ eL4
        · exact Paired.snoc (Paired.mapP pu4 fun _ pr z => Dp.tps t6 z rfl) (.tup (SqT.of (t5.1 _ _ upd_same)) (.cons (.str _) (.cons (.int _) .nil)))
        · intro pr hpr
          rcases List.mem_append.mp hpr with z | z
          · exact pe pr z
          · rw [List.mem_singleton.mp z]
            exact ⟨hz, f0, f1⟩
        · rw [List.map_append, take_snoc hnm]
          exact List.Sublist.append sub (List.Sublist.refl _)
    · rintro σ H3 ⟨⟨x4, x5, rfl⟩, P3, b3, eL3, us, es, eq3, lu, pu, pe, sub⟩
      rw [List.length_map] at P3 sub lu
      rw [List.take_length] at sub
      refine ⟨_, rfl, p, c, lim, n + ys.length, 7, rfl, P3, by omega, by decide, by decide, fun r H4 r0 r1 P4 b4 => ?_⟩
      have eq4 := b4 _ _ eq3 qp qc
      have pu4 : Paired (fun x pr => Dp K H4 x (.tuple [.str pr.1, .int pr.2])) us es := Paired.mapP pu fun _ pr z => Dp.tps (b4.tps P3) z rfl
      refine ⟨_, _, rfl, rfl, ?_⟩
      refine ⟨_, rfl, q, us, rfl, .inl ⟨SqL.of eq4, fun l hl => ?_⟩⟩
      have s5 := same_new (o := .tup us) hl
      refine ⟨(by show 2 ≤ sizeLine; decide), fun t ht => ?_⟩
      have s6 := same_new (o := .tup [V.int (r - 3), V.ref l]) ht
      have s7 := s5.trans s6
      refine k _ ⟨r - 3, es⟩ _ ⟨⟨by show -3 ≤ r - 3; omega, by show r - 3 ≤ 3; omega⟩, fun pr hpr => ?_, as.sublist sub, by rw [← ly]; have := sub.length_le; rwa [List.length_map] at this⟩ ?_ (by rw [← ly]; exact (P4.same s7)) (fun b o z h1 h2 => s7 _ _ (b4 _ _ (b3 _ _ z h1 h2) h1 h2))
      · obtain ⟨e1, e2, e3⟩ := pe pr hpr
        exact ⟨perm.mem_iff.mp (sub.subset (List.mem_map.mpr ⟨pr, hpr, rfl⟩)), e1, e2, e3⟩
      · refine .tup (SqT.of upd_same) (.cons (.int _) (.cons (.tup (SqT.of (s6 _ _ upd_same)) ?_) .nil))
        exact DpAll.ofPaired (Paired.mapP pu4 fun _ _ z => z.same s7)
end

/-! ### the law's args and calls -/
abbrev sLAr : Stmt := topS 69
abbrev NLAr : List Str := ["_law_pool_here", "_law_params", "_law_names_here", "_law_args_here", "_law_param"]
abbrev PLAr : List Str := ["_law_pool_here", "_law_params", "_law_names_here"]
theorem scLAr : FnScope NLAr PLAr (defScope sLAr) := ⟨rfl, rfl, rfl, by decide +kernel, rfl, by decide +kernel, by decide +kernel⟩
abbrev sLCa : Stmt := topS 70
abbrev NLCa : List Str := ["_law_pool_here", "_law_env", "_law_head"]
abbrev PLCa : List Str := ["_law_pool_here", "_law_env"]
theorem scLCa : FnScope NLCa PLCa (defScope sLCa) := ⟨rfl, rfl, rfl, by decide +kernel, rfl, by decide +kernel, by decide +kernel⟩
abbrev Head := Str × List (Str × Bool)
def hdaD (h : Head) : PyData := .tuple [.str h.1, .tuple (h.2.map prD)]
def WA (own : List Str) : Arg → Prop
  | .place n => n ∈ own
  | .value e => EX own e
structure WC (own : List Str) (heads : List Head) (c : Cal) : Prop where
  hd : ∃ h ∈ heads, c.1 = h.1 ∧ c.2.map isPl = h.2.map Prod.snd
  as : ∀ a ∈ c.2, WA own a
structure EnvAt (K : PySem.W.Frag) (H : Hp) (p c : Addr) (v : V) (own kinds : List Str) (heads : List Head) : Prop where
  ex : ∃ e nl kl hl hs, v = .ref e ∧ SqT K H e [.ref nl, .ref kl, .ref hl] ∧ H nl = some (.lst (own.map V.str)) ∧ H kl = some (.lst (kinds.map V.str)) ∧ H hl = some (.lst hs) ∧ Paired (fun x h => Dp K H x (hdaD h)) hs heads ∧
    (nl ≠ p ∧ nl ≠ c) ∧ (kl ≠ p ∧ kl ≠ c) ∧ (hl ≠ p ∧ hl ≠ c)
structure EnvOk (own kinds : List Str) (heads : List Head) : Prop where
  o : own.Nodup ∧ own ≠ [] ∧ own.length ≤ 8
  k : kinds ≠ [] ∧ kinds.length ≤ 2
  h : heads ≠ [] ∧ heads.length ≤ 3
  ps : ∀ h ∈ heads, h.2.length ≤ 2 ∧ isName h.1 = true ∧ ∀ p ∈ h.2, isName p.1 = true
theorem noL_hda (h : Head) : noL (hdaD h) = true := by
  simp only [hdaD, noL, noLs, Bool.true_and, Bool.and_true]
  exact noLs_map noL_pr _
theorem EnvAt.but {K : PySem.W.Frag} {H H' : Hp} {p c : Addr} {v : V} {own kinds : List Str} {heads : List Head} {lim : V} {n : Nat} (h : EnvAt K H p c v own kinds heads) (b : But p c H H') (P0 : PoolAt H p c lim n) : EnvAt K H' p c v own kinds heads := by
  obtain ⟨e, nl, kl, hl, hs, e1, e2, e3, e4, e5, e6, e7, e8, e9⟩ := h
  exact ⟨e, nl, kl, hl, hs, e1, (b.tps P0).sqt e2, b _ _ e3 e7.1 e7.2, b _ _ e4 e8.1 e8.2, b _ _ e5 e9.1 e9.2, Paired.mapP e6 fun _ h z => Dp.tps (b.tps P0) z (noL_hda h), e7, e8, e9⟩
def spLAr (K : PySem.W.Frag) : Sp := fun vs H Q _ => ∃ (p c nl : Addr) (v : V) (lim : V) (n : Nat) (own : List Str) (ps : List (Str × Bool)), vs = [.ref p, v, .ref nl] ∧ PoolAt H p c lim n ∧ n + 1000 < 1000000000000 ∧ Dp K H v (.tuple (ps.map prD)) ∧ ps.length ≤ 2 ∧ H nl = some (.lst (own.map V.str)) ∧ nl ≠ p ∧ nl ≠ c ∧ own.Nodup ∧ own ≠ [] ∧ own.length ≤ 8 ∧
  ∀ (v : V) (as : List Arg) (H' : Hp), as.map isPl = ps.map Prod.snd → (∀ a ∈ as, WA own a) → Dp K H' v (.tuple (as.map argD)) → PoolAt H' p c lim (n + 20) → But p c H H' → Q v H'
def spLCa (K : PySem.W.Frag) : Sp := fun vs H Q _ => ∃ (p c : Addr) (v : V) (lim : V) (n : Nat) (own kinds : List Str) (heads : List Head), vs = [.ref p, v] ∧ PoolAt H p c lim n ∧ n + 2000 < 1000000000000 ∧ EnvAt K H p c v own kinds heads ∧ EnvOk own kinds heads ∧
  ∀ (v : V) (cl : Cal) (H' : Hp), WC own heads cl → Dp K H' v (calD cl) → PoolAt H' p c lim (n + 21) → But p c H H' → Q v H'
section
variable {P : Program} {w : World} {K : PySem.W.Frag} {mg : Str → Option Value} {base : Heap}
theorem ok_LAr {f : Addr} {fd : FuncData} (F : Fun K "_law_args" "_law_args" sLAr f fd) (T : TxGen mg) (GD : Has P w K mg base CX0 2 "_law_draw" PDraw spDraw) (GE : Has P w K mg base CX0 3 "_law_expression" PLEx (spLEx K)) : FnOk P w K mg base CX0 4 f fd PLAr (spLAr K) := by
  refine F.ok scLAr (fun vs H Q E h => ?_) (fun cdv A outer s H vs Q E hr h => ?_)
  · obtain ⟨p, c, nl, v, lim, n, own, ps, rfl, _⟩ := h
    rfl
  · obtain ⟨p, c, nl, v, lim, n, own, ps, rfl, P0, hn, hv, lps, hnl, np, nc, nd, ne, l8, k⟩ := h
    have hr2 := hr.mono (j := 2) (by omega)
    refine ⟨_, (pss_cons (ps_set (i := 3) scLAr.nd rfl (Or.inl rfl) (pe_lst pa_nil))
  (pss_cons (ps_for PassesOwn.never rfl (pi_tup (pv 1)) (pg_name (i := 4) scLAr.nd rfl (Or.inl rfl))
  (pss_one (ps_if (pt_val (pe_ix (r := rIxT K) ix_tup (pv 4) pe_int (fun _ _ => rfl)))
  (pss_one (ps_expr (pe_bm PySem.F.plainAttrs_list PySem.F.slot_list_append PySem.F.type_list_append mt_append (pv 3) (pa_cons (pe_tup (pa_cons pe_str (pa_cons (pe_ix (r := rIxL K) ix_list (pv 2) (pe_callH GD hr2 rfl pass0 (pa_cons (pv 0) (pa_cons (pe_callB call_len_seq (by rfl) T.n_len bb_len (pa_cons (pv 2) pa_nil)) pa_nil))) (fun _ _ => rfl)) pa_nil))) pa_nil))))
  (pss_one (ps_expr (pe_bm PySem.F.plainAttrs_list PySem.F.slot_list_append PySem.F.type_list_append mt_append (pv 3) (pa_cons (pe_tup (pa_cons pe_str (pa_cons (pe_callH GE hr rfl pass0 (pa_cons (pv 0) (pa_cons (pv 2) (pa_cons pe_int pa_nil)))) pa_nil))) pa_nil)))))))
  (pss_one (ps_ret (pe_callTy call_tuple_of (by rfl) T.n_tuple bb_tuple (pa_cons (pv 3) pa_nil)))))), ?_⟩
    obtain ⟨a, xs, rfl, hq0, hd⟩ := hv.tupInv
    have pp := DpAll.map hd
    have lx : xs.length = ps.length := Paired.length pp
    refine ⟨(by show 0 ≤ sizeLine; decide), fun q hq => ?_⟩
    have s1 := same_new (o := .lst []) hq
    have P1 := P0.same s1
    have qp := P0.ne1 hq
    have qc := P0.ne2 hq
    have qn := ne_of_none hnl hq
    refine ⟨_, rfl, a, rfl, ⟨_, SqT.same s1 hq0⟩, ?_⟩
    refine for_tup (K := K) (a := a) (xs := xs) (fun j σ H' => (∃ x4 : Option V, σ = [some (.ref p), some (.ref a), some (.ref nl), some (.ref q), x4]) ∧ PoolAt H' p c lim (n + 10 * j) ∧ But p c H H' ∧ H' nl = some (.lst (own.map V.str)) ∧ ∃ (us : List V) (as : List Arg), H' q = some (.lst us) ∧ us.length = j ∧ Paired (fun x g => Dp K H' x (argD g)) us as ∧ as.map isPl = (ps.take j).map Prod.snd ∧ ∀ g ∈ as, WA own g)
      ⟨⟨_, rfl⟩, P1, But.of s1, s1 _ _ hnl, [], [], upd_same, rfl, .nil, rfl, fun _ z => (nomatch z)⟩ (fun j σ H' _ h' => (h'.2.2.1.tps P0).sqt hq0) ?_ ?_
    · rintro j x σ H3 hx ⟨⟨x4, rfl⟩, P3, b3, en3, us, as, eq3, lu, pu, pm, pw⟩
      obtain ⟨pr, hpr, hpd⟩ := Paired.at pp hx
      have hj : j < xs.length := (List.getElem?_eq_some_iff.mp hx).1
      have hpd3 : Dp K H3 x (.tuple [.str pr.1, .bool pr.2]) := Dp.tps (b3.tps P0) hpd rfl
      obtain ⟨d, ds, rfl, hd3, hdd⟩ := hpd3.tupInv
      obtain ⟨u1, u2, rfl, g1, g2⟩ := hdd.two
      rw [Dp.blInv g2] at hd3
      have fin : ∀ (H5 : Hp) (t : Addr) (ga : Arg), isPl ga = pr.2 → WA own ga → H5 q = some (.lst us) → But p c H3 H5 → PoolAt H5 p c lim (n + 10 * j + 10) → Dp K H5 (.ref t) (argD ga) → (us ++ [V.ref t]).length < sizeLine ∧
          ((∃ x4 : Option V, [some (V.ref p), some (.ref a), some (.ref nl), some (.ref q), some (.ref d)] = [some (V.ref p), some (.ref a), some (.ref nl), some (.ref q), x4]) ∧ PoolAt (upd H5 q (.lst (us ++ [.ref t]))) p c lim (n + 10 * (j + 1)) ∧ But p c H (upd H5 q (.lst (us ++ [.ref t]))) ∧ upd H5 q (.lst (us ++ [.ref t])) nl = some (.lst (own.map V.str)) ∧ ∃ (us' : List V) (as : List Arg), upd H5 q (.lst (us ++ [.ref t])) q = some (.lst us') ∧ us'.length = j + 1 ∧ Paired (fun x g => Dp K (upd H5 q (.lst (us ++ [.ref t]))) x (argD g)) us' as ∧ as.map isPl = (ps.take (j + 1)).map Prod.snd ∧ ∀ g ∈ as, WA own g) := by
        intro H5 t ga hg wa eq5 b5 P5 dt
        have t5 : Tps H5 (upd H5 q (.lst (us ++ [.ref t]))) := Tps.lst eq5
        refine ⟨small1000 (by rw [List.length_append]; show us.length + 1 ≤ 1000; omega), ⟨_, rfl⟩, ?_, fun b o z h1 h2 => ?_, ?_, us ++ [.ref t], as ++ [ga], upd_same, by rw [List.length_append, lu]; rfl, ?_, ?_, ?_⟩
        · rw [show n + 10 * (j + 1) = n + 10 * j + 10 by omega]
          exact P5.upd qp qc
        · rw [upd_ne (ne_of_none z hq)]
          exact b5 _ _ (b3 _ _ z h1 h2) h1 h2
        · rw [upd_ne qn]
          exact b5 _ _ en3 np nc
        · exact Paired.snoc (Paired.mapP pu fun _ g z => Dp.tps ((b5.tps P3).trans t5) z (noL_arg g)) (Dp.tps t5 dt (noL_arg ga))
        · rw [List.map_append, pm, take_snoc hpr, List.map_append]
          show _ ++ [isPl ga] = _ ++ [pr.2]
          rw [hg]
        · intro g hgm
          rcases List.mem_append.mp hgm with z | z
          · exact pw g z
          · rw [List.mem_singleton.mp z]; exact wa
      refine ⟨_, rfl, d, _, _, _, rfl, rfl, hd3, rfl, _, rfl, ?_⟩
      cases hb : pr.2 with
      | true =>
        refine iteS rfl ?_
        have lo : 0 < own.length := List.length_pos_iff.mpr ne
        refine ⟨_, rfl, .inl ⟨rfl, _, SqL.of eq3⟩, _, rfl, _, rfl, _, rfl, nl, _, rfl, .inl (SqL.of en3), p, c, lim, n + 10 * j, _, rfl, P3, by omega, by rw [List.length_map]; omega, by rw [List.length_map]; omega, fun r H4 r0 r1 P4 b4 => ?_⟩
        obtain ⟨w, hw, mw⟩ := atI_in (xs := own.map V.str) r0 r1
        obtain ⟨nm, hnm, rfl⟩ := List.mem_map.mp mw
        have en4 := b4 _ _ en3 np nc
        have eq4 := b4 _ _ eq3 qp qc
        refine ⟨nl, _, _, _, rfl, rfl, SqL.of en4, hw, (by show 2 ≤ sizeLine; decide), fun t ht => ?_⟩
        have s5 := same_new (o := .tup [V.str "place", V.str nm]) ht
        obtain ⟨f1, f2⟩ := fin _ t (.place nm) (by rw [hb]; rfl) hnm (s5 _ _ eq4) (fun b o z h1 h2 => s5 _ _ (b4 _ _ z h1 h2)) ((P4.same s5).mono (by omega)) (.tup (SqT.of upd_same) (.cons (.str _) (.cons (.str _) .nil)))
        exact ⟨q, _, _, rfl, rfl, s5 _ _ eq4, by rw [List.length_append] at f1; exact Nat.lt_of_succ_lt f1, f2⟩
      | false =>
        refine iteE rfl ?_
        refine ⟨_, rfl, .inl ⟨rfl, _, SqL.of eq3⟩, _, rfl, _, rfl, p, c, nl, lim, n + 10 * j, own, rfl, P3, by omega, en3, np, nc, nd, by omega, fun w e H4 ex dw P4 b4 => ?_⟩
        have eq4 := b4 _ _ eq3 qp qc
        refine ⟨(by show 2 ≤ sizeLine; decide), fun t ht => ?_⟩
        have s5 := same_new (o := .tup [V.str "value", w]) ht
        obtain ⟨f1, f2⟩ := fin _ t (.value e) (by rw [hb]; rfl) ex (s5 _ _ eq4) (fun b o z h1 h2 => s5 _ _ (b4 _ _ z h1 h2)) ((P4.same s5).mono (by omega)) (.tup (SqT.of upd_same) (.cons (.str _) (.cons (dw.same s5) .nil)))
        exact ⟨q, _, _, rfl, rfl, s5 _ _ eq4, by rw [List.length_append] at f1; exact Nat.lt_of_succ_lt f1, f2⟩
    · rintro σ H3 ⟨⟨x4, rfl⟩, P3, b3, en3, us, as, eq3, lu, pu, pm, pw⟩
      rw [lx, List.take_length] at pm
      refine ⟨_, rfl, q, us, rfl, .inl ⟨SqL.of eq3, fun l hl => ?_⟩⟩
      have s5 := same_new (o := .tup us) hl
      exact k _ as _ pm pw (.tup (SqT.of upd_same) (DpAll.ofPaired (Paired.mapP pu fun _ _ z => z.same s5))) ((P3.same s5).mono (by omega)) (fun b o z h1 h2 => s5 _ _ (b3 _ _ z h1 h2))
theorem ok_LCa {f : Addr} {fd : FuncData} (F : Fun K "_law_call" "_law_call" sLCa f fd) (T : TxGen mg) (GD : Has P w K mg base CX0 2 "_law_draw" PDraw spDraw) (GA : Has P w K mg base CX0 4 "_law_args" PLAr (spLAr K)) : FnOk P w K mg base CX0 5 f fd PLCa (spLCa K) := by
  refine F.ok scLCa (fun vs H Q E h => ?_) (fun cdv A outer s H vs Q E hr h => ?_)
  · obtain ⟨p, c, v, lim, n, own, kinds, heads, rfl, _⟩ := h
    rfl
  · obtain ⟨p, c, v, lim, n, own, kinds, heads, rfl, P0, hn, ev, ok, k⟩ := h
    have hr2 := hr.mono (j := 2) (by omega)
    refine ⟨_, (pss_cons (ps_set (i := 2) scLCa.nd rfl (Or.inl rfl) (pe_ix (r := rIxL K) ix_list (pe_ix (r := rIxT K) ix_tup (pv 1) pe_int (fun _ _ => rfl)) (pe_callH GD hr2 rfl pass0 (pa_cons (pv 0) (pa_cons (pe_callB call_len_seq (by rfl) T.n_len bb_len (pa_cons (pe_ix (r := rIxT K) ix_tup (pv 1) pe_int (fun _ _ => rfl)) pa_nil)) pa_nil))) (fun _ _ => rfl)))
  (pss_one (ps_ret (pe_tup (pa_cons (pe_ix (r := rIxT K) ix_tup (pv 2) pe_int (fun _ _ => rfl)) (pa_cons (pe_callH GA hr rfl pass0 (pa_cons (pv 0) (pa_cons (pe_ix (r := rIxT K) ix_tup (pv 2) pe_int (fun _ _ => rfl)) (pa_cons (pe_ix (r := rIxT K) ix_tup (pv 1) pe_int (fun _ _ => rfl)) pa_nil)))) pa_nil)))))), ?_⟩
    obtain ⟨e, nl, kl, hl, hs, rfl, e2, e3, e4, e5, e6, e7, e8, e9⟩ := ev
    have lh : hs.length = heads.length := Paired.length e6
    have lo : 0 < heads.length := List.length_pos_iff.mpr ok.h.1
    have l3 := ok.h.2
    refine ⟨_, rfl, e, _, _, _, rfl, rfl, e2, rfl, _, rfl, _, rfl, e, _, _, _, rfl, rfl, e2, rfl, hl, _, rfl, .inl (SqL.of e5), p, c, lim, n, _, rfl, P0, by omega, by omega, by omega, fun r H1 r0 r1 P1 b1 => ?_⟩
    obtain ⟨w, hw, mw⟩ := atI_in r0 r1
    obtain ⟨i, hi⟩ := List.mem_iff_getElem?.mp mw
    obtain ⟨h, hh, hdp⟩ := Paired.at e6 hi
    have mh := List.mem_of_getElem? hh
    have t1 := b1.tps P0
    have hdp1 : Dp K H1 w (.tuple [.str h.1, .tuple (h.2.map prD)]) := Dp.tps t1 hdp (noL_hda h)
    obtain ⟨d, ds, rfl, hd, hdd⟩ := hdp1.tupInv
    obtain ⟨u1, u2, rfl, g1, g2⟩ := hdd.two
    rw [g1.strInv] at hd
    refine ⟨hl, _, _, _, rfl, rfl, SqL.of (b1 _ _ e5 e9.1 e9.2), hw, ?_⟩
    refine ⟨_, rfl, d, _, _, _, rfl, rfl, hd, rfl, _, rfl, _, rfl, d, _, _, _, rfl, rfl, hd, rfl, _, rfl, e, _, _, _, rfl, rfl, t1.sqt e2, rfl, p, c, nl, u2, lim, n + 1, own, h.2, rfl, P1, by omega, g2, (ok.ps h mh).1, b1 _ _ e3 e7.1 e7.2, e7.1, e7.2, ok.o.1, ok.o.2.1, ok.o.2.2, fun v as H2 pm pw dv P2 b2 => ?_⟩
    refine ⟨(by show 2 ≤ sizeLine; decide), fun t ht => ?_⟩
    have s3 := same_new (o := .tup [V.str h.1, v]) ht
    exact k _ (h.1, as) _ ⟨⟨h, mh, rfl, pm⟩, pw⟩ (.tup (SqT.of upd_same) (.cons (.str _) (.cons (dv.same s3) .nil))) (P2.same s3) (fun b o z h1 h2 => s3 _ _ (b2 _ _ (b1 _ _ z h1 h2) h1 h2))
end

/-! ### the law's pieces and blocks -/
abbrev sLPi : Stmt := topS 71
abbrev NLPi : List Str := ["_law_pool_here", "_law_env", "_law_depth", "_law_is_last", "_law_names_here", "_law_kinds", "_law_heads", "_law_choice", "_law_target", "_law_block_here", "_law_handlers", "_law_kind", "_law_first"]
abbrev PLPi : List Str := ["_law_pool_here", "_law_env", "_law_depth", "_law_is_last"]
theorem scLPi : FnScope NLPi PLPi (defScope sLPi) := ⟨rfl, rfl, rfl, by decide +kernel, rfl, by decide +kernel, by decide +kernel⟩
abbrev sLBk : Stmt := topS 72
abbrev NLBk : List Str := ["_law_pool_here", "_law_env", "_law_depth", "_law_is_last", "_law_found", "_law_k"]
abbrev PLBk : List Str := ["_law_pool_here", "_law_env", "_law_depth", "_law_is_last"]
theorem scLBk : FnScope NLBk PLBk (defScope sLBk) := ⟨rfl, rfl, rfl, by decide +kernel, rfl, by decide +kernel, by decide +kernel⟩
mutual
def wS (own kinds : List Str) (heads : List Head) (last : Bool) : St → Prop
  | .set t e => t ∈ own ∧ EX own e
  | .input t => t ∈ own
  | .raise k => k ∈ kinds
  | .risk ks => ks ≠ [] ∧ ks.length ≤ 2 ∧ ∀ k ∈ ks, k ∈ kinds
  | .call t f as => (∀ x, t = some x → x ∈ own) ∧ WC own heads (f, as)
  | .ret e => last = false ∧ EX own e
  | .ite a b => wL own kinds heads last a ∧ wL own kinds heads last b
  | .whl b => last = false ∧ wL own kinds heads false b
  | .try_ b hs f => last = false ∧ hs.length ≤ 2 ∧ wL own kinds heads false b ∧ wHs own kinds heads hs ∧ wL own kinds heads true f
  | .undo ns b => last = false ∧ (ns ≠ [] ∧ ns.length ≤ 3 ∧ ∀ n ∈ ns, n ∈ own) ∧ wL own kinds heads false b
  | .with_ e l ks b => last = false ∧ WC own heads e ∧ WC own heads l ∧ (ks.length ≤ 2 ∧ ∀ k ∈ ks, k ∈ kinds) ∧ wL own kinds heads false b
def wL (own kinds : List Str) (heads : List Head) (last : Bool) : List St → Prop
  | [] => True
  | s :: r => wS own kinds heads last s ∧ wL own kinds heads last r
def wH (own kinds : List Str) (heads : List Head) : Hd → Prop
  | .mk ks b => (ks ≠ [] ∧ ks.length ≤ 2 ∧ ∀ k ∈ ks, k ∈ kinds) ∧ wL own kinds heads false b
def wHs (own kinds : List Str) (heads : List Head) : List Hd → Prop
  | [] => True
  | h :: r => wH own kinds heads h ∧ wHs own kinds heads r
end
theorem wL_snoc {own kinds : List Str} {heads : List Head} {last : Bool} {s : St} (hs : wS own kinds heads last s) : ∀ {b : List St}, wL own kinds heads last b → wL own kinds heads last (b ++ [s])
  | [], _ => ⟨hs, trivial⟩
  | _ :: _, h => ⟨h.1, wL_snoc hs h.2⟩
theorem wHs_snoc {own kinds : List Str} {heads : List Head} {s : Hd} (hs : wH own kinds heads s) : ∀ {b : List Hd}, wHs own kinds heads b → wHs own kinds heads (b ++ [s])
  | [], _ => ⟨hs, trivial⟩
  | _ :: _, h => ⟨h.1, wHs_snoc hs h.2⟩
theorem szB_snoc {s : St} : ∀ b : List St, szB (b ++ [s]) = szB b + (1 + szS s)
  | [] => by show 1 + szS s + 0 = 0 + _; omega
  | x :: r => by show 1 + szS x + szB (r ++ [s]) = 1 + szS x + szB r + _; rw [szB_snoc r]; omega
theorem szHs_snoc {s : Hd} : ∀ b : List Hd, szHs (b ++ [s]) = szHs b + szH s
  | [] => by show szH s + 0 = 0 + _; omega
  | x :: r => by show szH x + szHs (r ++ [s]) = szH x + szHs r + _; rw [szHs_snoc r]; omega
theorem dpIn_snoc {s : St} : ∀ b : List St, dpIn (b ++ [s]) = max (dpIn b) (dpS s)
  | [] => by show max (dpS s) 0 = max 0 _; omega
  | x :: r => by show max (dpS x) (dpIn (r ++ [s])) = max (max (dpS x) (dpIn r)) _; rw [dpIn_snoc r]; omega
theorem dpHs_snoc {s : Hd} : ∀ b : List Hd, dpHs (b ++ [s]) = max (dpHs b) (dpH s)
  | [] => by show max (dpH s) 0 = max 0 _; omega
  | x :: r => by show max (dpH x) (dpHs (r ++ [s])) = max (max (dpH x) (dpHs r)) _; rw [dpHs_snoc r]; omega
/-- the most draws of a block -/
def cb : Nat → Nat
  | 0 => 0
  | m + 1 => 601 + 12 * cb m
def cp (m : Nat) : Nat := 200 + 4 * cb m
def Lim (bu : Nat) : V := .int (bu : Int)
def spLPi (K : PySem.W.Frag) (m : Nat) : Sp := fun vs H Q _ => ∃ (p c : Addr) (v : V) (n bu d : Nat) (last : Bool) (own kinds : List Str) (heads : List Head), vs = [.ref p, v, .int (d : Int), .bl last] ∧ PoolAt H p c (Lim bu) n ∧ n + cp m ≤ 900000000000 ∧ EnvAt K H p c v own kinds heads ∧ EnvOk own kinds heads ∧
  (last = false → 0 < d → d + 2 ≤ m) ∧ (last = true → d ≤ m) ∧
  ∀ (v : V) (s : St) (bu' : Nat) (H' : Hp), wS own kinds heads last s → dpS s ≤ m → szS s + bu' = bu → Dp K H' v (stD s) → PoolAt H' p c (Lim bu') (n + cp m) → But p c H H' → Q v H'
def spLBk (K : PySem.W.Frag) (m : Nat) : Sp := fun vs H Q _ => ∃ (p c : Addr) (v : V) (n bu d : Nat) (last : Bool) (own kinds : List Str) (heads : List Head), vs = [.ref p, v, .int (d : Int), .bl last] ∧ PoolAt H p c (Lim bu) n ∧ n + cb m ≤ 900000000000 ∧ EnvAt K H p c v own kinds heads ∧ EnvOk own kinds heads ∧
  (last = false → d + 3 ≤ m) ∧ (last = true → d + 1 ≤ m) ∧
  ∀ (v : V) (b : List St) (bu' : Nat) (H' : Hp), wL own kinds heads last b → b.length ≤ 3 → dpB b ≤ m → szB b + bu' = bu → Dp K H' v (blD b) → PoolAt H' p c (Lim bu') (n + cb m) → But p c H H' → Q v H'
theorem pool_lim {H : Hp} {p c : Addr} {bu : Nat} {n : Nat} (h : PoolAt H p c (Lim bu) n) : ∃ xs, H p = some (.lst xs) ∧ atI xs 5 = some (.int (bu : Int)) ∧ xs.length = 6 ∧ ∀ b2 : Nat, PoolAt (upd H p (.lst (xs.set 5 (Lim b2)))) p c (Lim b2) n := by
  obtain ⟨i, cs, cn, sd, md, e1, e2, e⟩ := h
  refine ⟨_, e1, rfl, rfl, fun b2 => ⟨i, cs, cn, sd, md, upd_same, ?_, e⟩⟩
  rw [upd_ne (pool_ne e1 e2).symm]
  exact e2
section
variable {P : Program} {w : World} {K : PySem.W.Frag} {mg : Str → Option Value} {base : Heap}
theorem ok_LBk {m : Nat} {f : Addr} {fd : FuncData} (F : Fun K "_law_block" "_law_block" sLBk f fd) (T : TxGen mg) (GD : Has P w K mg base CX0 2 "_law_draw" PDraw spDraw) (GP : Has P w K mg base CX0 (6 + 2 * m) "_law_piece" PLPi (spLPi K m)) : FnOk P w K mg base CX0 (6 + 2 * m + 1) f fd PLBk (spLBk K (m + 1)) := by
  refine F.ok scLBk (fun vs H Q E h => ?_) (fun cdv A outer s H vs Q E hr h => ?_)
  · obtain ⟨p, c, v, n, bu, d, last, own, kinds, heads, rfl, _⟩ := h
    rfl
  · obtain ⟨p, c, v, n, bu, d, last, own, kinds, heads, rfl, P0, hn, ev, ok, hf, ht, k⟩ := h
    have hr2 := hr.mono (j := 2) (by omega)
    have ecb : cb (m + 1) = 601 + 12 * cb m := rfl
    have ecp : cp m = 200 + 4 * cb m := rfl
    refine ⟨_, (pss_cons (ps_set (i := 4) scLBk.nd rfl (Or.inl rfl) (pe_lst pa_nil))
  (pss_cons (ps_for PassesOwn.never rfl (pi_range1 (by rfl) T.n_range (pa_cons (pe_callH GD hr2 rfl pass0 (pa_cons (pv 0) (pa_cons pe_int pa_nil))) pa_nil)) (pg_name (i := 5) scLBk.nd rfl (Or.inl rfl))
  (pss_one (ps_if (pt_cmpR op_gt (pe_ix (r := rIxL K) ix_list (pv 0) pe_int (fun _ _ => rfl)) pe_int (nomark _))
  (pss_cons (ps_asg (pe_op op_sub (pe_ix (r := rIxL K) ix_list (pv 0) pe_int (fun _ _ => rfl)) pe_int) (pg_sub (pv 0) pe_int set_list))
  (pss_one (ps_expr (pe_bm PySem.F.plainAttrs_list PySem.F.slot_list_append PySem.F.type_list_append mt_append (pv 4) (pa_cons (pe_callH GP hr rfl pass0 (pa_cons (pv 0) (pa_cons (pv 1) (pa_cons (pv 2) (pa_cons (pv 3) pa_nil))))) pa_nil)))))
  pss_nil)))
  (pss_one (ps_ret (pe_callTy call_tuple_of (by rfl) T.n_tuple bb_tuple (pa_cons (pv 4) pa_nil)))))), ?_⟩
    refine ⟨(by show 0 ≤ sizeLine; decide), fun q hq => ?_⟩
    have s1 := same_new (o := .lst []) hq
    have P1 := P0.same s1
    have qp := P0.ne1 hq
    have qc := P0.ne2 hq
    refine ⟨_, rfl, p, c, Lim bu, n, 4, rfl, P1, by omega, by decide, by decide, fun r H1 r0 r1 P2 b2 => ?_⟩
    have eq1 := b2 _ _ (upd_same (H := H)) qp qc
    have b3 := (But.of s1).trans b2
    have ev3 := ev.but b3 P0
    have lr : r.toNat ≤ 3 := by omega
    refine ⟨r, rfl, by omega, by omega, ?_⟩
    refine for_range (lo := 0) (n := r.toNat) (fun i σ H' => (∃ x5 : Option V, σ = [some (.ref p), some v, some (.int (d : Int)), some (.bl last), some (.ref q), x5]) ∧ EnvAt K H' p c v own kinds heads ∧ But p c H H' ∧ ∃ (us : List V) (b : List St) (bu' : Nat), PoolAt H' p c (Lim bu') (n + 1 + i * cp m) ∧ H' q = some (.lst us) ∧ us.length ≤ i ∧ Paired (fun x s => Dp K H' x (stD s)) us b ∧ wL own kinds heads last b ∧ dpIn b ≤ m ∧ szB b + bu' = bu)
      ⟨⟨_, rfl⟩, ev3, b3, [], [], bu, by rw [Nat.zero_mul]; exact P2, eq1, Nat.le_refl _, .nil, trivial, Nat.zero_le _, Nat.zero_add _⟩ ?_ ?_
    · rintro i σ H3 hi ⟨⟨x5, rfl⟩, ev4, b4, us, b, bu', P3, eq3, lu, pu, wl, db, sz⟩
      obtain ⟨xs, ep, e5, l6, upl⟩ := pool_lim P3
      have np : (n + 1 + i * cp m) + cp m = n + 1 + (i + 1) * cp m := by rw [Nat.succ_mul]; omega
      have nle : n + 1 + (i + 1) * cp m ≤ 900000000000 := by
        have : (i + 1) * cp m ≤ 3 * cp m := Nat.mul_le_mul_right _ (by omega)
        omega
      refine ⟨_, rfl, p, _, _, _, rfl, rfl, SqL.of ep, e5, _, _, rfl, rfl, _, rfl, ?_⟩
      by_cases hb : 0 < bu'
      · refine iteS (decide_eq_true (by omega)) ?_
        refine ⟨_, rfl, p, _, _, _, rfl, rfl, SqL.of ep, e5, _, _, rfl, rfl, ?_⟩
        refine ⟨_, rfl, p, xs, _, 5, rfl, rfl, ep, by rw [l6]; rfl, ?_⟩
        have P5 := upl (bu' - 1)
        rw [show Lim (bu' - 1) = V.int ((bu' : Int) - 1) by unfold Lim; congr 1; omega] at P5
        have pq : q ≠ p := qp
        have b5 : But p c H3 (upd H3 p (.lst (xs.set 5 (.int ((bu' : Int) - 1))))) := fun b o z h1 _ => by rw [upd_ne h1]; exact z
        have eq5 : upd H3 p (.lst (xs.set 5 (.int ((bu' : Int) - 1)))) q = some (.lst us) := by rw [upd_ne qp]; exact eq3
        have ev5 := ev4.but b5 P3
        have t5 := b5.tps P3
        generalize upd H3 p (.lst (xs.set 5 (.int ((bu' : Int) - 1)))) = H5 at *
        have P5 : PoolAt H5 p c (Lim (bu' - 1)) (n + 1 + i * cp m) := by rw [show Lim (bu' - 1) = V.int ((bu' : Int) - 1) by unfold Lim; congr 1; omega]; exact P5
        refine ⟨_, rfl, .inl ⟨rfl, _, SqL.of eq5⟩, _, rfl, _, rfl, _, rfl, _, rfl, p, c, v, n + 1 + i * cp m, bu' - 1, d, last, own, kinds, heads, rfl, P5, by omega, ev5, ok, fun h _ => by have := hf h; omega, fun h => by have := ht h; omega, fun x st bu2 H6 ws ds sz2 dp P6 b6 => ?_⟩
        have eq6 := b6 _ _ eq5 qp qc
        refine ⟨q, _, _, rfl, rfl, eq6, small1000 (by omega), ?_⟩
        have t6 : Tps H6 (upd H6 q (.lst (us ++ [x]))) := Tps.lst eq6
        have b7 : But p c H6 (upd H6 q (.lst (us ++ [x]))) → But p c H (upd H6 q (.lst (us ++ [x]))) := fun b b' o z h1 h2 => b _ _ (b6 _ _ (b5 _ _ (b4 _ _ z h1 h2) h1 h2) h1 h2) h1 h2
        have b8 : But p c H (upd H6 q (.lst (us ++ [x]))) := fun b o z h1 h2 => by
          rw [upd_ne (ne_of_none z hq)]
          exact b6 _ _ (b5 _ _ (b4 _ _ z h1 h2) h1 h2) h1 h2
        refine ⟨⟨_, rfl⟩, ev.but b8 P0, b8, us ++ [x], b ++ [st], bu2, ?_, upd_same, by rw [List.length_append]; show us.length + 1 ≤ _; omega, ?_, wL_snoc ws wl, ?_, ?_⟩
        · rw [← np]
          exact P6.upd qp qc
        · exact Paired.snoc (Paired.mapP pu fun _ s z => Dp.tps (((t5.trans (b6.tps P5))).trans t6) z (noL_st s)) (Dp.tps t6 dp (noL_st st))
        · rw [dpIn_snoc]; exact Nat.max_le.mpr ⟨db, ds⟩
        · rw [szB_snoc]; omega
      · refine iteE (decide_eq_false (by omega)) ?_
        exact ⟨⟨_, rfl⟩, ev4, b4, us, b, bu', P3.mono (by omega), eq3, by omega, pu, wl, db, sz⟩
    · rintro σ H3 ⟨⟨x5, rfl⟩, ev4, b4, us, b, bu', P3, eq3, lu, pu, wl, db, sz⟩
      have n3 : r.toNat * cp m ≤ 3 * cp m := Nat.mul_le_mul_right _ lr
      refine ⟨_, rfl, q, us, rfl, .inl ⟨SqL.of eq3, fun l hl => ?_⟩⟩
      have s5 := same_new (o := .tup us) hl
      have lub := Paired.length pu
      have edb := dpB_eq b
      exact k _ b bu' _ wl (by omega) (by omega) sz (.tup (SqT.of upd_same) (by rw [stsD_map]; exact DpAll.ofPaired (Paired.mapP pu fun _ _ z => z.same s5))) ((P3.same s5).mono (by omega)) (fun b o z h1 h2 => s5 _ _ (b4 _ _ z h1 h2))
theorem cut_mem {xs : List V} {lo hi : Option Int} {x : V} (h : x ∈ cutV xs lo hi) : x ∈ xs := List.mem_of_mem_drop (List.mem_of_mem_take h)
theorem eqv_ne {d : PyData} {ds : List PyData} : PyData.eqv (.list (d :: ds)) (.list []) = false := by simp [PyData.eqv, PyData.eqvAll]
theorem shaped_hds {heads : List Head} (h : ∀ x ∈ heads, isName x.1 = true ∧ ∀ p ∈ x.2, isName p.1 = true) : SeqAt.shaped (.list (heads.map hdaD)) = true := by
  have l1 : ∀ ps : List (Str × Bool), (∀ p ∈ ps, isName p.1 = true) → PyData.canLayAll0 (ps.map prD) = true := fun ps => by
    induction ps with
    | nil => intro _; simp [PyData.canLayAll0]
    | cons x r ih =>
      intro h
      simp only [List.map_cons, PyData.canLayAll0, prD, PyData.canLay0, strOk_name (h x List.mem_cons_self), Bool.true_and]
      exact ih fun p hp => h p (List.mem_cons_of_mem _ hp)
  have d1 : ∀ ps : List (Str × Bool), PyData.depthAll (ps.map prD) ≤ 1 := fun ps => by
    induction ps with
    | nil => simp [PyData.depthAll]
    | cons x r ih => simp only [List.map_cons, PyData.depthAll, prD, PyData.depth]; omega
  have l2 : PyData.canLayAll0 (heads.map hdaD) = true := by
    induction heads with
    | nil => simp [PyData.canLayAll0]
    | cons x r ih =>
      obtain ⟨h1, h2⟩ := h x List.mem_cons_self
      simp only [List.map_cons, PyData.canLayAll0, hdaD, PyData.canLay0, strOk_name h1, l1 x.2 h2, Bool.true_and, Bool.and_true]
      exact ih fun p hp => h p (List.mem_cons_of_mem _ hp)
  have d2 : PyData.depthAll (heads.map hdaD) ≤ 3 := by
    clear l2 h
    induction heads with
    | nil => simp [PyData.depthAll]
    | cons x r ih =>
      have := d1 x.2
      simp only [List.map_cons, PyData.depthAll, hdaD, PyData.depth]
      omega
  unfold SeqAt.shaped
  simp only [PyData.canLay0, PyData.depth, l2, Bool.true_and]
  exact decide_eq_true (by omega)
theorem dpAll_strs {K : PySem.W.Frag} {H : Hp} : ∀ l : List Str, DpAll K H (l.map V.str) (l.map PyData.str)
  | [] => .nil
  | x :: r => .cons (.str _) (dpAll_strs r)
theorem cut_two {l : List Str} {r : Int} (r0 : 0 ≤ r) (r1 : r < l.length) : ∃ ns : List Str, cutV (l.map V.str) (some r) (some (r + 2)) = ns.map V.str ∧ ns ≠ [] ∧ ns.length ≤ 2 ∧ ∀ n ∈ ns, n ∈ l := by
  obtain ⟨a, rfl⟩ : ∃ a : Nat, r = (a : Int) := ⟨r.toNat, by omega⟩
  have ha : a < l.length := by omega
  refine ⟨(l.drop a).take (min (a + 2) l.length - a), ?_, fun z => ?_, by rw [List.length_take, List.length_drop]; omega, fun n hn => List.mem_of_mem_drop (List.mem_of_mem_take hn)⟩
  · unfold cutV
    rw [show ((a : Int) + 2) = ((a + 2 : Nat) : Int) by omega, HT.sIx_nat, HT.sIx_nat, List.length_map, Nat.min_eq_left (Nat.le_of_lt ha), List.map_take, List.map_drop]
  · have := congrArg List.length z
    rw [List.length_take, List.length_drop, List.length_nil] at this
    omega
theorem cut_upto {l : List Str} {r : Int} (r0 : 0 ≤ r) : cutV (l.map V.str) none (some r) = (l.take r.toNat).map V.str := by
  obtain ⟨a, rfl⟩ : ∃ a : Nat, r = (a : Int) := ⟨r.toNat, by omega⟩
  rw [cut_take, List.map_take, Int.toNat_natCast]
theorem ite_tC {c : Bool} {a b : V} {σ : L2.St} {H : Hp} {Q : VK} (k : tC (if c = true then a else b) σ H Q) : if c = true then tC a σ H Q else tC b σ H Q := by
  cases c
  · exact k
  · exact k
theorem ok_LPi {m : Nat} {f : Addr} {fd : FuncData} (F : Fun K "_law_piece" "_law_piece" sLPi f fd) (T : TxGen mg) (GD : Has P w K mg base CX0 2 "_law_draw" PDraw spDraw) (GE : Has P w K mg base CX0 3 "_law_expression" PLEx (spLEx K)) (GC : Has P w K mg base CX0 5 "_law_call" PLCa (spLCa K)) (GB : Has P w K mg base CX0 (5 + 2 * m) "_law_block" PLBk (spLBk K m)) : FnOk P w K mg base CX0 (5 + 2 * m + 1) f fd PLPi (spLPi K m) := by
  refine F.ok scLPi (fun vs H Q E h => ?_) (fun cdv A outer s H vs Q E hr h => ?_)
  · obtain ⟨p, c, v, n, bu, d, last, own, kinds, heads, rfl, _⟩ := h
    rfl
  · obtain ⟨p, c, v, n, bu, d, last, own, kinds, heads, rfl, P0, hn, ev, ok, hf, ht, k⟩ := h
    have hr2 := hr.mono (j := 2) (by omega)
    have hr3 := hr.mono (j := 3) (by omega)
    have hr5 := hr.mono (j := 5) (by omega)
    have ecp : cp m = 200 + 4 * cb m := rfl
    refine ⟨_, (pss_cons (ps_asg (pv 1) (pg_tup (by rfl) (pgs_cons (pg_name (i := 4) scLPi.nd rfl (Or.inl rfl)) (pgs_cons (pg_name (i := 5) scLPi.nd rfl (Or.inl rfl)) (pgs_cons (pg_name (i := 6) scLPi.nd rfl (Or.inl rfl)) pgs_nil)))))
  (pss_cons (ps_set (i := 7) scLPi.nd rfl (Or.inl rfl) (pe_callH GD hr2 rfl pass0 (pa_cons (pv 0) (pa_cons (pe_ifExp (pt_cmpR op_gt (pv 2) pe_int (nomark _)) pe_int pe_int) pa_nil))))
  (pss_cons (ps_set (i := 8) scLPi.nd rfl (Or.inl rfl) (pe_ix (r := rIxL K) ix_list (pv 4) (pe_callH GD hr2 rfl pass0 (pa_cons (pv 0) (pa_cons (pe_callB call_len_seq (by rfl) T.n_len bb_len (pa_cons (pv 4) pa_nil)) pa_nil))) (fun _ _ => rfl)))
  (pss_cons (ps_if (pt_cmpR op_lt (pv 7) pe_int (nomark _))
  (pss_one (ps_ret (pe_tup (pa_cons pe_str (pa_cons (pv 8) (pa_cons (pe_callH GE hr3 rfl pass0 (pa_cons (pv 0) (pa_cons (pv 4) (pa_cons pe_int pa_nil)))) pa_nil))))))
  pss_nil)
  (pss_cons (ps_if (pt_cmpR op_lt (pv 7) pe_int (nomark _))
  (pss_one (ps_ret (pe_ifExp (pt_cmpR op_eq (pv 7) pe_int (nomark _)) (pe_tup (pa_cons pe_str (pa_cons (pe_ix (r := rIxL K) ix_list (pv 5) (pe_callH GD hr2 rfl pass0 (pa_cons (pv 0) (pa_cons (pe_callB call_len_seq (by rfl) T.n_len bb_len (pa_cons (pv 5) pa_nil)) pa_nil))) (fun _ _ => rfl)) pa_nil))) (pe_tup (pa_cons pe_str (pa_cons (pv 8) pa_nil))))))
  pss_nil)
  (pss_cons (ps_if (pt_cmpR op_lt (pv 7) pe_int (nomark _))
  (pss_one (ps_ret (pe_tup (pa_cons pe_str (pa_cons (pe_callTy call_tuple_of (by rfl) T.n_tuple bb_tuple (pa_cons (pe_slice sl_list (pv 5) po_none (po_some (pe_op op_add pe_int (pe_callH GD hr2 rfl pass0 (pa_cons (pv 0) (pa_cons (pe_callB call_len_seq (by rfl) T.n_len bb_len (pa_cons (pv 5) pa_nil)) pa_nil)))))) pa_nil)) pa_nil)))))
  pss_nil)
  (pss_cons (ps_if (PW.pt (pw_and (pt_cmpR op_lt (pv 7) pe_int (nomark _)) (pw_and1 (pt_cmpR (op_neD hr.units) (pv 6) (pe_lst pa_nil) (nomark _)))))
  (pss_one (ps_ret (pe_op op_catT (pe_tup (pa_cons pe_str (pa_cons (pe_ix (r := rIxL K) ix_list (pe_lst (pa_cons pe_non (pa_cons (pv 8) pa_nil))) (pe_callH GD hr2 rfl pass0 (pa_cons (pv 0) (pa_cons pe_int pa_nil))) (fun _ _ => rfl)) pa_nil))) (pe_callH GC hr5 rfl pass0 (pa_cons (pv 0) (pa_cons (pv 1) pa_nil))))))
  pss_nil)
  (pss_cons (ps_if (pt_cmpR op_lt (pv 7) pe_int (nomark _))
  (pss_one (ps_ret (pe_ifExp (pt_val (pv 3)) (pe_tup (pa_cons pe_str (pa_cons (pv 8) pa_nil))) (pe_tup (pa_cons pe_str (pa_cons (pe_callH GE hr3 rfl pass0 (pa_cons (pv 0) (pa_cons (pv 4) (pa_cons pe_int pa_nil)))) pa_nil))))))
  pss_nil)
  (pss_cons (ps_set (i := 9) scLPi.nd rfl (Or.inl rfl) (pe_callH GB hr rfl pass0 (pa_cons (pv 0) (pa_cons (pv 1) (pa_cons (pe_op op_sub (pv 2) pe_int) (pa_cons (pv 3) pa_nil))))))
  (pss_cons (ps_if (PW.pt (pw_or (pt_cmpR op_lt (pv 7) pe_int (nomark _)) (pw_or1 (pt_val (pv 3)))))
  (pss_one (ps_ret (pe_tup (pa_cons pe_str (pa_cons (pv 9) (pa_cons (pe_callH GB hr rfl pass0 (pa_cons (pv 0) (pa_cons (pv 1) (pa_cons (pe_op op_sub (pv 2) pe_int) (pa_cons (pv 3) pa_nil))))) pa_nil))))))
  pss_nil)
  (pss_cons (ps_if (pt_cmpR op_lt (pv 7) pe_int (nomark _))
  (pss_one (ps_ret (pe_tup (pa_cons pe_str (pa_cons (pv 9) pa_nil)))))
  pss_nil)
  (pss_cons (ps_if (pt_cmpR op_lt (pv 7) pe_int (nomark _))
  (pss_cons (ps_setLc (i := 10) (own := [("_law_kind", 11)]) (g := gName 11) (tt := tYes) rfl scLPi.nd rfl rfl (sw_true rfl rfl rfl (by decide +kernel)) (pi_list (pe_slice sl_list (pv 5) po_none (po_some (pe_callH GD hr2 rfl pass0 (pa_cons (pv 0) (pa_cons pe_int pa_nil)))))) (blkOk_by (own := [("_law_kind", 11)]) (N := NLPi) (sc := (defScope sLPi)) (by decide +kernel)) (fun _ _ _ _ _ => (pg_name (i := 11) scLPi.nd rfl (Or.inl rfl))) (fun _ _ _ _ _ => pts_nil) (fun _ _ _ _ _ => (pe_tup (pa_cons (pe_tup (pa_cons (pv 11) pa_nil)) (pa_cons (pe_callH GB hr rfl pass0 (pa_cons (pv 0) (pa_cons (pv 1) (pa_cons (pe_op op_sub (pv 2) pe_int) (pa_cons pe_bl pa_nil))))) pa_nil)))))
  (pss_one (ps_ret (pe_tup (pa_cons pe_str (pa_cons (pv 9) (pa_cons (pe_callTy call_tuple_of (by rfl) T.n_tuple bb_tuple (pa_cons (pv 10) pa_nil)) (pa_cons (pe_callH GB hr rfl pass0 (pa_cons (pv 0) (pa_cons (pv 1) (pa_cons pe_int (pa_cons pe_bl pa_nil))))) pa_nil))))))))
  pss_nil)
  (pss_cons (ps_set (i := 12) scLPi.nd rfl (Or.inl rfl) (pe_callH GD hr2 rfl pass0 (pa_cons (pv 0) (pa_cons (pe_callB call_len_seq (by rfl) T.n_len bb_len (pa_cons (pv 4) pa_nil)) pa_nil))))
  (pss_cons (ps_if (PW.pt (pw_or (pt_cmpR op_lt (pv 7) pe_int (nomark _)) (pw_or1 (pt_cmpR (op_eqD hr.units) (pv 6) (pe_lst pa_nil) (nomark _)))))
  (pss_one (ps_ret (pe_tup (pa_cons pe_str (pa_cons (pe_callTy call_tuple_of (by rfl) T.n_tuple bb_tuple (pa_cons (pe_slice sl_list (pv 4) (po_some (pv 12)) (po_some (pe_op op_add (pv 12) pe_int))) pa_nil)) (pa_cons (pv 9) pa_nil))))))
  pss_nil)
  (pss_one (ps_ret (pe_tup (pa_cons pe_str (pa_cons (pe_callH GC hr5 rfl pass0 (pa_cons (pv 0) (pa_cons (pv 1) pa_nil))) (pa_cons (pe_callH GC hr5 rfl pass0 (pa_cons (pv 0) (pa_cons (pv 1) pa_nil))) (pa_cons (pe_callTy call_tuple_of (by rfl) T.n_tuple bb_tuple (pa_cons (pe_slice sl_list (pv 5) po_none (po_some (pe_callH GD hr2 rfl pass0 (pa_cons (pv 0) (pa_cons pe_int pa_nil))))) pa_nil)) (pa_cons (pv 9) pa_nil)))))))))))))))))))))), ?_⟩
    obtain ⟨e, nl, kl, hl, hs, rfl, e2, e3, e4, e5, e6, e7, e8, e9⟩ := id ev
    have lo : 0 < own.length := List.length_pos_iff.mpr ok.o.2.1
    have l8 := ok.o.2.2
    have lk : 0 < kinds.length := List.length_pos_iff.mpr ok.k.1
    have l2 := ok.k.2
    have shh : SeqAt.shaped (.list (heads.map hdaD)) = true := shaped_hds fun x hx => (ok.ps x hx).2
    have eqh : PyData.eqv (.list (heads.map hdaD)) (.list []) = false := by
      cases heads with
      | nil => exact absurd rfl ok.h.1
      | cons x r => exact eqv_ne
    refine ⟨_, rfl, e, _, rfl, e2, rfl, _, _, rfl, _, _, rfl, _, _, rfl, rfl, ?_⟩
    refine ⟨_, rfl, _, rfl, _, _, rfl, rfl, _, rfl, ite_tC ?_⟩
    obtain ⟨mx, hmx, m0, m18, mz⟩ : ∃ mx : Int, V.int mx = (if decide ((d : Int) > 0) = true then V.int 18 else V.int 10) ∧ 0 < mx ∧ mx ≤ 18 ∧ (d = 0 → mx = 10) := by
      by_cases h : 0 < d
      · exact ⟨18, by rw [decide_eq_true (by omega)]; rfl, by decide, by decide, fun z => by omega⟩
      · exact ⟨10, by rw [decide_eq_false (by omega)]; rfl, by decide, by decide, fun z => rfl⟩
    rw [← hmx]
    refine ⟨p, c, Lim bu, n, mx, rfl, P0, by omega, m0, by omega, fun r H1 r0 r1 P1 b1 => ?_⟩
    refine ⟨_, rfl, _, rfl, _, rfl, nl, _, rfl, .inl (SqL.of (b1 _ _ e3 e7.1 e7.2)), p, c, Lim bu, n + 1, _, rfl, P1, by omega, by rw [List.length_map]; omega, by rw [List.length_map]; omega, fun rt H2 t0 t1 P2 b2' => ?_⟩
    have b2 : But p c H H2 := fun b o z h1 h2 => b2' _ _ (b1 _ _ z h1 h2) h1 h2
    have ev2 := ev.but b2 P0
    have en2 := b2 _ _ e3 e7.1 e7.2
    have ek2 := b2 _ _ e4 e8.1 e8.2
    have eh2 := b2 _ _ e5 e9.1 e9.2
    have e62 : Paired (fun x h => Dp K H2 x (hdaD h)) hs heads := Paired.mapP e6 fun _ h z => Dp.tps (b2.tps P0) z (noL_hda h)
    obtain ⟨w, hw, mw⟩ := atI_in (xs := own.map V.str) t0 t1
    obtain ⟨tg, htg, rfl⟩ := List.mem_map.mp mw
    refine ⟨nl, _, _, _, rfl, rfl, SqL.of en2, hw, ?_⟩
    clear b1 b2' P1 H1 hw mw t0 t1 e3 e4 e5 e6
    -- set
    refine ⟨_, rfl, _, _, rfl, rfl, _, rfl, ?_⟩
    by_cases h3 : r < 3
    · refine iteS (decide_eq_true h3) ?_
      refine ⟨_, rfl, _, rfl, _, rfl, p, c, nl, Lim bu, n + 2, own, rfl, P2, by omega, en2, e7.1, e7.2, ok.o.1, by omega, fun x ex H3 hex dx P3 b3 => ?_⟩
      refine ⟨(by show 3 ≤ sizeLine; decide), fun t ht => ?_⟩
      have s4 := same_new (o := .tup [V.str "set", V.str tg, x]) ht
      exact k _ (.set tg ex) bu _ ⟨htg, hex⟩ (Nat.zero_le _) (Nat.zero_add _) (.tup (SqT.of upd_same) (.cons (.str _) (.cons (.str _) (.cons (dx.same s4) .nil)))) ((P3.same s4).mono (by omega)) (fun b o z h1 h2 => s4 _ _ (b3 _ _ (b2 _ _ z h1 h2) h1 h2))
    refine iteE (decide_eq_false h3) ?_
    refine ⟨_, rfl, _, _, rfl, rfl, _, rfl, ?_⟩
    by_cases h5 : r < 5
    · refine iteS (decide_eq_true h5) ?_
      refine ⟨_, rfl, rfl, _, rfl, ?_⟩
      by_cases hr3 : r = 3
      · refine iteS (decide_eq_true (by rw [hr3])) ?_
        refine ⟨_, rfl, _, rfl, _, rfl, kl, _, rfl, .inl (SqL.of ek2), p, c, Lim bu, n + 2, _, rfl, P2, by omega, by rw [List.length_map]; omega, by rw [List.length_map]; omega, fun rk H3 k0 k1 P3 b3 => ?_⟩
        obtain ⟨w, hw, mw⟩ := atI_in (xs := kinds.map V.str) k0 k1
        obtain ⟨kd, hkd, rfl⟩ := List.mem_map.mp mw
        refine ⟨kl, _, _, _, rfl, rfl, SqL.of (b3 _ _ ek2 e8.1 e8.2), hw, (by show 2 ≤ sizeLine; decide), fun t ht => ?_⟩
        have s4 := same_new (o := .tup [V.str "raise", V.str kd]) ht
        exact k _ (.raise kd) bu _ hkd (Nat.zero_le _) (Nat.zero_add _) (.tup (SqT.of upd_same) (.cons (.str _) (.cons (.str _) .nil))) ((P3.same s4).mono (by omega)) (fun b o z h1 h2 => s4 _ _ (b3 _ _ (b2 _ _ z h1 h2) h1 h2))
      · refine iteE (decide_eq_false fun z => hr3 (V.int.inj z)) ?_
        refine ⟨_, rfl, (by show 2 ≤ sizeLine; decide), fun t ht => ?_⟩
        have s4 := same_new (o := .tup [V.str "input", V.str tg]) ht
        exact k _ (.input tg) bu _ htg (Nat.zero_le _) (Nat.zero_add _) (.tup (SqT.of upd_same) (.cons (.str _) (.cons (.str _) .nil))) ((P2.same s4).mono (by omega)) (fun b o z h1 h2 => s4 _ _ (b2 _ _ z h1 h2))
    refine iteE (decide_eq_false h5) ?_
    refine ⟨_, rfl, _, _, rfl, rfl, _, rfl, ?_⟩
    by_cases h7 : r < 7
    · refine iteS (decide_eq_true h7) ?_
      refine ⟨_, rfl, _, rfl, _, rfl, kl, _, rfl, .inl (SqL.of ek2), p, c, Lim bu, n + 2, _, rfl, P2, by omega, by rw [List.length_map]; omega, by rw [List.length_map]; omega, fun rk H3 k0 k1 P3 b3 => ?_⟩
      rw [List.length_map] at k1
      refine ⟨_, _, rfl, rfl, _, rfl, kl, _, rfl, SqL.of (b3 _ _ ek2 e8.1 e8.2), fun q hq => ?_⟩
      have ec : cutV (kinds.map V.str) none (some (1 + rk)) = (kinds.take (rk.toNat + 1)).map V.str := by
        rw [show (1 + rk : Int) = ((rk.toNat + 1 : Nat) : Int) by omega, cut_take, List.map_take]
      have s4 := same_new (o := .lst (cutV (kinds.map V.str) none (some (1 + rk)))) hq
      have eq4 : upd H3 q (.lst (cutV (kinds.map V.str) none (some (1 + rk)))) q = some (.lst ((kinds.take (rk.toNat + 1)).map V.str)) := by rw [upd_same, ec]
      have P4 := P3.same s4
      generalize upd H3 q (.lst (cutV (kinds.map V.str) none (some (1 + rk)))) = H4 at *
      refine ⟨q, _, rfl, .inl ⟨SqL.of eq4, fun l hl => ?_⟩⟩
      have s5 := same_new (o := .tup ((kinds.take (rk.toNat + 1)).map V.str)) hl
      refine ⟨(by show 2 ≤ sizeLine; decide), fun t ht => ?_⟩
      have s6 := same_new (o := .tup [V.str "risk", V.ref l]) ht
      have dks := dpAll_strs (K := K) (H := upd (upd H4 l (.tup ((kinds.take (rk.toNat + 1)).map V.str))) t (.tup [V.str "risk", V.ref l])) (kinds.take (rk.toNat + 1))
      refine k _ (.risk (kinds.take (rk.toNat + 1))) bu _ ⟨fun z => ?_, by rw [List.length_take]; omega, fun x hx => List.mem_of_mem_take hx⟩ (Nat.zero_le _) (Nat.zero_add _) (.tup (SqT.of upd_same) (.cons (.str _) (.cons (.tup (SqT.of (s6 _ _ upd_same)) dks) .nil))) (((P4.same s5).same s6).mono (by omega)) (fun b o z h1 h2 => s6 _ _ (s5 _ _ (s4 _ _ (b3 _ _ (b2 _ _ z h1 h2) h1 h2))))
      have := congrArg List.length z
      rw [List.length_take, List.length_nil] at this
      omega
    refine iteE (decide_eq_false h7) ?_
    -- call
    refine ⟨_, rfl, _, _, rfl, rfl, _, rfl, ?_⟩
    by_cases h9 : r < 9
    · refine iteS (decide_eq_true h9) ?_
      refine ⟨_, rfl, (by show 0 ≤ sizeLine; decide), fun z hz => ?_⟩
      have s3 := same_new (o := .lst []) hz
      refine ⟨.list (heads.map hdaD), .list [], .lst (SqL.of (s3 _ _ eh2)) (DpAll.ofPaired (Paired.mapP e62 fun _ _ z => z.same s3)), .lst (SqL.of upd_same) .nil, shh, by decide +kernel, _, rfl, iteS (by rw [eqh]; rfl) ?_⟩
      have P3 := P2.same s3
      have ev3 := ev2.but (But.of s3) P2
      have b3 : But p c H _ := fun b o z h1 h2 => s3 _ _ (b2 b o z h1 h2)
      clear hz
      generalize upd H2 z (.lst []) = H3 at *
      refine ⟨_, rfl, (by show 2 ≤ sizeLine; decide), fun D hD => ?_⟩
      have s4 := same_new (o := .lst [V.non, V.str tg]) hD
      have P4 := P3.same s4
      refine ⟨_, rfl, p, c, Lim bu, n + 2, 2, rfl, P4, by omega, by decide, by decide, fun rk H5 k0 k1 P5 b5 => ?_⟩
      have eD := b5 _ _ (upd_same (H := H3) (a := D) (o := .lst [V.non, V.str tg])) (P3.ne1 hD) (P3.ne2 hD)
      obtain ⟨to, hto, hat⟩ : ∃ to : Option Str, (∀ x, to = some x → x ∈ own) ∧ ∃ u, atI [V.non, V.str tg] rk = some u ∧ ∀ H : Hp, Dp K H u (optD to) := by
        have : rk = 0 ∨ rk = 1 := by omega
        rcases this with rfl | rfl
        · exact ⟨none, fun _ z => (nomatch z), _, rfl, fun _ => .non⟩
        · exact ⟨some tg, fun x z => by injection z with z; rw [← z]; exact htg, _, rfl, fun _ => .str _⟩
      obtain ⟨u, hat, du⟩ := hat
      have b35 : But p c H3 H5 := fun b o z h1 h2 => b5 _ _ (s4 _ _ z) h1 h2
      have ev5 := ev3.but b35 P3
      refine ⟨D, _, _, _, rfl, rfl, SqL.of eD, hat, (by show 2 ≤ sizeLine; decide), fun t1 ht1 => ?_⟩
      have s6 := same_new (o := .tup [V.str "call", u]) ht1
      have P6 := P5.same s6
      refine ⟨_, rfl, _, rfl, p, c, _, Lim bu, n + 2 + 1, own, kinds, heads, rfl, P6, by omega, ev5.but (But.of s6) P5, ok, fun x cl H7 hwc dx P7 b7 => ?_⟩
      have dx : Dp K H7 x (.tuple [.str cl.1, .tuple (cl.2.map argD)]) := dx
      obtain ⟨x0, xs, rfl, hx0, hxd⟩ := dx.tupInv
      obtain ⟨x1, x2, rfl, g1, g2⟩ := hxd.two
      have et1 : SqT K H7 t1 [V.str "call", u] := (b7.tps P6).sqt (SqT.of upd_same)
      refine ⟨t1, x0, _, _, rfl, rfl, et1, hx0, (by intro z; cases z), (by show 2 + 2 ≤ sizeLine; decide), (fun z => nomatch z), fun _ q hq => ?_⟩
      have s8 := same_new (o := .tup ([V.str "call", u] ++ [x1, x2])) hq
      exact k _ (.call to cl.1 cl.2) bu _ ⟨hto, hwc⟩ (Nat.zero_le _) (Nat.zero_add _) (.tup (SqT.of upd_same) (.cons (.str _) (.cons (du _) (.cons (g1.same s8) (.cons (g2.same s8) .nil))))) ((P7.same s8).mono (by omega)) (fun b o z h1 h2 => s8 _ _ (b7 _ _ (s6 _ _ (b35 _ _ (b3 _ _ z h1 h2) h1 h2)) h1 h2))
    refine iteE (decide_eq_false h9) (iteF ?_)
    refine ⟨_, rfl, _, _, rfl, rfl, _, rfl, ?_⟩
    by_cases h10 : r < 10
    · refine iteS (decide_eq_true h10) ?_
      cases last with
      | true =>
        refine ⟨_, rfl, true, rfl, iteS rfl ?_⟩
        refine ⟨_, rfl, (by show 2 ≤ sizeLine; decide), fun t ht => ?_⟩
        have s4 := same_new (o := .tup [V.str "input", V.str tg]) ht
        exact k _ (.input tg) bu _ htg (Nat.zero_le _) (Nat.zero_add _) (.tup (SqT.of upd_same) (.cons (.str _) (.cons (.str _) .nil))) ((P2.same s4).mono (by omega)) (fun b o z h1 h2 => s4 _ _ (b2 _ _ z h1 h2))
      | false =>
        refine ⟨_, rfl, false, rfl, iteE rfl ?_⟩
        refine ⟨_, rfl, _, rfl, p, c, nl, Lim bu, n + 2, own, rfl, P2, by omega, en2, e7.1, e7.2, ok.o.1, by omega, fun x ex H3 hex dx P3 b3 => ?_⟩
        refine ⟨(by show 2 ≤ sizeLine; decide), fun t ht => ?_⟩
        have s4 := same_new (o := .tup [V.str "return", x]) ht
        exact k _ (.ret ex) bu _ ⟨rfl, hex⟩ (Nat.zero_le _) (Nat.zero_add _) (.tup (SqT.of upd_same) (.cons (.str _) (.cons (dx.same s4) .nil))) ((P3.same s4).mono (by omega)) (fun b o z h1 h2 => s4 _ _ (b3 _ _ (b2 _ _ z h1 h2) h1 h2))
    refine iteE (decide_eq_false h10) ?_
    -- the first block
    obtain ⟨d, rfl⟩ : ∃ d', d = d' + 1 := by
      cases d with
      | zero => have := mz rfl; omega
      | succ d => exact ⟨d, rfl⟩
    clear hmx mz m18 m0 h3 h5 h7 h9
    have ed : (((d + 1 : Nat) : Int) - 1) = (d : Int) := by omega
    refine ⟨_, rfl, _, rfl, _, rfl, _, _, rfl, rfl, _, rfl, p, c, .ref e, n + 2, bu, d, last, own, kinds, heads, (by show [V.ref p, V.ref e, V.int (((d + 1 : Nat) : Int) - 1), V.bl last] = _; rw [ed]), P2, by omega, ev2, ok, fun h => by have := hf h (Nat.succ_pos _); omega, fun h => by have := ht h; omega, fun x b1 bu1 H3 w1 l1 d1 z1 dx1 P3 b3' => ?_⟩
    have b3 : But p c H H3 := fun b o z h1 h2 => b3' _ _ (b2 _ _ z h1 h2) h1 h2
    have ev3 := ev.but b3 P0
    have en3 := b3' _ _ en2 e7.1 e7.2
    have ek3 := b3' _ _ ek2 e8.1 e8.2
    have eh3 := b3' _ _ eh2 e9.1 e9.2
    have e63 : Paired (fun x h => Dp K H3 x (hdaD h)) hs heads := Paired.mapP e62 fun _ h z => Dp.tps (b3'.tps P2) z (noL_hda h)
    clear e62 en2 ek2 eh2 ev2 P2 b2 b3'
    -- if
    refine ⟨_, rfl, _, _, rfl, rfl, _, rfl, ?_⟩
    by_cases h12 : r < 12
    · refine iteS (decide_eq_true h12) (iteT ?_)
      refine ⟨_, rfl, _, rfl, _, rfl, _, rfl, _, _, rfl, rfl, _, rfl, p, c, .ref e, n + 2 + cb m, bu1, d, last, own, kinds, heads, (by show [V.ref p, V.ref e, V.int (((d + 1 : Nat) : Int) - 1), V.bl last] = _; rw [ed]), P3, by omega, ev3, ok, fun h => by have := hf h (Nat.succ_pos _); omega, fun h => by have := ht h; omega, fun y b2 bu2 H4 w2 l2 d2 z2 dx2 P4 b4 => ?_⟩
      refine ⟨(by show 3 ≤ sizeLine; decide), fun t ht => ?_⟩
      have s5 := same_new (o := .tup [V.str "if", x, y]) ht
      exact k _ (.ite b1 b2) bu2 _ ⟨w1, w2⟩ (Nat.max_le.mpr ⟨d1, d2⟩) (by show szB b1 + szB b2 + bu2 = bu; omega) (.tup (SqT.of upd_same) (.cons (.str _) (.cons ((Dp.tps (b4.tps P3) dx1 (noL_bl b1)).same s5) (.cons (dx2.same s5) .nil)))) ((P4.same s5).mono (by omega)) (fun b o z h1 h2 => s5 _ _ (b4 _ _ (b3 _ _ z h1 h2) h1 h2))
    refine iteE (decide_eq_false h12) ?_
    cases last with
    | true =>
      refine ⟨_, rfl, true, rfl, iteS rfl ?_⟩
      refine ⟨_, rfl, _, rfl, _, rfl, _, rfl, _, _, rfl, rfl, _, rfl, p, c, .ref e, n + 2 + cb m, bu1, d, true, own, kinds, heads, (by show [V.ref p, V.ref e, V.int (((d + 1 : Nat) : Int) - 1), V.bl true] = _; rw [ed]), P3, by omega, ev3, ok, fun h => (nomatch h), fun h => by have := ht h; omega, fun y b2 bu2 H4 w2 l2 d2 z2 dx2 P4 b4 => ?_⟩
      refine ⟨(by show 3 ≤ sizeLine; decide), fun t ht => ?_⟩
      have s5 := same_new (o := .tup [V.str "if", x, y]) ht
      exact k _ (.ite b1 b2) bu2 _ ⟨w1, w2⟩ (Nat.max_le.mpr ⟨d1, d2⟩) (by show szB b1 + szB b2 + bu2 = bu; omega) (.tup (SqT.of upd_same) (.cons (.str _) (.cons ((Dp.tps (b4.tps P3) dx1 (noL_bl b1)).same s5) (.cons (dx2.same s5) .nil)))) ((P4.same s5).mono (by omega)) (fun b o z h1 h2 => s5 _ _ (b4 _ _ (b3 _ _ z h1 h2) h1 h2))
    | false =>
    have hd := hf rfl (Nat.succ_pos _)
    refine ⟨_, rfl, false, rfl, iteE rfl ?_⟩
    -- while
    refine ⟨_, rfl, _, _, rfl, rfl, _, rfl, ?_⟩
    by_cases h13 : r < 13
    · refine iteS (decide_eq_true h13) ?_
      refine ⟨_, rfl, (by show 2 ≤ sizeLine; decide), fun t ht => ?_⟩
      have s5 := same_new (o := .tup [V.str "while", x]) ht
      exact k _ (.whl b1) bu1 _ ⟨rfl, w1⟩ d1 z1 (.tup (SqT.of upd_same) (.cons (.str _) (.cons (dx1.same s5) .nil))) ((P3.same s5).mono (by omega)) (fun b o z h1 h2 => s5 _ _ (b3 _ _ z h1 h2))
    refine iteE (decide_eq_false h13) ?_
    -- try
    refine ⟨_, rfl, _, _, rfl, rfl, _, rfl, ?_⟩
    by_cases h15 : r < 15
    · refine iteS (decide_eq_true h15) ?_
      refine ⟨_, rfl, _, rfl, p, c, Lim bu1, n + 2 + cb m, 3, rfl, P3, by omega, by decide, by decide, fun rh H4 k0 k1 P4 b4 => ?_⟩
      have ek4 := b4 _ _ ek3 e8.1 e8.2
      refine ⟨_, rfl, kl, _, rfl, SqL.of ek4, fun KL hKL => ?_⟩
      rw [cut_upto k0]
      have s5 := same_new (o := .lst ((kinds.take rh.toNat).map V.str)) hKL
      have KLp := P4.ne1 hKL
      have KLc := P4.ne2 hKL
      have P5 := P4.same s5
      have b5 : But p c H3 (upd H4 KL (.lst ((kinds.take rh.toNat).map V.str))) := fun b o z h1 h2 => s5 _ _ (b4 _ _ z h1 h2)
      have eKL : upd H4 KL (.lst ((kinds.take rh.toNat).map V.str)) KL = some (.lst ((kinds.take rh.toNat).map V.str)) := upd_same
      generalize upd H4 KL (.lst ((kinds.take rh.toNat).map V.str)) = H5 at *
      refine ⟨KL, rfl, ⟨_, SqL.of eKL⟩, fun D hD => ?_⟩
      have Dp' := P5.ne1 hD
      have Dc := P5.ne2 hD
      have DK : D ≠ KL := fun z => by rw [z, eKL] at hD; cases hD
      have s6 := same_new (o := .lst []) hD
      have lkt : (kinds.take rh.toNat).length ≤ 2 := by rw [List.length_take]; omega
      refine lc_it (walk_list (K := K) (a := KL) (xs := (kinds.take rh.toNat).map V.str)) (fun i H' => But p c H5 H' ∧ ∃ (us : List V) (hds : List Hd) (bu2 : Nat), H' D = some (.lst us) ∧ us.length = i ∧ Paired (fun x g => Dp K H' x (hdD g)) us hds ∧ wHs own kinds heads hds ∧ dpHs hds ≤ m ∧ szHs hds + bu2 = bu1 ∧ PoolAt H' p c (Lim bu2) (n + 2 + cb m + 1 + i * cb m)) ⟨But.of s6, [], [], bu1, upd_same, rfl, .nil, trivial, Nat.zero_le _, Nat.zero_add _, by rw [Nat.zero_mul]; exact P5.same s6⟩ (fun i H' _ h' => SqL.of (h'.1 _ _ eKL KLp KLc)) ?_ ?_
      · rintro i z HX H6 hi ⟨b6, us, hds, bu2, eD, lu, pu, wh, dh, zh, P6⟩ ⟨rfl, hz⟩
        have hi : i < (kinds.take rh.toNat).length := by rwa [List.length_map] at hi
        obtain ⟨kd, hkd⟩ : ∃ kd, (kinds.take rh.toNat)[i]? = some kd := ⟨_, List.getElem?_eq_getElem hi⟩
        have mk : kd ∈ kinds := List.mem_of_mem_take (List.mem_of_getElem? hkd)
        rw [List.getElem?_map, hkd] at hz
        simp only [Option.map_some, Option.some.injEq] at hz
        subst hz
        have im : (i + 1) * cb m = i * cb m + cb m := Nat.succ_mul _ _
        have i2 : (i + 1) * cb m ≤ 2 * cb m := Nat.mul_le_mul_right _ (by omega)
        refine ⟨wipe1 (by decide), V.str kd, by kernel_rfl, (by show 1 ≤ sizeLine; decide), fun t1 ht1 => ?_⟩
        have s7 := same_new (o := .tup [V.str kd]) ht1
        have b57 : But p c H (upd H6 t1 (.tup [V.str kd])) := fun b o z h1 h2 => s7 _ _ (b6 _ _ (b5 _ _ (b3 _ _ z h1 h2) h1 h2) h1 h2)
        refine ⟨V.ref p, by kernel_rfl, V.ref e, by kernel_rfl, V.int ((d + 1 : Nat) : Int), by kernel_rfl, _, _, rfl, rfl, p, c, .ref e, n + 2 + cb m + 1 + i * cb m, bu2, d, false, own, kinds, heads, (by show [V.ref p, V.ref e, V.int (((d + 1 : Nat) : Int) - 1), V.bl false] = _; rw [ed]), P6.same s7, by omega, ev.but b57 P0, ok, fun _ => by omega, fun h => (nomatch h), fun y b2 bu3 H8 w2 l2 d2 z2 dx2 P8 b8 => ?_⟩
        refine ⟨(by show 2 ≤ sizeLine; decide), fun t2 ht2 => ?_⟩
        have s9 := same_new (o := .tup [V.ref t1, y]) ht2
        have b69 : But p c H6 (upd H8 t2 (.tup [V.ref t1, y])) := fun b o z h1 h2 => s9 _ _ (b8 _ _ (s7 _ _ z) h1 h2)
        have t69 := b69.tps P6
        have eD9 := b69 _ _ eD Dp' Dc
        have et1 : SqT K (upd H8 t2 (.tup [V.ref t1, y])) t1 [V.str kd] := (Tps.of s9).sqt ((b8.tps (P6.same s7)).sqt (SqT.of upd_same))
        have t10 : Tps (upd H8 t2 (.tup [V.ref t1, y])) (upd (upd H8 t2 (.tup [V.ref t1, y])) D (.lst (us ++ [.ref t2]))) := Tps.lst eD9
        refine ⟨us, eD9, small1000 (by omega), fun b o z h1 h2 => ?_, us ++ [.ref t2], hds ++ [.mk [kd] b2], bu3, upd_same, by rw [List.length_append, lu]; rfl, ?_, wHs_snoc (s := .mk [kd] b2) (show ([kd] ≠ [] ∧ [kd].length ≤ 2 ∧ ∀ x ∈ [kd], x ∈ kinds) ∧ wL own kinds heads false b2 from ⟨⟨by simp, by simp, fun x hx => by rw [List.mem_singleton.mp hx]; exact mk⟩, w2⟩) wh, ?_, ?_, ?_⟩
        · rw [upd_ne (ne_of_none z hD)]
          exact b69 _ _ (b6 _ _ z h1 h2) h1 h2
        · refine Paired.snoc (Paired.mapP pu fun _ g z => Dp.tps (t69.trans t10) z (noL_hd g)) ?_
          exact .tup (t10.sqt (SqT.of upd_same)) (.cons (.tup (t10.sqt et1) (.cons (.str _) .nil)) (.cons (Dp.tps t10 (dx2.same s9) (noL_bl b2)) .nil))
        · rw [dpHs_snoc]; exact Nat.max_le.mpr ⟨dh, d2⟩
        · rw [szHs_snoc]; show szHs hds + szB b2 + bu3 = bu1; omega
        · rw [im]
          exact ((P8.same s9).upd Dp' Dc).mono (by omega)
      · rintro H6 ⟨b6, us, hds, bu2, eD, lu, pu, wh, dh, zh, P6⟩
        rw [List.length_map] at P6 lu
        have lhd := Paired.length pu
        have i2 : (kinds.take rh.toNat).length * cb m ≤ 2 * cb m := Nat.mul_le_mul_right _ lkt
        have b36 : But p c H3 H6 := fun b o z h1 h2 => b6 _ _ (b5 _ _ z h1 h2) h1 h2
        refine ⟨_, rfl, _, rfl, D, us, rfl, .inl ⟨SqL.of eD, fun l hl => ?_⟩⟩
        have s7 := same_new (o := .tup us) hl
        refine ⟨_, rfl, _, rfl, p, c, .ref e, _, bu2, 1, true, own, kinds, heads, rfl, P6.same s7, by omega, (ev3.but b36 P3).but (But.of s7) P6, ok, fun h => (nomatch h), fun _ => by omega, fun y b2 bu3 H8 w2 l2 d2 z2 dx2 P8 b8 => ?_⟩
        refine ⟨(by show 4 ≤ sizeLine; decide), fun t ht => ?_⟩
        have s9 := same_new (o := .tup [V.str "try", x, V.ref l, y]) ht
        have t68 := (Tps.of s7).trans (b8.tps (P6.same s7))
        refine k _ (.try_ b1 hds b2) bu3 _ ⟨rfl, by omega, w1, wh, w2⟩ (Nat.max_le.mpr ⟨d1, Nat.max_le.mpr ⟨dh, d2⟩⟩) (by show szB b1 + (szHs hds + szB b2) + bu3 = bu; omega) (.tup (SqT.of upd_same) (.cons (.str _) (.cons ((Dp.tps ((b36.tps P3).trans t68) dx1 (noL_bl b1)).same s9) (.cons (.tup (SqT.same s9 ((b8.tps (P6.same s7)).sqt (SqT.of upd_same))) ?_) (.cons (dx2.same s9) .nil))))) ((P8.same s9).mono (by omega)) (fun b o z h1 h2 => s9 _ _ (b8 _ _ (s7 _ _ (b36 _ _ (b3 _ _ z h1 h2) h1 h2)) h1 h2))
        rw [hdsD_map]
        exact DpAll.ofPaired (Paired.mapP pu fun _ g z => (Dp.tps t68 z (noL_hd g)).same s9)
    refine iteE (decide_eq_false h15) ?_
    -- undo
    refine ⟨_, rfl, _, rfl, nl, _, rfl, .inl (SqL.of en3), p, c, Lim bu1, n + 2 + cb m, _, rfl, P3, by omega, by rw [List.length_map]; omega, by rw [List.length_map]; omega, fun rf H4 f0 f1 P4 b4 => ?_⟩
    rw [List.length_map] at f1
    have en4 := b4 _ _ en3 e7.1 e7.2
    have eh4 := b4 _ _ eh3 e9.1 e9.2
    have t34 := b4.tps P3
    have b04 : But p c H H4 := fun b o z h1 h2 => b4 _ _ (b3 _ _ z h1 h2) h1 h2
    obtain ⟨ns, ecut, nne, nl2, nmem⟩ := cut_two f0 f1
    refine ⟨_, rfl, _, _, rfl, rfl, _, rfl, ?_⟩
    by_cases h17 : r < 17
    · refine iteS (decide_eq_true h17) (iteT ?_)
      refine ⟨_, rfl, _, rfl, _, rfl, _, rfl, _, _, rfl, rfl, _, rfl, nl, _, rfl, SqL.of en4, fun q hq => ?_⟩
      have s5 := same_new (o := .lst (cutV (own.map V.str) (some rf) (some (rf + 2)))) hq
      have eq5 : upd H4 q (.lst (cutV (own.map V.str) (some rf) (some (rf + 2)))) q = some (.lst (ns.map V.str)) := by rw [upd_same, ecut]
      have P5 := P4.same s5
      generalize upd H4 q (.lst (cutV (own.map V.str) (some rf) (some (rf + 2)))) = H5 at *
      refine ⟨q, _, rfl, .inl ⟨SqL.of eq5, fun l hl => ?_⟩⟩
      have s6 := same_new (o := .tup (ns.map V.str)) hl
      refine ⟨_, rfl, (by show 3 ≤ sizeLine; decide), fun t ht => ?_⟩
      have s7 := same_new (o := .tup [V.str "undo", V.ref l, x]) ht
      exact k _ (.undo ns b1) bu1 _ ⟨rfl, ⟨nne, by omega, nmem⟩, w1⟩ d1 z1 (.tup (SqT.of upd_same) (.cons (.str _) (.cons (.tup (SqT.of (s7 _ _ upd_same)) (dpAll_strs ns)) (.cons ((Dp.tps t34 dx1 (noL_bl b1)).same ((s5.trans s6).trans s7)) .nil)))) (((P5.same s6).same s7).mono (by omega)) (fun b o z h1 h2 => s7 _ _ (s6 _ _ (s5 _ _ (b04 _ _ z h1 h2))))
    refine iteE (decide_eq_false h17) ?_
    refine ⟨_, rfl, (by show 0 ≤ sizeLine; decide), fun z hz => ?_⟩
    have s5 := same_new (o := .lst []) hz
    refine ⟨.list (heads.map hdaD), .list [], .lst (SqL.of (s5 _ _ eh4)) (DpAll.ofPaired (Paired.mapP e63 fun _ h z => (Dp.tps t34 z (noL_hda h)).same s5)), .lst (SqL.of upd_same) .nil, shh, by decide +kernel, _, rfl, iteE eqh ?_⟩
    have P5 := P4.same s5
    have b05 : But p c H (upd H4 z (.lst [])) := fun b o z h1 h2 => s5 _ _ (b04 _ _ z h1 h2)
    have t35 := t34.trans (Tps.of s5)
    have b35 : But p c H3 (upd H4 z (.lst [])) := fun b o z h1 h2 => s5 _ _ (b4 _ _ z h1 h2)
    clear hz s5
    generalize upd H4 z (.lst []) = H5 at *
    -- with
    refine ⟨_, rfl, _, rfl, p, c, _, Lim bu1, _, own, kinds, heads, rfl, P5, by omega, ev.but b05 P0, ok, fun y1 c1 H6 wc1 dc1 P6 b6 => ?_⟩
    have b06 : But p c H H6 := fun b o z h1 h2 => b6 _ _ (b05 _ _ z h1 h2) h1 h2
    refine ⟨_, rfl, _, rfl, p, c, _, Lim bu1, _, own, kinds, heads, rfl, P6, by omega, ev.but b06 P0, ok, fun y2 c2 H7 wc2 dc2 P7 b7 => ?_⟩
    have b07 : But p c H H7 := fun b o z h1 h2 => b7 _ _ (b06 _ _ z h1 h2) h1 h2
    refine ⟨_, rfl, _, rfl, p, c, Lim bu1, _, 3, rfl, P7, by omega, by decide, by decide, fun rk H8 k0 k1 P8 b8 => ?_⟩
    have b08 : But p c H H8 := fun b o z h1 h2 => b8 _ _ (b07 _ _ z h1 h2) h1 h2
    have b58 : But p c H5 H8 := fun b o z h1 h2 => b8 _ _ (b7 _ _ (b6 _ _ z h1 h2) h1 h2) h1 h2
    have ek8 := b58 _ _ (b35 _ _ ek3 e8.1 e8.2) e8.1 e8.2
    refine ⟨_, rfl, kl, _, rfl, SqL.of ek8, fun q hq => ?_⟩
    rw [cut_upto k0]
    have s9 := same_new (o := .lst ((kinds.take rk.toNat).map V.str)) hq
    have eq9 : upd H8 q (.lst ((kinds.take rk.toNat).map V.str)) q = some (.lst ((kinds.take rk.toNat).map V.str)) := upd_same
    have P9 := P8.same s9
    generalize upd H8 q (.lst ((kinds.take rk.toNat).map V.str)) = H9 at *
    refine ⟨q, _, rfl, .inl ⟨SqL.of eq9, fun l hl => ?_⟩⟩
    have s10 := same_new (o := .tup ((kinds.take rk.toNat).map V.str)) hl
    refine ⟨_, rfl, (by show 5 ≤ sizeLine; decide), fun t ht => ?_⟩
    have s11 := same_new (o := .tup [V.str "with", y1, y2, V.ref l, x]) ht
    have s911 := (s9.trans s10).trans s11
    have t78 := b8.tps P7
    have t68 := (b7.tps P6).trans t78
    have t58 := b58.tps P5
    exact k _ (.with_ c1 c2 (kinds.take rk.toNat) b1) bu1 _ ⟨rfl, wc1, wc2, ⟨by rw [List.length_take]; omega, fun x hx => List.mem_of_mem_take hx⟩, w1⟩ d1 z1 (.tup (SqT.of upd_same) (.cons (.str _) (.cons ((Dp.tps t68 dc1 (noL_cal c1)).same s911) (.cons ((Dp.tps t78 dc2 (noL_cal c2)).same s911) (.cons (.tup (SqT.of (s11 _ _ upd_same)) (dpAll_strs _)) (.cons ((Dp.tps (t35.trans t58) dx1 (noL_bl b1)).same s911) .nil)))))) (((P9.same s10).same s11).mono (by omega)) (fun b o z h1 h2 => s11 _ _ (s10 _ _ (s9 _ _ (b08 _ _ z h1 h2))))
end

/-! ### the law's drawn tree -/
abbrev sLTr : Stmt := topS 73
abbrev NLTr : List Str := ["_law_pool_here", "_law_words", "_law_names_here", "_law_kinds", "_law_heads", "_law_k", "_law_params", "_law_keeps", "_law_functions", "_law_head", "_law_own", "_law_param", "_law_first"]
abbrev PLTr : List Str := ["_law_pool_here"]
theorem scLTr : FnScope NLTr PLTr (defScope sLTr) := ⟨rfl, rfl, rfl, by decide +kernel, rfl, by decide +kernel, by decide +kernel⟩
def rCatU (K : PySem.W.Frag) : R2 := fun x y H Q => ∃ a b xs ys, x = .ref a ∧ y = .ref b ∧ SqT K H a xs ∧ SqT K H b ys ∧ xs ≠ [] ∧ xs.length + ys.length ≤ sizeLine ∧ ∀ p H', Same H H' → SqT K H' p (xs ++ ys) → Q (.ref p) H'
theorem op_catU {X : Cx} : OpR X (binaryOp .Add) (rCatU X.K) := fun pins s σ H x y v u Q I rx ry ⟨a, b, xs, ys, e1, e2, q1, q2, ne, sz, k⟩ =>
  op_catT pins s σ H x y v u Q I rx ry ⟨a, b, xs, ys, e1, e2, q1, q2, ne, sz, fun e => k a H (Same.refl _) (by rw [e, List.append_nil]; exact q1), fun _ p hp => k p _ (same_new hp) (SqT.of upd_same)⟩
structure LsAt (H : Hp) (p c q : Addr) (xs : List V) : Prop where
  e : H q = some (.lst xs)
  n1 : q ≠ p
  n2 : q ≠ c
theorem LsAt.but {H H' : Hp} {p c q : Addr} {xs : List V} (h : LsAt H p c q xs) (b : But p c H H') : LsAt H' p c q xs := ⟨b _ _ h.e h.n1 h.n2, h.n1, h.n2⟩
theorem LsAt.same {H H' : Hp} {p c q : Addr} {xs : List V} (h : LsAt H p c q xs) (b : Same H H') : LsAt H' p c q xs := ⟨b _ _ h.e, h.n1, h.n2⟩
theorem LsAt.new {H : Hp} {p c q : Addr} {xs : List V} {lim : V} {n : Nat} (h : PoolAt H p c lim n) (hq : H q = none) : LsAt (upd H q (.lst xs)) p c q xs := ⟨upd_same, h.ne1 hq, h.ne2 hq⟩
theorem LsAt.upd {H : Hp} {p c q r : Addr} {xs : List V} {o : HO} (h : LsAt H p c q xs) (n : q ≠ r) : LsAt (upd H r o) p c q xs := ⟨by rw [upd_ne n]; exact h.e, h.n1, h.n2⟩
theorem cut_3 {l : List Str} {r : Int} (r0 : 0 ≤ r) : cutV (l.map V.str) (some 3) (some (4 + r)) = ((l.drop 3).take (1 + r.toNat)).map V.str := by
  obtain ⟨a, rfl⟩ : ∃ a : Nat, r = (a : Int) := ⟨r.toNat, by omega⟩
  unfold cutV
  rw [show (3 : Int) = ((3 : Nat) : Int) from rfl, show ((4 : Int) + (a : Int)) = ((4 + a : Nat) : Int) by omega, HT.sIx_nat, HT.sIx_nat, List.length_map, List.map_take, List.map_drop, Int.toNat_natCast]
  rcases Nat.le_or_ge l.length 3 with h | h
  · rw [Nat.min_eq_right h, List.drop_of_length_le (by rw [List.length_map]; exact Nat.le_refl _), List.drop_of_length_le (by rw [List.length_map]; exact h)]
    simp
  · rw [Nat.min_eq_left h, List.take_eq_take_iff, List.length_drop, List.length_map]
    omega
theorem dpAll_take {K : PySem.W.Frag} {H : Hp} : ∀ {xs : List V} {ds : List PyData} (k : Nat), DpAll K H xs ds → DpAll K H (xs.take k) (ds.take k)
  | _, _, 0, _ => by rw [List.take_zero, List.take_zero]; exact .nil
  | _, _, _ + 1, .nil => by rw [List.take_nil, List.take_nil]; exact .nil
  | _, _, k + 1, .cons a b => by rw [List.take_succ_cons, List.take_succ_cons]; exact .cons a (dpAll_take k b)
theorem cut_last {l : List V} {x : V} : cutV (l ++ [x]) none (some (-1)) = l := by
  unfold cutV
  rw [HT.sIx_none, List.drop_zero]
  show (l ++ [x]).take ((if (-1 : Int) < 0 then ((-1 : Int) + ((l ++ [x]).length : Int)).toNat else min (-1 : Int).toNat (l ++ [x]).length) - 0) = l
  rw [if_pos (by decide), List.length_append]
  have e : ((-1 : Int) + ((l.length + [x].length : Nat) : Int)).toNat - 0 = l.length := by
    show ((-1 : Int) + ((l.length + 1 : Nat) : Int)).toNat - 0 = _
    omega
  rw [e, List.take_append_of_le_length (Nat.le_refl _), List.take_length]
theorem split8 {ws : List Str} {w8 w9 w10 : Str} (h8 : ws[8]? = some w8) (h9 : ws[9]? = some w9) (h10 : ws[10]? = some w10) : ∃ r, ws.drop 8 = w8 :: w9 :: w10 :: r := by
  have e : ∀ i, (ws.drop 8)[i]? = ws[8 + i]? := fun i => List.getElem?_drop
  have e0 := e 0
  have e1 := e 1
  have e2 := e 2
  rw [h8] at e0
  rw [h9] at e1
  rw [h10] at e2
  cases h : ws.drop 8 with
  | nil => rw [h] at e0; cases e0
  | cons a r =>
    rw [h] at e0 e1 e2
    cases r with
    | nil => cases e1
    | cons b r =>
      cases r with
      | nil => cases e2
      | cons d r =>
        simp at e0 e1 e2
        subst e0 e1 e2
        exact ⟨r, rfl⟩
theorem take2_sub {a b : Str} (k : Nat) : ([a, b].take k).Sublist [a, b] := List.take_sublist _ _
theorem own_sub {ws : List Str} {w8 w9 w10 : Str} (h8 : ws[8]? = some w8) (h9 : ws[9]? = some w9) (h10 : ws[10]? = some w10) {nN : Nat} (hN : nN ≤ 8) {q : List Str} (hq : q.Sublist [w8, w9]) : (ws.take nN ++ (q ++ [w10])).Sublist ws := by
  obtain ⟨r, e⟩ := split8 h8 h9 h10
  have z : ws = ws.take 8 ++ (w8 :: w9 :: w10 :: r) := by rw [← e, List.take_append_drop]
  have s1 : (ws.take nN).Sublist (ws.take 8) := List.take_sublist_take_left hN
  have s2 : (q ++ [w10]).Sublist (w8 :: w9 :: w10 :: r) := by
    have z2 : (q ++ [w10]).Sublist ([w8, w9] ++ (w10 :: r)) := List.Sublist.append hq (List.Sublist.cons₂ _ (List.nil_sublist _))
    exact z2
  exact (s1.append s2).trans (by rw [← z]; exact List.Sublist.refl _)
/-- what is drawn -/
structure DrawnT (t : Tr) : Prop where
  ex : ∃ ws : List Str, NamesOk ws ∧ ws.length = 16 ∧ ∃ nN nK : Nat, nN ≤ 2 ∧ 1 ≤ nK ∧ nK ≤ 2 ∧ t.names = ws.take nN ∧ t.kinds = (ws.drop 3).take nK ∧
    (∀ e ∈ t.keeps, e.c = 0 ∧ EX t.names e) ∧ t.keeps.length ≤ 1 ∧ 1 ≤ t.fns.length ∧ t.fns.length ≤ 3 ∧ t.fns.map Fn.name = (ws.drop 5).take t.fns.length ∧
    (t.fns.map fun f => szB f.b).sum ≤ 33 ∧
    ∃ w8 w9 w10, ws[8]? = some w8 ∧ ws[9]? = some w9 ∧ ws[10]? = some w10 ∧
      ∀ f ∈ t.fns, (∃ b1 b2 k, f.ps = [(w8, b1), (w9, b2)].take k) ∧ ∃ e blk, f.b = .set w10 e :: blk ∧ blk.length ≤ 3 ∧ dpB blk ≤ 5 ∧ EX (t.names ++ prs f) e ∧
        wL (t.names ++ (prs f ++ [w10])) t.kinds (t.fns.map fun f => (f.name, f.ps)) false blk
def ct : Nat := 200 + 3 * (100 + cb 5)
theorem ct_eq : ct = 200 + 3 * (100 + cb 5) := rfl
theorem cb5 : cb 5 ≤ 20000000 := by decide
def spLTr (K : PySem.W.Frag) : Sp := fun vs H Q _ => ∃ (p c : Addr) (n : Nat), vs = [.ref p] ∧ PoolAt H p c (Lim 30) n ∧ n ≤ 1000000000 ∧
  ∀ (v : V) (t : Tr) (bu : Nat) (H' : Hp), DrawnT t → Dp K H' v (trD t) → PoolAt H' p c (Lim bu) (n + ct) → But p c H H' → Q v H'
section
variable {P : Program} {w : World} {K : PySem.W.Frag} {mg : Str → Option Value} {base : Heap}
theorem ok_pb {fp fb : Addr} {dp db : FuncData} (FP : Fun K "_law_piece" "_law_piece" sLPi fp dp) (FB : Fun K "_law_block" "_law_block" sLBk fb db) (T : TxGen mg)
    (mp : mg "_law_piece" = some (.ref fp)) (kp : PySem.W.keepIn K (.ref fp) = true) (bp : Binds K dp PLPi []) (mb : mg "_law_block" = some (.ref fb)) (kb : PySem.W.keepIn K (.ref fb) = true) (bb : Binds K db PLBk [])
    (GD : Has P w K mg base CX0 2 "_law_draw" PDraw spDraw) (GE : Has P w K mg base CX0 3 "_law_expression" PLEx (spLEx K)) (GC : Has P w K mg base CX0 5 "_law_call" PLCa (spLCa K)) : ∀ m, FnOk P w K mg base CX0 (5 + 2 * m) fb db PLBk (spLBk K m) := by
  have vac : ∀ {vs : List V} {H : Hp} {Q : VK} {E : XK}, spLBk K 0 vs H Q E → False := fun h => by
    obtain ⟨p, c, v, n, bu, d, last, own, kinds, heads, rfl, P0, hn, ev, ok, hf, ht, k⟩ := h
    cases last with
    | true => have := ht rfl; omega
    | false => have := hf rfl; omega
  intro m
  induction m with
  | zero => exact ⟨fun vs H Q E h => (vac h).elim, fun _ _ _ _ _ _ _ _ _ _ _ _ _ h => (vac h).elim⟩
  | succ m ih =>
    have GB : Has P w K mg base CX0 (5 + 2 * m) "_law_block" PLBk (spLBk K m) := ⟨fb, db, ih, mb, kb, bb⟩
    have GP : Has P w K mg base CX0 (5 + 2 * m + 1) "_law_piece" PLPi (spLPi K m) := ⟨fp, dp, ok_LPi FP T GD GE GC GB, mp, kp, bp⟩
    rw [show 5 + 2 * m + 1 = 6 + 2 * m by omega] at GP
    have r := ok_LBk FB T GD GP
    rw [show 6 + 2 * m + 1 = 5 + 2 * (m + 1) by omega] at r
    exact r
theorem ok_LTr {f : Addr} {fd : FuncData} (F : Fun K "_law_tree" "_law_tree" sLTr f fd) (T : TxGen mg) (GD : Has P w K mg base CX0 2 "_law_draw" PDraw spDraw) (GN : Has P w K mg base CX0 3 "_law_names" PNames spNames) (GE : Has P w K mg base CX0 3 "_law_expression" PLEx (spLEx K)) (GB : Has P w K mg base CX0 15 "_law_block" PLBk (spLBk K 5)) : FnOk P w K mg base CX0 16 f fd PLTr (spLTr K) := by
  refine F.ok scLTr (fun vs H Q E h => ?_) (fun cdv A outer s H vs Q E hr h => ?_)
  · obtain ⟨p, c, n, rfl, _⟩ := h
    rfl
  · obtain ⟨p, c, n, rfl, P0, hn, k⟩ := h
    have hr2 := hr.mono (j := 2) (by omega)
    have hr3 := hr.mono (j := 3) (by omega)
    have hcb := cb5
    have hct := ct_eq
    obtain ⟨c5, hc5⟩ : ∃ c5, c5 = cb 5 := ⟨_, rfl⟩
    rw [← hc5] at hcb hct
    refine ⟨_, (pss_cons (ps_set (i := 1) scLTr.nd rfl (Or.inl rfl) (pe_callH GN hr3 rfl pass0 (pa_cons (pv 0) pa_nil)))
  (pss_cons (ps_set (i := 2) scLTr.nd rfl (Or.inl rfl) (pe_slice sl_list (pv 1) po_none (po_some (pe_callH GD hr2 rfl pass0 (pa_cons (pv 0) (pa_cons pe_int pa_nil))))))
  (pss_cons (ps_set (i := 3) scLTr.nd rfl (Or.inl rfl) (pe_slice sl_list (pv 1) (po_some pe_int) (po_some (pe_op op_add pe_int (pe_callH GD hr2 rfl pass0 (pa_cons (pv 0) (pa_cons pe_int pa_nil)))))))
  (pss_cons (ps_set (i := 4) scLTr.nd rfl (Or.inl rfl) (pe_lst pa_nil))
  (pss_cons (ps_for PassesOwn.never rfl (pi_range1 (by rfl) T.n_range (pa_cons (pe_op op_add pe_int (pe_callH GD hr2 rfl pass0 (pa_cons (pv 0) (pa_cons pe_int pa_nil)))) pa_nil)) (pg_name (i := 5) scLTr.nd rfl (Or.inl rfl))
  (pss_cons (ps_set (i := 6) scLTr.nd rfl (Or.inl rfl) (pe_lst (pa_cons (pe_tup (pa_cons (pe_ix (r := rIxL K) ix_list (pv 1) pe_int (fun _ _ => rfl)) (pa_cons (pe_cmpR op_eq (pe_callH GD hr2 rfl pass0 (pa_cons (pv 0) (pa_cons pe_int pa_nil))) pe_int (nomark _)) pa_nil))) (pa_cons (pe_tup (pa_cons (pe_ix (r := rIxL K) ix_list (pv 1) pe_int (fun _ _ => rfl)) (pa_cons (pe_cmpR op_eq (pe_callH GD hr2 rfl pass0 (pa_cons (pv 0) (pa_cons pe_int pa_nil))) pe_int (nomark _)) pa_nil))) pa_nil))))
  (pss_one (ps_expr (pe_bm PySem.F.plainAttrs_list PySem.F.slot_list_append PySem.F.type_list_append mt_append (pv 4) (pa_cons (pe_tup (pa_cons (pe_ix (r := rIxL K) ix_list (pv 1) (pe_op op_add pe_int (pv 5)) (fun _ _ => rfl)) (pa_cons (pe_callTy call_tuple_of (by rfl) T.n_tuple bb_tuple (pa_cons (pe_slice sl_list (pv 6) po_none (po_some (pe_callH GD hr2 rfl pass0 (pa_cons (pv 0) (pa_cons pe_int pa_nil))))) pa_nil)) pa_nil))) pa_nil))))))
  (pss_cons (ps_set (i := 7) scLTr.nd rfl (Or.inl rfl) (pe_lst pa_nil))
  (C8.pss_cut (ps_if (PW.pt (pw_and (pt_cmpR op_gt (pe_callB call_len_seq (by rfl) T.n_len bb_len (pa_cons (pv 2) pa_nil)) pe_int (nomark _)) (pw_and1 (pt_cmpR op_eq (pe_callH GD hr2 rfl pass0 (pa_cons (pv 0) (pa_cons pe_int pa_nil))) pe_int (nomark _)))))
  (pss_one (ps_expr (pe_bm PySem.F.plainAttrs_list PySem.F.slot_list_append PySem.F.type_list_append mt_append (pv 7) (pa_cons (pe_tup (pa_cons pe_int (pa_cons (pe_ix (r := rIxT K) ix_tup (pe_callH GE hr3 rfl pass0 (pa_cons (pv 0) (pa_cons (pv 2) (pa_cons pe_int pa_nil)))) pe_int (fun _ _ => rfl)) pa_nil))) pa_nil))))
  pss_nil)
  (pss_cons (ps_set (i := 8) scLTr.nd rfl (Or.inl rfl) (pe_lst pa_nil))
  (pss_cons (ps_for PassesOwn.never rfl (pi_list (pv 4)) (pg_name (i := 9) scLTr.nd rfl (Or.inl rfl))
  (pss_cons (ps_set (i := 10) scLTr.nd rfl (Or.inl rfl) (pe_op op_cat (pe_op op_cat (pv 2) (pe_lc (own := [("_law_param", 11)]) (g := gName 11) (tt := tYes) rfl scLTr.nd (pi_tup (pe_ix (r := rIxT K) ix_tup (pv 9) pe_int (fun _ _ => rfl))) (blkOk_by (own := [("_law_param", 11)]) (N := NLTr) (sc := (defScope sLTr)) (by decide +kernel)) (fun _ _ _ _ _ => (pg_name (i := 11) scLTr.nd rfl (Or.inl rfl))) (fun _ _ _ _ _ => pts_nil) (fun _ _ _ _ _ => (pe_ix (r := rIxT K) ix_tup (pv 11) pe_int (fun _ _ => rfl))))) (pe_lst (pa_cons (pe_ix (r := rIxL K) ix_list (pv 1) pe_int (fun _ _ => rfl)) pa_nil))))
  (pss_cons (ps_set (i := 12) scLTr.nd rfl (Or.inl rfl) (pe_tup (pa_cons pe_str (pa_cons (pe_ix (r := rIxL K) ix_list (pv 1) pe_int (fun _ _ => rfl)) (pa_cons (pe_callH GE hr3 rfl pass0 (pa_cons (pv 0) (pa_cons (pe_slice sl_list (pv 10) po_none (po_some (pe_un un_neg pe_int))) (pa_cons pe_int pa_nil)))) pa_nil)))))
  (pss_one (ps_expr (pe_bm PySem.F.plainAttrs_list PySem.F.slot_list_append PySem.F.type_list_append mt_append (pv 8) (pa_cons (pe_op op_catU (pv 9) (pe_tup (pa_cons (pe_op op_catU (pe_tup (pa_cons (pv 12) pa_nil)) (pe_callH GB hr rfl pass0 (pa_cons (pv 0) (pa_cons (pe_tup (pa_cons (pv 10) (pa_cons (pv 3) (pa_cons (pv 4) pa_nil)))) (pa_cons pe_int (pa_cons pe_bl pa_nil)))))) pa_nil))) pa_nil)))))))
  (pss_one (ps_ret (pe_tup (pa_cons (pe_callTy call_tuple_of (by rfl) T.n_tuple bb_tuple (pa_cons (pv 2) pa_nil)) (pa_cons (pe_callTy call_tuple_of (by rfl) T.n_tuple bb_tuple (pa_cons (pv 3) pa_nil)) (pa_cons (pe_callTy call_tuple_of (by rfl) T.n_tuple bb_tuple (pa_cons (pv 7) pa_nil)) (pa_cons (pe_callTy call_tuple_of (by rfl) T.n_tuple bb_tuple (pa_cons (pv 8) pa_nil)) pa_nil)))))))))))))))), ?_⟩
    refine ⟨_, rfl, p, c, Lim 30, n, rfl, P0, by omega, fun wl ws H1 nok l16 P1 b1 nw ew => ?_⟩
    have lw : LsAt H1 p c wl (ws.map V.str) := ⟨ew, P0.ne1 nw, P0.ne2 nw⟩
    have fw := nw
    clear ew nw
    refine ⟨_, rfl, _, rfl, p, c, Lim 30, n + 2, 3, rfl, P1, by omega, by decide, by decide, fun rN H2 rN0 rN1 P2 b2 => ?_⟩
    have lw := lw.but b2
    refine ⟨_, rfl, wl, _, rfl, SqL.of lw.e, fun nl hnl => ?_⟩
    rw [cut_upto rN0]
    have ln : LsAt (upd H2 nl (.lst ((ws.take rN.toNat).map V.str))) p c nl _ := LsAt.new P2 hnl
    have s3 := same_new (o := .lst ((ws.take rN.toNat).map V.str)) hnl
    have P3 := P2.same s3
    have lw := lw.same s3
    have b3 : But p c H _ := fun b o z h1 h2 => s3 _ _ (b2 _ _ (b1 _ _ z h1 h2) h1 h2)
    clear hnl s3 b2 P2 P1 b1
    generalize upd H2 nl (.lst ((ws.take rN.toNat).map V.str)) = H3 at *
    refine ⟨_, rfl, _, rfl, _, rfl, p, c, Lim 30, n + 3, 2, rfl, P3, by omega, by decide, by decide, fun rK H4 rK0 rK1 P4 b4 => ?_⟩
    have lw := lw.but b4
    have ln := ln.but b4
    refine ⟨_, _, rfl, rfl, _, rfl, wl, _, rfl, SqL.of lw.e, fun kl hkl => ?_⟩
    rw [cut_3 rK0]
    have lk : LsAt (upd H4 kl (.lst (((ws.drop 3).take (1 + rK.toNat)).map V.str))) p c kl _ := LsAt.new P4 hkl
    have s5 := same_new (o := .lst (((ws.drop 3).take (1 + rK.toNat)).map V.str)) hkl
    have P5 := P4.same s5
    have lw := lw.same s5
    have ln := ln.same s5
    have b5 : But p c H _ := fun b o z h1 h2 => s5 _ _ (b4 _ _ (b3 _ _ z h1 h2) h1 h2)
    clear hkl s5 b4 P4 P3 b3
    generalize upd H4 kl (.lst (((ws.drop 3).take (1 + rK.toNat)).map V.str)) = H5 at *
    refine ⟨(by show 0 ≤ sizeLine; decide), fun hl hhl => ?_⟩
    have lh : LsAt (upd H5 hl (.lst [])) p c hl [] := LsAt.new P5 hhl
    have s6 := same_new (o := .lst []) hhl
    have hw : hl ≠ wl := fun z => by rw [z, lw.e] at hhl; cases hhl
    have hN : hl ≠ nl := fun z => by rw [z, ln.e] at hhl; cases hhl
    have hK : hl ≠ kl := fun z => by rw [z, lk.e] at hhl; cases hhl
    have P6 := P5.same s6
    have lw := lw.same s6
    have ln := ln.same s6
    have lk := lk.same s6
    have b6 : But p c H _ := fun b o z h1 h2 => s6 _ _ (b5 _ _ z h1 h2)
    have hlp := P5.ne1 hhl
    have hlc := P5.ne2 hhl
    have fh : H hl = none := by
      cases q : H hl with
      | none => rfl
      | some o =>
        have z : H5 hl = some o := b5 _ _ q hlp hlc
        rw [hhl] at z; cases z
    clear hhl s6 b5 P5
    generalize upd H5 hl (.lst []) = H6 at *
    obtain ⟨w8, h8⟩ : ∃ x, ws[8]? = some x := ⟨_, List.getElem?_eq_getElem (by omega)⟩
    obtain ⟨w9, h9⟩ : ∃ x, ws[9]? = some x := ⟨_, List.getElem?_eq_getElem (by omega)⟩
    obtain ⟨w10, h10⟩ : ∃ x, ws[10]? = some x := ⟨_, List.getElem?_eq_getElem (by omega)⟩
    have a8 : atI (ws.map V.str) 8 = some (.str w8) := atI_nat (j := 8) (by rw [List.getElem?_map, h8]; rfl)
    have a9 : atI (ws.map V.str) 9 = some (.str w9) := atI_nat (j := 9) (by rw [List.getElem?_map, h9]; rfl)
    have a10 : atI (ws.map V.str) 10 = some (.str w10) := atI_nat (j := 10) (by rw [List.getElem?_map, h10]; rfl)
    refine ⟨_, rfl, p, c, Lim 30, n + 4, 3, rfl, P6, by omega, by decide, by decide, fun rh H7 rh0 rh1 P7 b7 => ?_⟩
    have b67 : But p c H H7 := fun b o z h1 h2 => b7 _ _ (b6 _ _ z h1 h2) h1 h2
    have lw := lw.but b7
    have ln := ln.but b7
    have lk := lk.but b7
    have lh := lh.but b7
    refine ⟨_, _, rfl, rfl, _, rfl, by omega, by omega, ?_⟩
    refine for_range (lo := 0) (n := (1 + rh).toNat) (fun i σ H' => (∃ x5 x6 : Option V, σ = [some (.ref p), some (.ref wl), some (.ref nl), some (.ref kl), some (.ref hl), x5, x6, none, none, none, none, none, none]) ∧ PoolAt H' p c (Lim 30) (n + 5 + 3 * i) ∧ But p c H H' ∧ LsAt H' p c wl (ws.map V.str) ∧ LsAt H' p c nl ((ws.take rN.toNat).map V.str) ∧ LsAt H' p c kl (((ws.drop 3).take (1 + rK.toNat)).map V.str) ∧
      ∃ hs heads, LsAt H' p c hl hs ∧ hs.length = i ∧ Paired (fun x h => Dp K H' x (hdaD h)) hs heads ∧ heads.map Prod.fst = (ws.drop 5).take i ∧ ∀ h ∈ heads, ∃ b1 b2 k, h.2 = [(w8, b1), (w9, b2)].take k)
      ⟨⟨_, _, rfl⟩, P7, b67, lw, ln, lk, [], [], lh, rfl, .nil, by simp, fun _ z => (nomatch z)⟩ ?_ ?_
    · rintro i σ H8 hi ⟨⟨x5, x6, rfl⟩, P8, b8, lw8, ln, lk, hs, heads, lh, lhs, ph, hf, hp⟩
      have lw := lw8
      have hi3 : i < 3 := by omega
      obtain ⟨wi, hwi⟩ : ∃ x, ws[5 + i]? = some x := ⟨_, List.getElem?_eq_getElem (by omega)⟩
      have ai : atI (ws.map V.str) (5 + (0 + (i : Int))) = some (.str wi) := by
        rw [show (5 + (0 + (i : Int))) = ((5 + i : Nat) : Int) by omega]
        exact atI_nat (by rw [List.getElem?_map, hwi]; rfl)
      refine ⟨_, rfl, wl, _, _, _, rfl, rfl, SqL.of lw.e, a8, ?_⟩
      refine ⟨_, rfl, p, c, Lim 30, n + 5 + 3 * i, 2, rfl, P8, by omega, by decide, by decide, fun r1 H9 r10 r11 P9 b9 => ?_⟩
      have lw := lw.but b9
      refine ⟨rfl, (by show 2 ≤ sizeLine; decide), fun t1 ht1 => ?_⟩
      have s10 := same_new (o := .tup [V.str w8, V.bl (decide (V.int r1 = V.int 1))]) ht1
      have P10 := P9.same s10
      have lw := lw.same s10
      have b810 : But p c H8 (upd H9 t1 (.tup [V.str w8, V.bl (decide (V.int r1 = V.int 1))])) := fun b o z h1 h2 => s10 _ _ (b9 _ _ z h1 h2)
      have e1 : upd H9 t1 (.tup [V.str w8, V.bl (decide (V.int r1 = V.int 1))]) t1 = some (.tup [V.str w8, V.bl (decide (V.int r1 = V.int 1))]) := upd_same
      generalize upd H9 t1 (.tup [V.str w8, V.bl (decide (V.int r1 = V.int 1))]) = H10 at *
      refine ⟨_, rfl, wl, _, _, _, rfl, rfl, SqL.of lw.e, a9, ?_⟩
      refine ⟨_, rfl, p, c, Lim 30, n + 5 + 3 * i + 1, 2, rfl, P10, by omega, by decide, by decide, fun r2 H11 r20 r21 P11 b11 => ?_⟩
      have lw := lw.but b11
      have t11 := b11.tps P10
      refine ⟨rfl, (by show 2 ≤ sizeLine; decide), fun t2 ht2 => ?_⟩
      have s12 := same_new (o := .tup [V.str w9, V.bl (decide (V.int r2 = V.int 1))]) ht2
      have P12 := P11.same s12
      have lw := lw.same s12
      have b812 : But p c H8 (upd H11 t2 (.tup [V.str w9, V.bl (decide (V.int r2 = V.int 1))])) := fun b o z h1 h2 => s12 _ _ (b11 _ _ (b810 _ _ z h1 h2) h1 h2)
      have e2 : upd H11 t2 (.tup [V.str w9, V.bl (decide (V.int r2 = V.int 1))]) t2 = some (.tup [V.str w9, V.bl (decide (V.int r2 = V.int 1))]) := upd_same
      have e1 := s12 _ _ (t11.1 _ _ e1)
      clear s12 P11 b11 t11 P10 ht1 s10 b9 P9 b810
      generalize upd H11 t2 (.tup [V.str w9, V.bl (decide (V.int r2 = V.int 1))]) = H12 at *
      refine ⟨(by show 2 ≤ sizeLine; decide), fun pl hpl => ?_⟩
      have lp : LsAt (upd H12 pl (.lst [V.ref t1, V.ref t2])) p c pl _ := LsAt.new P12 hpl
      have s13 := same_new (o := .lst [V.ref t1, V.ref t2]) hpl
      have P13 := P12.same s13
      have lw := lw.same s13
      have e1 := s13 _ _ e1
      have e2 := s13 _ _ e2
      have b813 : But p c H8 (upd H12 pl (.lst [V.ref t1, V.ref t2])) := fun b o z h1 h2 => s13 _ _ (b812 _ _ z h1 h2)
      clear s13 P12 hpl b812
      generalize upd H12 pl (.lst [V.ref t1, V.ref t2]) = H13 at *
      have lh13 := lh.but b813
      -- heads.append
      refine ⟨_, rfl, .inl ⟨rfl, _, SqL.of lh13.e⟩, _, rfl, _, rfl, _, _, rfl, rfl, wl, _, _, _, rfl, rfl, SqL.of lw.e, ai, ?_⟩
      refine ⟨_, rfl, _, rfl, p, c, Lim 30, n + 5 + 3 * i + 2, 3, rfl, P13, by omega, by decide, by decide, fun rk H14 rk0 rk1 P14 b14 => ?_⟩
      have lp := lp.but b14
      have t14 := b14.tps P13
      obtain ⟨kk, rfl⟩ : ∃ a : Nat, rk = (a : Int) := ⟨rk.toNat, by omega⟩
      refine ⟨_, rfl, pl, _, rfl, SqL.of lp.e, fun q hq => ?_⟩
      rw [cut_take]
      have s15 := same_new (o := .lst ([V.ref t1, V.ref t2].take kk)) hq
      refine ⟨q, _, rfl, .inl ⟨SqL.of upd_same, fun l hll => ?_⟩⟩
      have s16 := same_new (o := .tup ([V.ref t1, V.ref t2].take kk)) hll
      refine ⟨(by show 2 ≤ sizeLine; decide), fun t3 ht3 => ?_⟩
      have s17 := same_new (o := .tup [V.str wi, V.ref l]) ht3
      have s1417 := (s15.trans s16).trans s17
      have P17 := P14.same s1417
      have e1 := s1417 _ _ (t14.1 _ _ e1)
      have e2 := s1417 _ _ (t14.1 _ _ e2)
      have el := s17 _ _ (upd_same (H := upd H14 q (.lst ([V.ref t1, V.ref t2].take kk))) (a := l) (o := .tup ([V.ref t1, V.ref t2].take kk)))
      have e3 : upd (upd (upd H14 q (.lst ([V.ref t1, V.ref t2].take kk))) l (.tup ([V.ref t1, V.ref t2].take kk))) t3 (.tup [V.str wi, V.ref l]) t3 = some (.tup [V.str wi, V.ref l]) := upd_same
      have b817 : But p c H8 (upd (upd (upd H14 q (.lst ([V.ref t1, V.ref t2].take kk))) l (.tup ([V.ref t1, V.ref t2].take kk))) t3 (.tup [V.str wi, V.ref l])) := fun b o z h1 h2 => s1417 _ _ (b14 _ _ (b813 _ _ z h1 h2) h1 h2)
      clear s1417 s17 s16 s15 ht3 hll hq P14 lp
      generalize upd (upd (upd H14 q (.lst ([V.ref t1, V.ref t2].take kk))) l (.tup ([V.ref t1, V.ref t2].take kk))) t3 (.tup [V.str wi, V.ref l]) = H17 at *
      have lh17 := lh.but b817
      refine ⟨hl, _, _, rfl, rfl, lh17.e, small1000 (by omega), ?_⟩
      have t18 : Tps H17 (upd H17 hl (.lst (hs ++ [.ref t3]))) := Tps.lst lh17.e
      have dh : Dp K (upd H17 hl (.lst (hs ++ [.ref t3]))) (.ref t3) (hdaD (wi, [(w8, decide (V.int r1 = V.int 1)), (w9, decide (V.int r2 = V.int 1))].take kk)) := by
        have d1 : Dp K (upd H17 hl (.lst (hs ++ [.ref t3]))) (.ref t1) (prD (w8, decide (V.int r1 = V.int 1))) := .tup (SqT.of (t18.1 _ _ e1)) (.cons (.str _) (.cons (.bl _) .nil))
        have d2 : Dp K (upd H17 hl (.lst (hs ++ [.ref t3]))) (.ref t2) (prD (w9, decide (V.int r2 = V.int 1))) := .tup (SqT.of (t18.1 _ _ e2)) (.cons (.str _) (.cons (.bl _) .nil))
        refine .tup (SqT.of (t18.1 _ _ e3)) (.cons (.str _) (.cons (.tup (SqT.of (t18.1 _ _ el)) ?_) .nil))
        rw [List.map_take]
        exact dpAll_take kk (.cons d1 (.cons d2 .nil))
      refine ⟨⟨_, _, rfl⟩, ?_, fun b o z h1 h2 => ?_, (lw8.but b817).upd hw.symm, (ln.but b817).upd hN.symm, (lk.but b817).upd hK.symm, hs ++ [.ref t3], heads ++ [(wi, [(w8, decide (V.int r1 = V.int 1)), (w9, decide (V.int r2 = V.int 1))].take kk)], ⟨upd_same, hlp, hlc⟩, by rw [List.length_append, lhs]; rfl, Paired.snoc (Paired.mapP ph fun _ h z => Dp.tps ((b817.tps P8).trans t18) z (noL_hda h)) dh, ?_, fun h hh => ?_⟩
      · rw [show n + 5 + 3 * (i + 1) = n + 5 + 3 * i + 2 + 1 by omega]
        exact P17.upd hlp hlc
      · rw [upd_ne (ne_of_none z fh)]
        exact b817 _ _ (b8 _ _ z h1 h2) h1 h2
      · rw [List.map_append, hf, take_snoc (l := ws.drop 5) (z := wi) (by rw [List.getElem?_drop]; exact hwi)]
        rfl
      · rcases List.mem_append.mp hh with z | z
        · exact hp h z
        · rw [List.mem_singleton.mp z]
          exact ⟨_, _, kk, rfl⟩
    · rintro σ H8 ⟨⟨x5, x6, rfl⟩, P8, b8, lw, ln, lk, hs, heads, lh, lhs, ph, hf, hp⟩
      have lnn : (ws.take rN.toNat).length ≤ 2 := by rw [List.length_take]; omega
      have nnd : (ws.take rN.toNat).Nodup := nok.nd.sublist (List.take_sublist _ _)
      have lhs3 : hs.length ≤ 3 := by omega
      have lhd : hs.length = heads.length := Paired.length ph
      have e1h : (1 + rh).toNat = heads.length := by omega
      rw [e1h] at P8 hf
      have hd1 : 1 ≤ heads.length ∧ heads.length ≤ 3 := by omega
      clear e1h
      have P8 : PoolAt H8 p c (Lim 30) (n + 14) := P8.mono (by omega)
      refine ⟨(by show 0 ≤ sizeLine; decide), fun kp hkp => ?_⟩
      have s9 := same_new (o := .lst []) hkp
      have lkp : LsAt (upd H8 kp (.lst [])) p c kp [] := LsAt.new P8 hkp
      have kw : kp ≠ wl := fun z => by rw [z, lw.e] at hkp; cases hkp
      have kN : kp ≠ nl := fun z => by rw [z, ln.e] at hkp; cases hkp
      have kK : kp ≠ kl := fun z => by rw [z, lk.e] at hkp; cases hkp
      have kH : kp ≠ hl := fun z => by rw [z, lh.e] at hkp; cases hkp
      have fk : H kp = none := by
        cases q : H kp with
        | none => rfl
        | some o =>
          have z : H8 kp = some o := b8 _ _ q lkp.n1 lkp.n2
          rw [hkp] at z; cases z
      have P9 := P8.same s9
      have lw := lw.same s9
      have ln := ln.same s9
      have lk := lk.same s9
      have lh := lh.same s9
      have ph := Paired.mapP ph fun _ h z => Dp.same s9 z
      have b9 : But p c H (upd H8 kp (.lst [])) := fun b o z h1 h2 => s9 _ _ (b8 _ _ z h1 h2)
      clear hkp s9 P8 b8
      generalize upd H8 kp (.lst []) = H9 at *
      refine ⟨fun σ H' => σ = [some (.ref p), some (.ref wl), some (.ref nl), some (.ref kl), some (.ref hl), x5, x6, some (.ref kp), none, none, none, none, none] ∧ PoolAt H' p c (Lim 30) (n + 25) ∧ But p c H H' ∧ LsAt H' p c wl (ws.map V.str) ∧ LsAt H' p c nl ((ws.take rN.toNat).map V.str) ∧ LsAt H' p c kl (((ws.drop 3).take (1 + rK.toNat)).map V.str) ∧ LsAt H' p c hl hs ∧ Paired (fun x h => Dp K H' x (hdaD h)) hs heads ∧
        ∃ us keeps, LsAt H' p c kp us ∧ Paired (fun x e => Dp K H' x (exD e)) us keeps ∧ keeps.length ≤ 1 ∧ ∀ e ∈ keeps, e.c = 0 ∧ EX (ws.take rN.toNat) e, ?_, ?_⟩
      · refine ⟨_, rfl, nl, _, rfl, .inl (SqL.of ln.e), _, _, rfl, rfl, _, rfl, ?_⟩
        refine ite2 (fun hg => ?_) (fun hg => iteF ?_)
        · refine ⟨_, rfl, p, c, Lim 30, n + 14, 2, rfl, P9, by omega, by decide, by decide, fun rk H10 rk0 rk1 P10 b10 => ?_⟩
          have b910 : But p c H H10 := fun b o z h1 h2 => b10 _ _ (b9 _ _ z h1 h2) h1 h2
          have lw := lw.but b10
          have ln := ln.but b10
          have lk := lk.but b10
          have lh := lh.but b10
          have lkp := lkp.but b10
          have ph := Paired.mapP ph fun _ h z => Dp.tps (b10.tps P9) z (noL_hda h)
          refine ⟨rfl, _, rfl, ?_⟩
          refine ite2 (fun hg2 => ?_) (fun hg2 => ?_)
          · refine ⟨_, rfl, .inl ⟨rfl, _, SqL.of lkp.e⟩, _, rfl, _, rfl, p, c, nl, Lim 30, n + 15, ws.take rN.toNat, rfl, P10, by omega, ln.e, ln.n1, ln.n2, nnd, by omega, fun v e H11 hex dx P11 b11 => ?_⟩
            have dx : Dp K H11 v (.tuple [.int e.c, .tuple (e.ts.map fun p => .tuple [.str p.1, .int p.2])]) := dx
            obtain ⟨va, vx, rfl, hva, hvd⟩ := dx.tupInv
            obtain ⟨v1, v2, rfl, _, g2⟩ := hvd.two
            refine ⟨va, _, _, _, rfl, rfl, hva, rfl, (by show 2 ≤ sizeLine; decide), fun t ht => ?_⟩
            have s12 := same_new (o := .tup [V.int 0, v2]) ht
            have b1012 : But p c H10 (upd H11 t (.tup [V.int 0, v2])) := fun b o z h1 h2 => s12 _ _ (b11 _ _ z h1 h2)
            have lw := lw.but b1012
            have ln := ln.but b1012
            have lk := lk.but b1012
            have lh := lh.but b1012
            have lkp := lkp.but b1012
            have ph := Paired.mapP ph fun _ h z => Dp.tps (b1012.tps P10) z (noL_hda h)
            refine ⟨kp, _, _, rfl, rfl, lkp.e, by show 0 < sizeLine; decide, ?_⟩
            have t13 : Tps (upd H11 t (.tup [V.int 0, v2])) (upd (upd H11 t (.tup [V.int 0, v2])) kp (.lst ([] ++ [.ref t]))) := Tps.lst lkp.e
            refine ⟨rfl, ((P11.same s12).upd lkp.n1 lkp.n2).mono (by omega), fun b o z h1 h2 => ?_, lw.upd kw.symm, ln.upd kN.symm, lk.upd kK.symm, lh.upd kH.symm, Paired.mapP ph fun _ h z => Dp.tps t13 z (noL_hda h), [] ++ [.ref t], [⟨0, e.ts⟩], ⟨upd_same, lkp.n1, lkp.n2⟩, .cons ?_ .nil, Nat.le_refl _, fun x hx => ?_⟩
            · rw [upd_ne (ne_of_none z fk)]
              exact b1012 _ _ (b910 _ _ z h1 h2) h1 h2
            · exact .tup (t13.sqt (SqT.of upd_same)) (.cons (.int _) (.cons (Dp.tps t13 (g2.same s12) (noLs_map (fun _ => rfl) _)) .nil))
            · rw [List.mem_singleton.mp hx]
              exact ⟨rfl, ⟨by show (-3 : Int) ≤ 0; decide, by show (0 : Int) ≤ 3; decide⟩, hex.nm, hex.up, hex.ln⟩
          · exact ⟨rfl, P10.mono (by omega), b910, lw, ln, lk, lh, ph, [], [], lkp, .nil, by show 0 ≤ 1; decide, fun _ z => (nomatch z)⟩
        · exact ⟨rfl, P9.mono (by omega), b9, lw, ln, lk, lh, ph, [], [], lkp, .nil, by show 0 ≤ 1; decide, fun _ z => (nomatch z)⟩
      · rintro σ H10 ⟨rfl, P10, b10, lw, ln, lk, lh, ph, kus, keeps, lkp, pk, lkk, kk⟩
        refine ⟨(by show 0 ≤ sizeLine; decide), fun fl hfl => ?_⟩
        have s11 := same_new (o := .lst []) hfl
        have lf : LsAt (upd H10 fl (.lst [])) p c fl [] := LsAt.new P10 hfl
        have fw' : fl ≠ wl := fun z => by rw [z, lw.e] at hfl; cases hfl
        have fN : fl ≠ nl := fun z => by rw [z, ln.e] at hfl; cases hfl
        have fK : fl ≠ kl := fun z => by rw [z, lk.e] at hfl; cases hfl
        have fH : fl ≠ hl := fun z => by rw [z, lh.e] at hfl; cases hfl
        have fP : fl ≠ kp := fun z => by rw [z, lkp.e] at hfl; cases hfl
        have ff : H fl = none := by
          cases q : H fl with
          | none => rfl
          | some o =>
            have z : H10 fl = some o := b10 _ _ q lf.n1 lf.n2
            rw [hfl] at z; cases z
        have P11 := P10.same s11
        have lw := lw.same s11
        have ln := ln.same s11
        have lk := lk.same s11
        have lh := lh.same s11
        have lkp := lkp.same s11
        have ph := Paired.mapP ph fun _ h z => Dp.same s11 z
        have pk := Paired.mapP pk fun _ h z => Dp.same s11 z
        have b11 : But p c H (upd H10 fl (.lst [])) := fun b o z h1 h2 => s11 _ _ (b10 _ _ z h1 h2)
        clear hfl s11 P10 b10
        generalize upd H10 fl (.lst []) = H11 at *
        refine ⟨_, rfl, hl, rfl, ⟨_, SqL.of lh.e⟩, ?_⟩
        refine for_list (K := K) (a := hl) (xs := hs) (fun i σ H' => (∃ x9 x10 x12 : Option V, σ = [some (.ref p), some (.ref wl), some (.ref nl), some (.ref kl), some (.ref hl), x5, x6, some (.ref kp), some (.ref fl), x9, x10, none, x12]) ∧ But p c H H' ∧ LsAt H' p c wl (ws.map V.str) ∧ LsAt H' p c nl ((ws.take rN.toNat).map V.str) ∧ LsAt H' p c kl (((ws.drop 3).take (1 + rK.toNat)).map V.str) ∧ LsAt H' p c hl hs ∧ Paired (fun x h => Dp K H' x (hdaD h)) hs heads ∧ LsAt H' p c kp kus ∧ Paired (fun x e => Dp K H' x (exD e)) kus keeps ∧
          ∃ (us : List V) (fns : List Fn) (bu : Nat), PoolAt H' p c (Lim bu) (n + 25 + i * (10 + c5)) ∧ LsAt H' p c fl us ∧ us.length = i ∧ Paired (fun x f => Dp K H' x (fnD f)) us fns ∧ (fns.map fun f => (f.name, f.ps)) = heads.take i ∧ (fns.map fun f => szB f.b).sum + bu = 30 + i ∧
            ∀ f ∈ fns, ∃ e blk, f.b = .set w10 e :: blk ∧ blk.length ≤ 3 ∧ dpB blk ≤ 5 ∧ EX (ws.take rN.toNat ++ prs f) e ∧ wL (ws.take rN.toNat ++ (prs f ++ [w10])) ((ws.drop 3).take (1 + rK.toNat)) heads false blk)
          ⟨⟨_, _, _, rfl⟩, b11, lw, ln, lk, lh, ph, lkp, pk, [], [], 30, by rw [Nat.zero_mul]; exact P11, lf, rfl, .nil, by simp, rfl, fun _ z => (nomatch z)⟩ (fun i σ H' _ h' => SqL.of h'.2.2.2.2.2.1.e) ?_ ?_
        · rintro i x σ H12 hx ⟨⟨x9, x10, x12, rfl⟩, b12, lw, ln, lk, lh, ph, lkp, pk, us, fns, bu, P12, lf, lus, pf, hfn, hsz, hfs⟩
          obtain ⟨hd, hhd, hdd⟩ := Paired.at ph hx
          have hi : i < hs.length := (List.getElem?_eq_some_iff.mp hx).1
          have mh := List.mem_of_getElem? hhd
          obtain ⟨ba1, ba2, bk, hps⟩ := hp hd mh
          have hdd' : Dp K H12 x (.tuple [.str hd.1, .tuple (hd.2.map prD)]) := hdd
          obtain ⟨ha, hx2, rfl, hha, hhd2⟩ := hdd'.tupInv
          obtain ⟨hv1, hv2, rfl, hg1, hg2⟩ := hhd2.two
          rw [hg1.strInv] at hha
          obtain ⟨pa, px, rfl, hpa, hpd⟩ := hg2.tupInv
          have pp := DpAll.map hpd
          have lpx : px.length = hd.2.length := Paired.length pp
          have l22 : hd.2.length ≤ 2 := by rw [hps, List.length_take]; exact Nat.min_le_right _ _
          have nb : i * (10 + c5) ≤ 2 * (10 + c5) := Nat.mul_le_mul_right _ (by omega)
          refine ⟨_, rfl, _, rfl, ha, _, _, _, rfl, rfl, hha, rfl, pa, rfl, ⟨_, hpa⟩, fun D hD => ?_⟩
          have Dp' := P12.ne1 hD
          have Dc := P12.ne2 hD
          refine lc_tup (K := K) (a := pa) (xs := px) (fun j H' => Same H12 H' ∧ H' D = some (.lst (((hd.2.take j).map Prod.fst).map V.str))) ⟨same_new hD, upd_same⟩ (fun j H' _ h' => SqT.same h'.1 hpa) ?_ ?_
          · rintro j z H13 hz ⟨s13, eD⟩
            obtain ⟨pr, hpr, hpr2⟩ := Paired.at pp hz
            have hj : j < px.length := (List.getElem?_eq_some_iff.mp hz).1
            have hpr2 : Dp K H12 z (.tuple [.str pr.1, .bool pr.2]) := hpr2
            obtain ⟨pz, pzs, rfl, hpz, hpzd⟩ := hpr2.tupInv
            obtain ⟨z1, z2, rfl, zg1, _⟩ := hpzd.two
            rw [zg1.strInv] at hpz
            refine ⟨wipe1 (by decide), V.ref pz, by kernel_rfl, pz, _, _, _, rfl, rfl, SqT.same s13 hpz, rfl, ?_⟩
            refine ⟨_, eD, small1000 (by rw [List.length_map, List.length_map, List.length_take]; omega), fun b o z => ?_, ?_⟩
            · rw [upd_ne (ne_of_none z hD)]
              exact s13 _ _ z
            · rw [upd_same, take_snoc hpr, List.map_append, List.map_append]
              rfl
          · rintro H13 ⟨s13, eD⟩
            rw [lpx, List.take_length] at eD
            have lw13 := lw.same s13
            have ln13 := ln.same s13
            have lps : (hd.2.map Prod.fst).length ≤ 2 := by rw [List.length_map]; exact l22
            refine ⟨nl, D, _, _, rfl, rfl, ln13.e, eD, Nat.le_of_lt (small1000 (by rw [List.length_map, List.length_map]; omega)), fun q1 hq1 => ?_⟩
            have s14 := same_new (o := .lst ((ws.take rN.toNat).map V.str ++ (hd.2.map Prod.fst).map V.str)) hq1
            have eq1 : upd H13 q1 (.lst ((ws.take rN.toNat).map V.str ++ (hd.2.map Prod.fst).map V.str)) q1 = some (.lst ((ws.take rN.toNat).map V.str ++ (hd.2.map Prod.fst).map V.str)) := upd_same
            have s1214 := s13.trans s14
            have lw14 := lw.same s1214
            generalize upd H13 q1 (.lst ((ws.take rN.toNat).map V.str ++ (hd.2.map Prod.fst).map V.str)) = H14 at *
            refine ⟨_, rfl, wl, _, _, _, rfl, rfl, SqL.of lw14.e, a10, (by show 1 ≤ sizeLine; decide), fun q2 hq2 => ?_⟩
            have s15 := same_new (o := .lst [V.str w10]) hq2
            refine ⟨q1, q2, _, _, rfl, rfl, s15 _ _ eq1, upd_same, Nat.le_of_lt (small1000 (by rw [List.length_append, List.length_map, List.length_map]; show _ + _ + 1 ≤ _; omega)), fun ol hol => ?_⟩
            have s16 := same_new (o := .lst (((ws.take rN.toNat).map V.str ++ (hd.2.map Prod.fst).map V.str) ++ [V.str w10])) hol
            have s1216 := (s1214.trans s15).trans s16
            have eol : upd (upd H14 q2 (.lst [V.str w10])) ol (.lst (((ws.take rN.toNat).map V.str ++ (hd.2.map Prod.fst).map V.str) ++ [V.str w10])) ol = some (.lst (((ws.take rN.toNat).map V.str ++ (hd.2.map Prod.fst).map V.str) ++ [V.str w10])) := upd_same
            have nol : H12 ol = none := none_same (s1214.trans s15) hol
            clear s16 s15 s14 hq2 hq1 hol
            generalize upd (upd H14 q2 (.lst [V.str w10])) ol (.lst (((ws.take rN.toNat).map V.str ++ (hd.2.map Prod.fst).map V.str) ++ [V.str w10])) = H16 at *
            have P16 := P12.same s1216
            have lol : LsAt H16 p c ol _ := ⟨eol, P12.ne1 nol, P12.ne2 nol⟩
            -- first
            refine ⟨_, rfl, wl, _, _, _, rfl, rfl, SqL.of (lw.same s1216).e, a10, ?_⟩
            refine ⟨_, rfl, _, rfl, _, rfl, _, rfl, ol, _, rfl, SqL.of lol.e, fun q3 hq3 => ?_⟩
            rw [cut_last]
            have eqs : (ws.take rN.toNat).map V.str ++ (hd.2.map Prod.fst).map V.str = (ws.take rN.toNat ++ hd.2.map Prod.fst).map V.str := by rw [List.map_append]
            have s17 := same_new (o := .lst ((ws.take rN.toNat).map V.str ++ (hd.2.map Prod.fst).map V.str)) hq3
            have eq3 : upd H16 q3 (.lst ((ws.take rN.toNat).map V.str ++ (hd.2.map Prod.fst).map V.str)) q3 = some (.lst ((ws.take rN.toNat ++ hd.2.map Prod.fst).map V.str)) := by rw [upd_same, eqs]
            have nq3 := P16.ne1 hq3
            have nq4 := P16.ne2 hq3
            have P17 := P16.same s17
            have lol := lol.same s17
            have s1217 := s1216.trans s17
            generalize upd H16 q3 (.lst ((ws.take rN.toNat).map V.str ++ (hd.2.map Prod.fst).map V.str)) = H17 at *
            have psub : (hd.2.map Prod.fst).Sublist [w8, w9] := by rw [hps, List.map_take]; exact take2_sub bk
            have osub : (ws.take rN.toNat ++ (hd.2.map Prod.fst ++ [w10])).Sublist ws := own_sub h8 h9 h10 (by omega) psub
            have ond : (ws.take rN.toNat ++ (hd.2.map Prod.fst ++ [w10])).Nodup := nok.nd.sublist osub
            have ond2 : (ws.take rN.toNat ++ hd.2.map Prod.fst).Nodup := by
              rw [← List.append_assoc] at ond
              exact ond.sublist (List.sublist_append_left _ _)
            have l5 : (ws.take rN.toNat ++ hd.2.map Prod.fst).length ≤ 4 := by rw [List.length_append]; omega
            refine ⟨p, c, q3, Lim bu, _, ws.take rN.toNat ++ hd.2.map Prod.fst, rfl, P17, by omega, eq3, nq3, nq4, ond2, by rw [List.length_append]; omega, fun v e H18 hex dx P18 b18 => ?_⟩
            have lol := lol.but b18
            refine ⟨(by show 3 ≤ sizeLine; decide), fun ft hft => ?_⟩
            have s19 := same_new (o := .tup [V.str "set", V.str w10, v]) hft
            have P19 := P18.same s19
            have lol := lol.same s19
            have b1219 : But p c H12 (upd H18 ft (.tup [V.str "set", V.str w10, v])) := fun b o z h1 h2 => s19 _ _ (b18 _ _ (s1217 _ _ z) h1 h2)
            have eft : upd H18 ft (.tup [V.str "set", V.str w10, v]) ft = some (.tup [V.str "set", V.str w10, v]) := upd_same
            have dv := dx.same s19
            clear s19 hft P18 b18 dx P17 s1217 s17 hq3 eq3 P16 lw14 lw13 ln13
            generalize upd H18 ft (.tup [V.str "set", V.str w10, v]) = H19 at *
            have dfirst : Dp K H19 (.ref ft) (stD (.set w10 e)) := .tup (SqT.of eft) (.cons (.str _) (.cons (.str _) (.cons dv .nil)))
            -- functions.append(head + ((first,) + block,))
            have lf19 := lf.but b1219
            refine ⟨_, rfl, .inl ⟨rfl, _, SqL.of lf19.e⟩, _, rfl, _, rfl, (by show 1 ≤ sizeLine; decide), fun u1 hu1 => ?_⟩
            have s20 := same_new (o := .tup [V.ref ft]) hu1
            refine ⟨_, rfl, _, rfl, _, rfl, _, rfl, (by show 3 ≤ sizeLine; decide), fun ev hev => ?_⟩
            have s21 := same_new (o := .tup [V.ref ol, V.ref kl, V.ref hl]) hev
            have s1921 := s20.trans s21
            have P21 := P19.same s1921
            have b1221 : But p c H12 (upd (upd H19 u1 (.tup [V.ref ft])) ev (.tup [V.ref ol, V.ref kl, V.ref hl])) := fun b o z h1 h2 => s1921 _ _ (b1219 _ _ z h1 h2)
            have eu1 := s21 _ _ (upd_same (H := H19) (a := u1) (o := .tup [V.ref ft]))
            have eev : upd (upd H19 u1 (.tup [V.ref ft])) ev (.tup [V.ref ol, V.ref kl, V.ref hl]) ev = some (.tup [V.ref ol, V.ref kl, V.ref hl]) := upd_same
            have dfirst := dfirst.same s1921
            have lol := lol.same s1921
            clear s1921 s21 s20 hev hu1 P19
            generalize upd (upd H19 u1 (.tup [V.ref ft])) ev (.tup [V.ref ol, V.ref kl, V.ref hl]) = H21 at *
            have lk21 := lk.but b1221
            have lh21 := lh.but b1221
            have eown : (ws.take rN.toNat).map V.str ++ (hd.2.map Prod.fst).map V.str ++ [V.str w10] = (ws.take rN.toNat ++ (hd.2.map Prod.fst ++ [w10])).map V.str := by
              rw [List.map_append, List.map_append, List.append_assoc]
              rfl
            have env : EnvAt K H21 p c (.ref ev) (ws.take rN.toNat ++ (hd.2.map Prod.fst ++ [w10])) ((ws.drop 3).take (1 + rK.toNat)) heads :=
              ⟨ev, ol, kl, hl, hs, rfl, SqT.of eev, by rw [lol.e, eown], lk21.e, lh21.e, Paired.mapP ph fun _ h z => Dp.tps (b1221.tps P12) z (noL_hda h), ⟨lol.n1, lol.n2⟩, ⟨lk21.n1, lk21.n2⟩, ⟨lh21.n1, lh21.n2⟩⟩
            have envok : EnvOk (ws.take rN.toNat ++ (hd.2.map Prod.fst ++ [w10])) ((ws.drop 3).take (1 + rK.toNat)) heads := by
              refine ⟨⟨ond, by simp, by rw [List.length_append, List.length_append]; show _ + (_ + 1) ≤ 8; omega⟩, ⟨fun z => ?_, by rw [List.length_take]; omega⟩, ⟨List.ne_nil_of_mem mh, hd1.2⟩, fun h hh => ?_⟩
              · have := congrArg List.length z
                rw [List.length_take, List.length_drop, List.length_nil] at this
                omega
              · obtain ⟨c1, c2, ck, hc⟩ := hp h hh
                have m1 : h.1 ∈ ws := by
                  have : h.1 ∈ heads.map Prod.fst := List.mem_map.mpr ⟨h, hh, rfl⟩
                  rw [hf] at this
                  exact List.mem_of_mem_drop (List.mem_of_mem_take this)
                refine ⟨by rw [hc, List.length_take]; exact Nat.min_le_right _ _, nok.name _ m1, fun pr hpr => ?_⟩
                rw [hc] at hpr
                have hpr := List.mem_of_mem_take hpr
                simp only [List.mem_cons, List.not_mem_nil, or_false] at hpr
                rcases hpr with rfl | rfl
                · exact nok.name _ (List.mem_of_getElem? h8)
                · exact nok.name _ (List.mem_of_getElem? h9)
            refine ⟨p, c, .ref ev, _, bu, 2, false, _, _, heads, rfl, P21, by omega, env, envok, fun _ => (by decide), fun h => (nomatch h), fun bv blk bu2 H22 wl2 bl3 bdp bsz bdx P22 b22 => ?_⟩
            have bdx : Dp K H22 bv (.tuple (stsD blk)) := bdx
            obtain ⟨bb, bxs, rfl, hbb, hbbd⟩ := bdx.tupInv
            have t22 := b22.tps P21
            have t1222 := (b1221.tps P12).trans t22
            have b1222 : But p c H12 H22 := fun b o z h1 h2 => b22 _ _ (b1221 _ _ z h1 h2) h1 h2
            have lbx : bxs.length = blk.length := by rw [stsD_map] at hbbd; exact Paired.length hbbd.map
            refine ⟨u1, bb, _, _, rfl, rfl, t22.sqt (SqT.of eu1), hbb, (fun z => nomatch z), Nat.le_of_lt (small1000 (by show 1 + bxs.length ≤ 1000; omega)), fun bp H23 s23 hbp => ?_⟩
            refine ⟨(by show 1 ≤ sizeLine; decide), fun u2 hu2 => ?_⟩
            have s24 := same_new (o := .tup [V.ref bp]) hu2
            refine ⟨ha, u2, _, _, rfl, rfl, SqT.same (s23.trans s24) (t1222.sqt hha), SqT.of upd_same, (fun z => nomatch z), (by show 2 + 1 ≤ sizeLine; decide), fun fp H25 s25 hfp => ?_⟩
            have s2225 := (s23.trans s24).trans s25
            have s2325 := s24.trans s25
            have b1225 : But p c H12 H25 := fun b o z h1 h2 => s2225 _ _ (b1222 _ _ z h1 h2)
            have P25 := P22.same s2225
            have lf25 := lf.but b1225
            refine ⟨fl, _, _, rfl, rfl, lf25.e, small1000 (by omega), ?_⟩
            have t26 : Tps H25 (upd H25 fl (.lst (us ++ [.ref fp]))) := Tps.lst lf25.e
            have t1225 := t1222.trans (Tps.of s2225)
            have dblk : DpAll K H25 (V.ref ft :: bxs) (stsD (.set w10 e :: blk)) := .cons ((Dp.tps t22 dfirst (noL_st _)).same s2225) (DpAll.same s2225 hbbd)
            have dfn : Dp K H25 (.ref fp) (fnD ⟨hd.1, hd.2, .set w10 e :: blk⟩) := by
              refine .tup hfp (.cons (.str _) (.cons (.tup (t1225.sqt hpa) ?_) (.cons (.tup (SqT.same s2325 hbp) dblk) .nil)))
              exact DpAll.tps t1225 hpd (noLs_map noL_pr _)
            have prq : prs ⟨hd.1, hd.2, .set w10 e :: blk⟩ = hd.2.map Prod.fst := rfl
            refine ⟨⟨_, _, _, rfl⟩, fun b o z h1 h2 => ?_, (lw.but b1225).upd fw'.symm, (ln.but b1225).upd fN.symm, (lk.but b1225).upd fK.symm, (lh.but b1225).upd fH.symm, Paired.mapP ph fun _ h z => Dp.tps (t1225.trans t26) z (noL_hda h), (lkp.but b1225).upd fP.symm, Paired.mapP pk fun _ h z => Dp.tps (t1225.trans t26) z (noL_ex h), us ++ [.ref fp], fns ++ [⟨hd.1, hd.2, .set w10 e :: blk⟩], bu2, ?_, ⟨upd_same, lf.n1, lf.n2⟩, by rw [List.length_append, lus]; rfl, Paired.snoc (Paired.mapP pf fun _ f z => Dp.tps (t1225.trans t26) z (noL_fn f)) (Dp.tps t26 dfn (noL_fn _)), ?_, ?_, fun f hf => ?_⟩
            · rw [upd_ne (ne_of_none z ff)]
              exact b1225 _ _ (b12 _ _ z h1 h2) h1 h2
            · refine (P25.upd lf.n1 lf.n2).mono ?_
              rw [Nat.succ_mul]
              omega
            · rw [List.map_append, hfn, take_snoc hhd]
              rfl
            · rw [List.map_append, List.sum_append]
              show _ + (1 + 0 + szB blk + 0) + bu2 = _
              omega
            · rcases List.mem_append.mp hf with z | z
              · exact hfs f z
              · rw [List.mem_singleton.mp z]
                exact ⟨e, blk, rfl, bl3, bdp, hex, wl2⟩
        · rintro σ H12 ⟨⟨x9, x10, x12, rfl⟩, b12, lw, ln, lk, lh, ph, lkp, pk, us, fns, bu, P12, lf, lus, pf, hfn, hsz, hfs⟩
          rw [lhd, List.take_length] at hfn
          have lfn : fns.length = heads.length := by rw [← hfn, List.length_map]
          rw [lhd] at P12 hsz
          have nb : heads.length * (10 + c5) ≤ 3 * (10 + c5) := Nat.mul_le_mul_right _ hd1.2
          refine ⟨_, rfl, nl, _, rfl, .inl ⟨SqL.of ln.e, fun l1 hl1 => ?_⟩⟩
          have s1 := same_new (o := .tup ((ws.take rN.toNat).map V.str)) hl1
          refine ⟨_, rfl, kl, _, rfl, .inl ⟨SqL.of (s1 _ _ lk.e), fun l2 hl2 => ?_⟩⟩
          have s2 := same_new (o := .tup (((ws.drop 3).take (1 + rK.toNat)).map V.str)) hl2
          have s12 := s1.trans s2
          refine ⟨_, rfl, kp, _, rfl, .inl ⟨SqL.of (s12 _ _ lkp.e), fun l3 hl3 => ?_⟩⟩
          have s3 := same_new (o := .tup kus) hl3
          have s13 := s12.trans s3
          refine ⟨_, rfl, fl, _, rfl, .inl ⟨SqL.of (s13 _ _ lf.e), fun l4 hl4 => ?_⟩⟩
          have s4 := same_new (o := .tup us) hl4
          have s14 := s13.trans s4
          refine ⟨(by show 4 ≤ sizeLine; decide), fun tt htt => ?_⟩
          have s5 := same_new (o := .tup [V.ref l1, V.ref l2, V.ref l3, V.ref l4]) htt
          have s15 := s14.trans s5
          have e1 := s5 _ _ (s4 _ _ (s3 _ _ (s2 _ _ (upd_same (H := H12) (a := l1) (o := .tup ((ws.take rN.toNat).map V.str))))))
          have e2 := s5 _ _ (s4 _ _ (s3 _ _ (upd_same (H := upd H12 l1 (.tup ((ws.take rN.toNat).map V.str))) (a := l2) (o := .tup (((ws.drop 3).take (1 + rK.toNat)).map V.str)))))
          have e3 := s5 _ _ (s4 _ _ (upd_same (H := upd (upd H12 l1 (.tup ((ws.take rN.toNat).map V.str))) l2 (.tup (((ws.drop 3).take (1 + rK.toNat)).map V.str))) (a := l3) (o := .tup kus)))
          have e4 := s5 _ _ (upd_same (H := upd (upd (upd H12 l1 (.tup ((ws.take rN.toNat).map V.str))) l2 (.tup (((ws.drop 3).take (1 + rK.toNat)).map V.str))) l3 (.tup kus)) (a := l4) (o := .tup us))
          refine k _ ⟨ws.take rN.toNat, (ws.drop 3).take (1 + rK.toNat), keeps, fns⟩ bu _ ⟨ws, nok, l16, rN.toNat, 1 + rK.toNat, by omega, by omega, by omega, rfl, rfl, kk, lkk, by show 1 ≤ fns.length; omega, by show fns.length ≤ 3; omega, ?_, by show (fns.map fun f => szB f.b).sum ≤ 33; omega, w8, w9, w10, h8, h9, h10, fun f hf => ⟨?_, ?_⟩⟩ ?_ ((P12.same s15).mono (by omega)) (fun b o z h1 h2 => s15 _ _ (b12 _ _ z h1 h2))
          · show fns.map Fn.name = (ws.drop 5).take fns.length
            rw [lfn, ← hf, ← hfn, List.map_map]
            rfl
          · exact hp (f.name, f.ps) (by rw [← hfn]; exact List.mem_map.mpr ⟨f, hf, rfl⟩)
          · obtain ⟨e, blk, q1, q2, q3, q4, q5⟩ := hfs f hf
            refine ⟨e, blk, q1, q2, q3, q4, ?_⟩
            show wL _ _ (fns.map fun f => (f.name, f.ps)) false blk
            rw [hfn]
            exact q5
          · refine .tup (SqT.of upd_same) (.cons (.tup (SqT.of e1) (dpAll_strs _)) (.cons (.tup (SqT.of e2) (dpAll_strs _)) (.cons (.tup (SqT.of e3) ?_) (.cons (.tup (SqT.of e4) ?_) .nil))))
            · exact DpAll.ofPaired (Paired.mapP pk fun _ _ z => z.same s15)
            · exact DpAll.ofPaired (Paired.mapP pf fun _ _ z => z.same s15)
end

/-! ### _law_same over data -/
mutual
/-- data whose lists are the law's own -/
inductive Dq (K : PySem.W.Frag) (H : Hp) : V → PyData → Prop
  | non : Dq K H .non .none
  | bl (b : Bool) : Dq K H (.bl b) (.bool b)
  | int (i : Int) : Dq K H (.int i) (.int i)
  | str (x : Str) : Dq K H (.str x) (.str x)
  | lst {a : Addr} {xs : List V} {ds : List PyData} (h : H a = some (.lst xs)) (t : DqAll K H xs ds) : Dq K H (.ref a) (.list ds)
  | tup {a : Addr} {xs : List V} {ds : List PyData} (h : SqT K H a xs) (t : DqAll K H xs ds) : Dq K H (.ref a) (.tuple ds)
inductive DqAll (K : PySem.W.Frag) (H : Hp) : List V → List PyData → Prop
  | nil : DqAll K H [] []
  | cons {v : V} {d : PyData} {vs : List V} {ds : List PyData} (a : Dq K H v d) (b : DqAll K H vs ds) : DqAll K H (v :: vs) (d :: ds)
end
mutual
theorem Dq.same {K : PySem.W.Frag} {H H' : Hp} (e : Same H H') {v : V} {d : PyData} (h : Dq K H v d) : Dq K H' v d :=
  match h with
  | .non => .non
  | .bl b => .bl b
  | .int i => .int i
  | .str x => .str x
  | .lst a b => .lst (e _ _ a) (DqAll.same e b)
  | .tup a b => .tup (SqT.same e a) (DqAll.same e b)
theorem DqAll.same {K : PySem.W.Frag} {H H' : Hp} (e : Same H H') {vs : List V} {ds : List PyData} (h : DqAll K H vs ds) : DqAll K H' vs ds :=
  match h with
  | .nil => .nil
  | .cons a b => .cons (Dq.same e a) (DqAll.same e b)
end
mutual
theorem Dq.dp {K : PySem.W.Frag} {H : Hp} {v : V} {d : PyData} (h : Dq K H v d) : Dp K H v d :=
  match h with
  | .non => .non
  | .bl b => .bl b
  | .int i => .int i
  | .str x => .str x
  | .lst a b => .lst (SqL.of a) (DqAll.dp b)
  | .tup a b => .tup a (DqAll.dp b)
theorem DqAll.dp {K : PySem.W.Frag} {H : Hp} {vs : List V} {ds : List PyData} (h : DqAll K H vs ds) : DpAll K H vs ds :=
  match h with
  | .nil => .nil
  | .cons a b => .cons (Dq.dp a) (DqAll.dp b)
end
mutual
theorem dq_of {K : PySem.W.Frag} {H : Hp} {v : V} {d : PyData} (h : Dp K H v d) (n : noL d = true) : Dq K H v d :=
  match h with
  | .non => .non
  | .bl b => .bl b
  | .int i => .int i
  | .str x => .str x
  | .lst _ _ => by simp [noL] at n
  | .tup a b => .tup a (dqAll_of b (by simpa [noL] using n))
theorem dqAll_of {K : PySem.W.Frag} {H : Hp} {vs : List V} {ds : List PyData} (h : DpAll K H vs ds) (n : noLs ds = true) : DqAll K H vs ds :=
  match h with
  | .nil => .nil
  | .cons a b => by
    simp only [noLs, Bool.and_eq_true] at n
    exact .cons (dq_of a n.1) (dqAll_of b n.2)
end
theorem DqAll.len {K : PySem.W.Frag} {H : Hp} : ∀ {vs : List V} {ds : List PyData}, DqAll K H vs ds → vs.length = ds.length
  | _, _, .nil => rfl
  | _, _, .cons _ b => by rw [List.length_cons, List.length_cons, DqAll.len b]
theorem DqAll.at {K : PySem.W.Frag} {H : Hp} : ∀ {vs : List V} {ds : List PyData}, DqAll K H vs ds → ∀ {i : Nat} {v : V}, vs[i]? = some v → ∃ d, ds[i]? = some d ∧ Dq K H v d
  | _, _, .cons a b, 0, v, h => by simp at h; subst h; exact ⟨_, rfl, a⟩
  | _, _, .cons a b, i + 1, v, h => by simp at h ⊢; exact DqAll.at b h
def tyN : PyData → String
  | .none => "NoneType" | .bool _ => "bool" | .int _ => "int" | .str _ => "str" | .tuple _ => "tuple" | .list _ => "list" | _ => "object"
theorem dq_ty {K : PySem.W.Frag} {H : Hp} {v : V} {d : PyData} (h : Dq K H v d) : TyX K H v (.type (tyN d)) := by
  cases h with
  | non => exact .base .non
  | bl b => exact .base (.bl b)
  | int i => exact .base (.int i)
  | str x => exact .base (.str x)
  | lst a b => exact .base (.lst a)
  | tup a b => exact ty_tup a
def isBo : PyData → Bool
  | .bool _ => true | _ => false
def isIn : PyData → Bool
  | .bool _ => true | .int _ => true | _ => false
def isSt : PyData → Bool
  | .str _ => true | _ => false
def isTu : PyData → Bool
  | .tuple _ => true | _ => false
def isLi : PyData → Bool
  | .list _ => true | _ => false
theorem dq_bo {K : PySem.W.Frag} {H : Hp} {v : V} {d : PyData} (h : Dq K H v d) : PySem.W.kitOne K (.type (tyN d)) (.type "bool") = some (isBo d) := by cases h <;> (refine kit_ty ?_; simp only [tyN, isBo]; decide +kernel)
theorem dq_in {K : PySem.W.Frag} {H : Hp} {v : V} {d : PyData} (h : Dq K H v d) : PySem.W.kitOne K (.type (tyN d)) (.type "int") = some (isIn d) := by cases h <;> (refine kit_ty ?_; simp only [tyN, isIn]; decide +kernel)
theorem dq_st {K : PySem.W.Frag} {H : Hp} {v : V} {d : PyData} (h : Dq K H v d) : PySem.W.kitOne K (.type (tyN d)) (.type "str") = some (isSt d) := by cases h <;> (refine kit_ty ?_; simp only [tyN, isSt]; decide +kernel)
theorem dq_tu {K : PySem.W.Frag} {H : Hp} {v : V} {d : PyData} (h : Dq K H v d) : PySem.W.kitOne K (.type (tyN d)) (.type "tuple") = some (isTu d) := by cases h <;> (refine kit_ty ?_; simp only [tyN, isTu]; decide +kernel)
theorem dq_li {K : PySem.W.Frag} {H : Hp} {v : V} {d : PyData} (h : Dq K H v d) : PySem.W.kitOne K (.type (tyN d)) (.type "list") = some (isLi d) := by cases h <;> (refine kit_ty ?_; simp only [tyN, isLi]; decide +kernel)
mutual
def narrow : PyData → Bool
  | .tuple ds => decide (ds.length ≤ 100000) && narrows ds
  | .list ds => decide (ds.length ≤ 100000) && narrows ds
  | _ => true
def narrows : List PyData → Bool
  | [] => true
  | d :: r => narrow d && narrows r
end
theorem narrows_at : ∀ {ds : List PyData}, narrows ds = true → ∀ {i : Nat} {d : PyData}, ds[i]? = some d → narrow d = true
  | x :: r, h, 0, d, hd => by simp only [narrows, Bool.and_eq_true] at h; simp at hd; subst hd; exact h.1
  | x :: r, h, i + 1, d, hd => by simp only [narrows, Bool.and_eq_true] at h; exact narrows_at h.2 (by simpa using hd)
theorem layAll_at : ∀ {ds : List PyData}, PyData.canLayAll0 ds = true → ∀ {i : Nat} {d : PyData}, ds[i]? = some d → PyData.canLay0 d = true
  | x :: r, h, 0, d, hd => by simp only [PyData.canLayAll0, Bool.and_eq_true] at h; simp at hd; subst hd; exact h.1
  | x :: r, h, i + 1, d, hd => by simp only [PyData.canLayAll0, Bool.and_eq_true] at h; exact layAll_at h.2 (by simpa using hd)
theorem depthAll_at : ∀ {ds : List PyData} {i : Nat} {d : PyData}, ds[i]? = some d → PyData.depth d ≤ PyData.depthAll ds
  | x :: r, 0, d, hd => by simp at hd; subst hd; simp only [PyData.depthAll]; omega
  | x :: r, i + 1, d, hd => by
    have := depthAll_at (ds := r) (i := i) (d := d) (by simpa using hd)
    simp only [PyData.depthAll]
    omega
def kids : PyData → List PyData
  | .tuple ds => ds
  | .list ds => ds
  | _ => []
/-- data that may be compared -/
structure CmpD (d : PyData) : Prop where
  lay : PyData.canLay0 d = true
  dep : PyData.depth d ≤ 64
  nar : narrow d = true
theorem CmpD.shaped {d : PyData} (h : CmpD d) : SeqAt.shaped d = true := by
  unfold SeqAt.shaped
  rw [h.lay, Bool.true_and]
  exact decide_eq_true h.dep
theorem CmpD.kid {d e : PyData} (h : CmpD d) {i : Nat} (he : (kids d)[i]? = some e) : CmpD e ∧ PyData.depth e < PyData.depth d ∧ (kids d).length ≤ 100000 := by
  cases d with
  | tuple ds =>
    have h1 : PyData.canLayAll0 ds = true := by have := h.lay; simpa [PyData.canLay0] using this
    have h2 : PyData.depthAll ds + 1 ≤ 64 := by have := h.dep; simpa [PyData.depth] using this
    have h3 := h.nar
    simp only [narrow, Bool.and_eq_true, decide_eq_true_eq] at h3
    have he : ds[i]? = some e := he
    have q := depthAll_at he
    exact ⟨⟨layAll_at h1 he, by omega, narrows_at h3.2 he⟩, by simp only [PyData.depth]; omega, h3.1⟩
  | list ds =>
    have h1 : PyData.canLayAll0 ds = true := by have := h.lay; simpa [PyData.canLay0] using this
    have h2 : PyData.depthAll ds + 1 ≤ 64 := by have := h.dep; simpa [PyData.depth] using this
    have h3 := h.nar
    simp only [narrow, Bool.and_eq_true, decide_eq_true_eq] at h3
    have he : ds[i]? = some e := he
    have q := depthAll_at he
    exact ⟨⟨layAll_at h1 he, by omega, narrows_at h3.2 he⟩, by simp only [PyData.depth]; omega, h3.1⟩
  | _ => simp [kids] at he
theorem CmpD.len {d : PyData} (h : CmpD d) : (kids d).length ≤ 100000 := by
  cases d with
  | tuple ds =>
    have h3 := h.nar
    simp only [narrow, Bool.and_eq_true, decide_eq_true_eq] at h3
    exact h3.1
  | list ds =>
    have h3 := h.nar
    simp only [narrow, Bool.and_eq_true, decide_eq_true_eq] at h3
    exact h3.1
  | _ => exact Nat.zero_le _
structure TxSam (mg : Str → Option Value) : Prop where
  n_bool : mg "bool" = none
  n_int : mg "int" = none
  n_str : mg "str" = none
  n_tuple : mg "tuple" = none
  n_list : mg "list" = none
  n_isinstance : mg "isinstance" = none
  n_len : mg "len" = none
  n_all : mg "all" = none
  n_range : mg "range" = none
abbrev sSame : Stmt := topS 74
abbrev NSame : List Str := ["_law_actual", "_law_due", "_law_k"]
abbrev PSame : List Str := ["_law_actual", "_law_due"]
theorem scSame : FnScope NSame PSame (defScope sSame) := ⟨rfl, rfl, rfl, by decide +kernel, rfl, by decide +kernel, by decide +kernel⟩
def spSam (K : PySem.W.Frag) (n : Nat) : Sp := fun vs H Q _ => ∃ (x y : V) (d e : PyData), vs = [x, y] ∧ Dq K H x d ∧ Dq K H y e ∧ PyData.depth e < n ∧ CmpD d ∧ CmpD e ∧ ∀ (b : Bool) (H' : Hp), (d = e → b = true) → Same H H' → Q (.bl b) H'
section
variable {P : Program} {w : World} {K : PySem.W.Frag} {mg : Str → Option Value} {base : Heap}
theorem ok_Sam {f : Addr} {fd : FuncData} (F : Fun K "_law_same" "_law_same" sSame f fd) (T : TxSam mg) (m : mg "_law_same" = some (.ref f)) (kp : PySem.W.keepIn K (.ref f) = true) (b : Binds K fd PSame []) : ∀ n, FnOk P w K mg base CX0 n f fd PSame (spSam K n) := by
  intro n
  induction n with
  | zero => exact ⟨fun _ _ _ _ h => by obtain ⟨_, _, _, _, _, _, _, h, _⟩ := h; omega, fun _ _ _ _ _ _ _ _ _ _ _ _ _ h => by obtain ⟨_, _, _, _, _, _, _, h, _⟩ := h; omega⟩
  | succ n ih =>
    have GS : Has P w K mg base CX0 n "_law_same" PSame (spSam K n) := ⟨f, fd, ih, m, kp, b⟩
    refine F.ok scSame (fun vs H Q E h => ?_) (fun cdv A outer s H vs Q E hr h => ?_)
    · obtain ⟨x, y, d, e, rfl, _⟩ := h
      rfl
    · obtain ⟨x, y, d, e, rfl, hx, hy, hn, cd, ce, k⟩ := h
      refine ⟨_, (pss_cons (ps_if (pt_cmpR op_isN (pv 1) pe_non (nomark _))
  (pss_one (ps_ret (pe_cmpR op_isN (pv 0) pe_non (nomark _))))
  pss_nil)
  (pss_cons (ps_if (PW.pt (pw_or (pt_val (pe_callB call_isi (by rfl) T.n_isinstance bb_isinstance (pa_cons (pv 1) (pa_cons (pe_bltn (v := .ty "bool") (by rfl) T.n_bool bb_bool rfl) pa_nil)))) (pw_or1 (pt_val (pe_callB call_isi (by rfl) T.n_isinstance bb_isinstance (pa_cons (pv 0) (pa_cons (pe_bltn (v := .ty "bool") (by rfl) T.n_bool bb_bool rfl) pa_nil)))))))
  (pss_one (ps_ret (pe_and (pe_callB call_isi (by rfl) T.n_isinstance bb_isinstance (pa_cons (pv 1) (pa_cons (pe_bltn (v := .ty "bool") (by rfl) T.n_bool bb_bool rfl) pa_nil))) (pe_and (pe_callB call_isi (by rfl) T.n_isinstance bb_isinstance (pa_cons (pv 0) (pa_cons (pe_bltn (v := .ty "bool") (by rfl) T.n_bool bb_bool rfl) pa_nil))) (pe_one (pe_cmpR (op_eqD hr.units) (pv 0) (pv 1) (nomark _)))))))
  pss_nil)
  (pss_cons (ps_if (PW.pt (pw_or (pt_val (pe_callB call_isi (by rfl) T.n_isinstance bb_isinstance (pa_cons (pv 1) (pa_cons (pe_bltn (v := .ty "int") (by rfl) T.n_int bb_int rfl) pa_nil)))) (pw_or1 (pt_val (pe_callB call_isi (by rfl) T.n_isinstance bb_isinstance (pa_cons (pv 1) (pa_cons (pe_bltn (v := .ty "str") (by rfl) T.n_str bb_str rfl) pa_nil)))))))
  (pss_one (ps_ret (pe_and (pe_cmpR op_eq (pe_callB call_isi (by rfl) T.n_isinstance bb_isinstance (pa_cons (pv 0) (pa_cons (pe_bltn (v := .ty "int") (by rfl) T.n_int bb_int rfl) pa_nil))) (pe_callB call_isi (by rfl) T.n_isinstance bb_isinstance (pa_cons (pv 1) (pa_cons (pe_bltn (v := .ty "int") (by rfl) T.n_int bb_int rfl) pa_nil))) (nomark _)) (pe_one (pe_cmpR (op_eqD hr.units) (pv 0) (pv 1) (nomark _))))))
  pss_nil)
  (pss_cons (ps_if (PW.pt (pw_or (pt_cmpR op_ne (pe_callB call_isi (by rfl) T.n_isinstance bb_isinstance (pa_cons (pv 1) (pa_cons (pe_bltn (v := .ty "tuple") (by rfl) T.n_tuple bb_tuple rfl) pa_nil))) (pe_callB call_isi (by rfl) T.n_isinstance bb_isinstance (pa_cons (pv 0) (pa_cons (pe_bltn (v := .ty "tuple") (by rfl) T.n_tuple bb_tuple rfl) pa_nil))) (nomark _)) (pw_or1 (pt_cmpR op_ne (pe_callB call_isi (by rfl) T.n_isinstance bb_isinstance (pa_cons (pv 1) (pa_cons (pe_bltn (v := .ty "list") (by rfl) T.n_list bb_list rfl) pa_nil))) (pe_callB call_isi (by rfl) T.n_isinstance bb_isinstance (pa_cons (pv 0) (pa_cons (pe_bltn (v := .ty "list") (by rfl) T.n_list bb_list rfl) pa_nil))) (nomark _)))))
  (pss_one (ps_ret pe_bl))
  pss_nil)
  (pss_one (ps_ret (pe_and (pe_cmpR op_eq (pe_callB call_len_seq (by rfl) T.n_len bb_len (pa_cons (pv 0) pa_nil)) (pe_callB call_len_seq (by rfl) T.n_len bb_len (pa_cons (pv 1) pa_nil)) (nomark _)) (pe_one (pe_callB (cr_all rfl) (by rfl) T.n_all bb_all (pa_cons (pe_lc (own := [("_law_k", 2)]) (g := gName 2) (tt := tYes) rfl scSame.nd (pi_range1 (by rfl) T.n_range (pa_cons (pe_callB call_len_seq (by rfl) T.n_len bb_len (pa_cons (pv 1) pa_nil)) pa_nil)) (blkOk_by (own := [("_law_k", 2)]) (N := NSame) (sc := (defScope sSame)) (by decide +kernel)) (fun _ _ _ _ _ => (pg_name (i := 2) scSame.nd rfl (Or.inl rfl))) (fun _ _ _ _ _ => pts_nil) (fun _ _ _ _ _ => (pe_callH GS hr rfl pass0 (pa_cons (pe_ix (r := fun x y H Q => rIxT K x y H Q ∨ rIxL K x y H Q) (IxR.or ix_tup ix_list) (pv 0) (pv 2) (fun _ _ => rfl)) (pa_cons (pe_ix (r := fun x y H Q => rIxT K x y H Q ∨ rIxL K x y H Q) (IxR.or ix_tup ix_list) (pv 1) (pv 2) (fun _ _ => rfl)) pa_nil))))) pa_nil)))))))))), ?_⟩
      have eqv_of : d = e → PyData.eqv d e = true := fun z => by rw [z]; exact SeqAt.eqv_refl _ ce.lay
      refine ⟨_, rfl, rfl, _, rfl, ?_⟩
      by_cases hN : y = .non
      · refine iteS (decide_eq_true hN) ⟨_, rfl, rfl, k _ H (fun z => ?_) (Same.refl _)⟩
        subst hN
        cases hy
        subst z
        cases hx
        rfl
      refine iteE (decide_eq_false hN) ?_
      -- bool
      refine ⟨_, rfl, _, _, _, _, _, rfl, .ty _, dq_ty hy, dq_bo hy, _, rfl, ?_⟩
      by_cases hb : isBo e = true
      · refine iteS hb (iteT ?_)
        refine ⟨_, rfl, _, _, _, _, _, rfl, .ty _, dq_ty hy, dq_bo hy, _, rfl, iteS hb ⟨_, rfl, _, _, _, _, _, rfl, .ty _, dq_ty hx, dq_bo hx, _, rfl, ?_⟩⟩
        by_cases hb2 : isBo d = true
        · exact iteS hb2 ⟨_, rfl, _, rfl, d, e, hx.dp, hy.dp, cd.shaped, ce.shaped, k _ H eqv_of (Same.refl _)⟩
        · exact iteE (Bool.eq_false_iff.mpr hb2) (k _ H (fun z => absurd (z ▸ hb) hb2) (Same.refl _))
      have hb := Bool.eq_false_iff.mpr hb
      refine iteE hb ⟨_, rfl, _, _, _, _, _, rfl, .ty _, dq_ty hx, dq_bo hx, _, rfl, ?_⟩
      by_cases hb2 : isBo d = true
      · refine iteS hb2 ⟨_, rfl, _, _, _, _, _, rfl, .ty _, dq_ty hy, dq_bo hy, _, rfl, iteE hb (k _ H (fun z => ?_) (Same.refl _))⟩
        rw [z, hb] at hb2
        cases hb2
      have hb2 := Bool.eq_false_iff.mpr hb2
      refine iteE hb2 ?_
      -- int, str
      refine ⟨_, rfl, _, _, _, _, _, rfl, .ty _, dq_ty hy, dq_in hy, _, rfl, ?_⟩
      by_cases hi : isIn e = true
      · refine iteS hi (iteT ?_)
        refine ⟨_, rfl, _, _, _, _, _, rfl, .ty _, dq_ty hx, dq_in hx, _, rfl, _, _, _, _, _, rfl, .ty _, dq_ty hy, dq_in hy, rfl, _, rfl, ?_⟩
        by_cases hq : isIn d = isIn e
        · exact iteS (decide_eq_true (by rw [hq])) ⟨_, rfl, _, rfl, d, e, hx.dp, hy.dp, cd.shaped, ce.shaped, k _ H eqv_of (Same.refl _)⟩
        · exact iteE (decide_eq_false fun z => hq (V.bl.inj z)) (k _ H (fun z => absurd (by rw [z]) hq) (Same.refl _))
      have hi := Bool.eq_false_iff.mpr hi
      refine iteE hi ⟨_, rfl, _, _, _, _, _, rfl, .ty _, dq_ty hy, dq_st hy, _, rfl, ?_⟩
      by_cases hs : isSt e = true
      · refine iteS hs ?_
        refine ⟨_, rfl, _, _, _, _, _, rfl, .ty _, dq_ty hx, dq_in hx, _, rfl, _, _, _, _, _, rfl, .ty _, dq_ty hy, dq_in hy, rfl, _, rfl, ?_⟩
        by_cases hq : isIn d = isIn e
        · exact iteS (decide_eq_true (by rw [hq])) ⟨_, rfl, _, rfl, d, e, hx.dp, hy.dp, cd.shaped, ce.shaped, k _ H eqv_of (Same.refl _)⟩
        · exact iteE (decide_eq_false fun z => hq (V.bl.inj z)) (k _ H (fun z => absurd (by rw [z]) hq) (Same.refl _))
      have hs := Bool.eq_false_iff.mpr hs
      refine iteE hs ?_
      -- tuple, list
      refine ⟨_, rfl, _, _, _, _, _, rfl, .ty _, dq_ty hy, dq_tu hy, _, rfl, _, _, _, _, _, rfl, .ty _, dq_ty hx, dq_tu hx, rfl, _, rfl, ?_⟩
      by_cases ht : isTu e = isTu d
      case neg => exact iteS (by rw [decide_eq_false fun z => ht (V.bl.inj z)]; rfl) (iteT (k _ H (fun z => absurd (by rw [z]) ht) (Same.refl _)))
      refine iteE (by rw [decide_eq_true (by rw [ht])]; rfl) ⟨_, rfl, _, _, _, _, _, rfl, .ty _, dq_ty hy, dq_li hy, _, rfl, _, _, _, _, _, rfl, .ty _, dq_ty hx, dq_li hx, rfl, _, rfl, ?_⟩
      by_cases hl : isLi e = isLi d
      case neg => exact iteS (by rw [decide_eq_false fun z => hl (V.bl.inj z)]; rfl) (k _ H (fun z => absurd (by rw [z]) hl) (Same.refl _))
      refine iteE (by rw [decide_eq_true (by rw [hl])]; rfl) ?_
      obtain ⟨a, xs, b, ys, rfl, rfl, sx, sy, dx, dy, inj⟩ : ∃ (a : Addr) (xs : List V) (b : Addr) (ys : List V), x = .ref a ∧ y = .ref b ∧ (∀ H', Same H H' → SqT K H' a xs ∨ SqL K H' a xs) ∧ (∀ H', Same H H' → SqT K H' b ys ∨ SqL K H' b ys) ∧ DqAll K H xs (kids d) ∧ DqAll K H ys (kids e) ∧ (d = e → kids d = kids e) := by
        cases hy with
        | non => exact absurd rfl hN
        | bl _ => cases hb
        | int _ => cases hi
        | str _ => cases hs
        | tup q1 q2 =>
          cases hx with
          | tup q3 q4 => exact ⟨_, _, _, _, rfl, rfl, fun H' s => .inl (SqT.same s q3), fun H' s => .inl (SqT.same s q1), q4, q2, fun z => by rw [z]⟩
          | _ => cases ht
        | lst q1 q2 =>
          cases hx with
          | lst q3 q4 => exact ⟨_, _, _, _, rfl, rfl, fun H' s => .inr (SqL.of (s _ _ q3)), fun H' s => .inr (SqL.of (s _ _ q1)), q4, q2, fun z => by rw [z]⟩
          | _ => cases hl
      have lx := dx.len
      have ly := dy.len
      have l1 := cd.len
      have l2 := ce.len
      have flip : ∀ {H' : Hp} {a : Addr} {xs : List V}, SqT K H' a xs ∨ SqL K H' a xs → SqL K H' a xs ∨ SqT K H' a xs := fun h => h.symm
      refine ⟨_, rfl, a, xs, rfl, flip (sx H (Same.refl _)), _, rfl, b, ys, rfl, flip (sy H (Same.refl _)), rfl, _, rfl, ?_⟩
      by_cases hlen : xs.length = ys.length
      case neg => exact iteE (decide_eq_false fun z => hlen (by injection z with z; omega)) (k _ H (fun z => absurd (by rw [lx, ly, inj z]) hlen) (Same.refl _))
      refine iteS (decide_eq_true (by rw [hlen])) ?_
      refine ⟨_, rfl, b, ys, rfl, flip (sy H (Same.refl _)), ?_⟩
      have e62 : (2 : Int) ^ 62 = 4611686018427387904 := by decide
      refine ⟨((ys.length : Nat) : Int), rfl, by omega, by omega, fun D hD => lc_range (lo := 0) (n := ((ys.length : Nat) : Int).toNat) (fun i H' => Same H H' ∧ ∃ bs : List Bool, H' D = some (.lst (bs.map V.bl)) ∧ bs.length = i ∧ (d = e → ∀ c ∈ bs, c = true)) ⟨same_new hD, [], upd_same, rfl, fun _ _ z => (nomatch z)⟩ ?_ ?_⟩
      · rintro i H1 hi2 ⟨s1, bs, eD, lb, hbs⟩
        have hi2 : i < ys.length := by omega
        obtain ⟨x, hx2⟩ : ∃ x, xs[i]? = some x := ⟨_, List.getElem?_eq_getElem (by omega)⟩
        obtain ⟨y, hy2⟩ : ∃ y, ys[i]? = some y := ⟨_, List.getElem?_eq_getElem hi2⟩
        obtain ⟨dd, hdd, qx⟩ := DqAll.at dx hx2
        obtain ⟨ee, hee, qy⟩ := DqAll.at dy hy2
        have ca : ∀ {H' : Hp} {a : Addr} {xs : List V} {v : V} {Q : VK}, (SqT K H' a xs ∨ SqL K H' a xs) → atI xs (0 + (i : Int)) = some v → Q v H' → (rIxT K (.ref a) (.int (0 + (i : Int))) H' Q ∨ rIxL K (.ref a) (.int (0 + (i : Int))) H' Q) := fun h hv q => h.elim (fun h => .inl ⟨_, _, _, _, rfl, rfl, h, hv, q⟩) fun h => .inr ⟨_, _, _, _, rfl, rfl, h, hv, q⟩
        have kd := cd.kid hdd
        have ke := ce.kid hee
        refine ⟨wipe1 (by decide), _, rfl, _, rfl, ca (sx _ s1) (by rw [Int.zero_add]; exact atI_nat hx2) ⟨_, rfl, _, rfl, ca (sy _ s1) (by rw [Int.zero_add]; exact atI_nat hy2) ⟨x, y, dd, ee, rfl, qx.same s1, qy.same s1, by omega, kd.1, ke.1, fun c H2 hc s2 => ⟨_, s2 _ _ eD, smallX (by rw [List.length_map]; omega), fun c o z => ?_, bs ++ [c], ?_, by rw [List.length_append, lb]; rfl, fun z c2 hc2 => ?_⟩⟩⟩⟩
        · rw [upd_ne (ne_of_none z hD)]
          exact s2 _ _ (s1 _ _ z)
        · rw [upd_same, List.map_append]
          rfl
        · rcases List.mem_append.mp hc2 with w | w
          · exact hbs z c2 w
          · rw [List.mem_singleton.mp w]
            refine hc ?_
            rw [inj z, hee] at hdd
            exact (Option.some.inj hdd).symm
      · rintro H1 ⟨s1, bs, eD, lb, hbs⟩
        refine ⟨D, _, rfl, SqL.of eD, k _ H1 (fun z => ?_) s1⟩
        rw [List.all_eq_true]
        exact fun c hc => hbs z c hc
end

/-! ### all(list) where an error is handled -/
namespace TH
open PySem.W PyProof.Rows L2H HotX
section
variable {prog : Program} {w : World} {A : Around} {E : Value → Shared → Prop} {s : Shared}
theorem pyNext_list_end_hot {it l x1 : Addr} {i : Nat} {items : Array Value} {Q : Option Value → Shared → Prop} (hot : HotAt A x1 s.heap) (hit : s.heap.IsListIter it l i) (hl : s.heap.IsList l items) (hx : items[i]? = none) (hne : x1 ≠ it)
    (hQ : ∀ h', Heap.ExtBut it s.heap h' → Q none { s with heap := h' }) : wpAny (model prog w) A (pyNext (.ref it)) Q E s := by
  obtain ⟨o, ho, hc, hd⟩ := id hit
  obtain ⟨ol, hol, _, nl, hdl⟩ := hl
  obtain ⟨hh, o1, vs1, h1, d1, c1⟩ := hot
  unfold pyNext
  refine wpAny_bind (wpAny_attempt (wpAny_callSpecial?_slot (name := Str.ofString "__next__") hit.typeIs slot_listiter_next
    (wpAny_call_entry slot_listiter_next hit.typeIs entry_listiter_next ?_ (args_listiter_next _))))
  show wpAny _ _ (field (.ref it) 0 >>= _) _ _ s
  refine wpAny_bind (wpAny_field ho hd (x := .ref l) rfl ?_)
  show wpAny _ _ (if (Value.ref l == Value.none) = true then _ else _) _ _ s
  rw [if_neg (show ¬ ((Value.ref l == Value.none) = true) from Bool.false_ne_true)]
  show wpAny _ _ (field (.ref it) 1 >>= _) _ _ s
  refine wpAny_bind (wpAny_field ho hd (x := .int i 0) rfl ?_)
  show wpAny _ _ (seqItems? (.ref l) >>= _) _ _ s
  refine wpAny_bind (wpAny_seqItems hol hdl ?_)
  simp only [Int.toNat_natCast, hx]
  refine wpAny_bind (wpAny_rule (wpAny_bind (wpAny_setField ho hd (by simp) ?_)))
  show wpAny _ _ (newExc (.type "StopIteration") [] >>= _) _ _ _
  refine wpAny_bind ?_
  simp only [newExc, newTuple]
  refine wpAny_bind (wpAny_newObj_type ?_ (by size_fits))
  refine wpAny_bind (m := firstArgMember _ _) (wpAny_of_eq (a := Value.none) (by first | rfl | (simp only [firstArgMember]; rfl)) ?_)
  refine wpAny_newObj_type ?_ (by size_fits)
  have h1u := (Heap.get?_update_other s.heap (Obj.mapFields (·.setIfInBounds 0 Value.none)) (Ne.symm hne)).trans h1
  refine raiseNew_hot ⟨hh, o1, vs1, Heap.get?_push_of_some _ (Heap.get?_push_of_some _ h1u), d1, c1⟩ (Nat.ne_of_lt (Heap.lt_size (Heap.get?_push_of_some _ h1u))) (Heap.get?_push_size _ rfl) rfl (by first | (simp; done) | (simp; omega) | (simp only [Array.size_append]; simp; omega)) ?_
  refine wpAny_bind (wpAny_isInstance (T := "StopIteration") (b := true) ⟨_, Heap.get?_update_self _ (Heap.get?_push_size _ rfl) rfl, rfl⟩ isSubtype_stop ?_)
  refine wpAny_pure (hQ _ fun b o hb e => ?_)
  have eu := (Heap.get?_update_other s.heap (Obj.mapFields (·.setIfInBounds 0 Value.none)) (Ne.symm hb)).trans e
  rw [Heap.get?_update_other _ _ (Nat.ne_of_gt (Heap.lt_size (Heap.get?_push_of_some _ eu)))]
  exact Heap.get?_push_of_some _ (Heap.get?_push_of_some _ eu)
theorem walks_listH {x1 : Addr} {o1 : Obj} {vs1 : Array Value} (hh : A.handled = some (.ref x1)) (d1 : o1.data = .fields vs1) (c1 : vs1[2]? = some Value.none) (I ax : Addr) (hne : ax ≠ I) (hx1 : x1 ≠ I) (items : Array Value) :
    Walks prog w A I [I, ax, x1] [I] items.size (fun i v => items[i]? = some v) (fun i h => h.IsListIter I ax i ∧ h.IsList ax items ∧ h.get? x1 = some o1) where
  sub := fun b hb => by simp at hb; simp [hb]
  frame := fun _ _ _ st hk => ⟨st.1.at fun o e => hk I (by simp) o e, st.2.1.at fun o e => hk ax (by simp) o e, hk x1 (by simp) _ st.2.2⟩
  item := fun i s Q E hi st hQ => by
    refine wpAny_pyNext_list_item st.1 st.2.1 (x := items[i]) (by simp [hi]) fun h' hit' hs' => ?_
    exact hQ _ h' s.toks (by simp [hi]) ⟨hit', st.2.1.extBut hs'.extBut hne, hs'.extBut x1 _ hx1 st.2.2⟩ fun b o hb e => hs'.extBut b o (fun h => hb (by simp [h])) e
  done := fun s Q E st hQ => pyNext_list_end_hot ⟨hh, o1, vs1, st.2.2, d1, c1⟩ st.1 st.2.1 (by simp) hx1 fun h' he' => hQ h' s.toks fun b o hb e => he' b o (fun h => hb (by simp [h])) e
  self := fun _ _ _ _ st hQ => wpAny_pyIter_listiter st.1 hQ
end
theorem cr_allH {X : Cx} {p : Addr × Obj} (hot : Hot1 X.A p) (hp : p ∈ X.pn) : CallR X (.builtin "all") (rAll X.K) := by
  intro pins s σ H vs us Q I r h
  obtain ⟨a, bs, rfl, hs, q⟩ := h
  obtain ⟨its, rv, hl, _⟩ := I.list hs
  rw [Vals.ref1 r]
  have hb := rv.bls
  obtain ⟨hh, vs1, d1, c1⟩ := hot
  have P1 := (I.pin p (List.mem_append_left _ hp)).1
  refine call_all_walk (iter_any hl.isList fun s₂ e2 st hne => ?_)
  subst e2
  refine ⟨_, _, _, _, _, _, _, rfl, walks_listH (A := X.A.in1) (x1 := p.1) (o1 := p.2) hh d1 c1 _ a hne (Nat.ne_of_lt (Heap.lt_size P1)) its.toArray, ⟨st.1, st.2, Heap.get?_push_of_some _ P1⟩, truth_bools hb, fun h' tk hk => ?_⟩
  refine ⟨.bl _, H, I.kept fun b o eo => hk b o (fun hmem => ?_) (Heap.get?_push_of_some _ eo), ?_, q⟩
  · rcases List.mem_cons.mp hmem with e1 | hmem
    · exact absurd (e1 ▸ Heap.lt_size eo) (Nat.lt_irrefl _)
    · cases hmem
  · show Value.bool _ = Value.bool _
    rw [← L2.all_range, hb, List.size_toArray, List.length_map]
end TH

/-! ### _law_same where an error is handled -/
theorem unitsH {k : Nat} {A : Around} (r : L2H.RoomH k A) : A.units + 64 < cLine := by have := r.un; omega
section
open L2H
variable {P : Program} {w : World} {K : PySem.W.Frag} {mg : Str → Option Value} {base : Heap}
theorem ok_SamH {f : Addr} {fd : FuncData} (F : Fun K "_law_same" "_law_same" sSame f fd) (T : TxSam mg) (m : mg "_law_same" = some (.ref f)) (kp : PySem.W.keepIn K (.ref f) = true) (b : Binds K fd PSame []) : ∀ n, FnP P w K mg base n f fd PSame (fun _ => spSam K n) := by
  intro n
  induction n with
  | zero => exact ⟨fun _ _ _ _ _ h => by obtain ⟨_, _, _, _, _, _, _, h, _⟩ := h; omega, fun _ _ _ _ _ _ _ _ _ _ _ _ _ _ _ h => by obtain ⟨_, _, _, _, _, _, _, h, _⟩ := h; omega⟩
  | succ n ih =>
    refine Fun.okP F scSame (fun p vs H Q E h => ?_) (fun cdv A outer s H vs Q E p hot hr h => ?_)
    · obtain ⟨x, y, d, e, rfl, _⟩ := h
      rfl
    · obtain ⟨x, y, d, e, rfl, hx, hy, hn, cd, ce, k⟩ := h
      refine ⟨_, (pss_cons (ps_if (pt_cmpR op_isN (pv 1) pe_non (nomark _))
  (pss_one (ps_ret (pe_cmpR op_isN (pv 0) pe_non (nomark _))))
  pss_nil)
  (pss_cons (ps_if (PW.pt (pw_or (pt_val (pe_callB call_isi (by rfl) T.n_isinstance bb_isinstance (pa_cons (pv 1) (pa_cons (pe_bltn (v := .ty "bool") (by rfl) T.n_bool bb_bool rfl) pa_nil)))) (pw_or1 (pt_val (pe_callB call_isi (by rfl) T.n_isinstance bb_isinstance (pa_cons (pv 0) (pa_cons (pe_bltn (v := .ty "bool") (by rfl) T.n_bool bb_bool rfl) pa_nil)))))))
  (pss_one (ps_ret (pe_and (pe_callB call_isi (by rfl) T.n_isinstance bb_isinstance (pa_cons (pv 1) (pa_cons (pe_bltn (v := .ty "bool") (by rfl) T.n_bool bb_bool rfl) pa_nil))) (pe_and (pe_callB call_isi (by rfl) T.n_isinstance bb_isinstance (pa_cons (pv 0) (pa_cons (pe_bltn (v := .ty "bool") (by rfl) T.n_bool bb_bool rfl) pa_nil))) (pe_one (pe_cmpR (op_eqD (unitsH hr)) (pv 0) (pv 1) (nomark _)))))))
  pss_nil)
  (pss_cons (ps_if (PW.pt (pw_or (pt_val (pe_callB call_isi (by rfl) T.n_isinstance bb_isinstance (pa_cons (pv 1) (pa_cons (pe_bltn (v := .ty "int") (by rfl) T.n_int bb_int rfl) pa_nil)))) (pw_or1 (pt_val (pe_callB call_isi (by rfl) T.n_isinstance bb_isinstance (pa_cons (pv 1) (pa_cons (pe_bltn (v := .ty "str") (by rfl) T.n_str bb_str rfl) pa_nil)))))))
  (pss_one (ps_ret (pe_and (pe_cmpR op_eq (pe_callB call_isi (by rfl) T.n_isinstance bb_isinstance (pa_cons (pv 0) (pa_cons (pe_bltn (v := .ty "int") (by rfl) T.n_int bb_int rfl) pa_nil))) (pe_callB call_isi (by rfl) T.n_isinstance bb_isinstance (pa_cons (pv 1) (pa_cons (pe_bltn (v := .ty "int") (by rfl) T.n_int bb_int rfl) pa_nil))) (nomark _)) (pe_one (pe_cmpR (op_eqD (unitsH hr)) (pv 0) (pv 1) (nomark _))))))
  pss_nil)
  (pss_cons (ps_if (PW.pt (pw_or (pt_cmpR op_ne (pe_callB call_isi (by rfl) T.n_isinstance bb_isinstance (pa_cons (pv 1) (pa_cons (pe_bltn (v := .ty "tuple") (by rfl) T.n_tuple bb_tuple rfl) pa_nil))) (pe_callB call_isi (by rfl) T.n_isinstance bb_isinstance (pa_cons (pv 0) (pa_cons (pe_bltn (v := .ty "tuple") (by rfl) T.n_tuple bb_tuple rfl) pa_nil))) (nomark _)) (pw_or1 (pt_cmpR op_ne (pe_callB call_isi (by rfl) T.n_isinstance bb_isinstance (pa_cons (pv 1) (pa_cons (pe_bltn (v := .ty "list") (by rfl) T.n_list bb_list rfl) pa_nil))) (pe_callB call_isi (by rfl) T.n_isinstance bb_isinstance (pa_cons (pv 0) (pa_cons (pe_bltn (v := .ty "list") (by rfl) T.n_list bb_list rfl) pa_nil))) (nomark _)))))
  (pss_one (ps_ret pe_bl))
  pss_nil)
  (pss_one (ps_ret (pe_and (pe_cmpR op_eq (pe_callB call_len_seq (by rfl) T.n_len bb_len (pa_cons (pv 0) pa_nil)) (pe_callB call_len_seq (by rfl) T.n_len bb_len (pa_cons (pv 1) pa_nil)) (nomark _)) (pe_one (pe_callB (TH.cr_allH hot List.mem_cons_self) (by rfl) T.n_all bb_all (pa_cons (pe_lcP (own := [("_law_k", 2)]) (g := gName 2) hot List.mem_cons_self scSame.nd (L2H.pi_range1H (by rfl) T.n_range (pa_cons (pe_callB call_len_seq (by rfl) T.n_len bb_len (pa_cons (pv 1) pa_nil)) pa_nil)) (blkOk_by (own := [("_law_k", 2)]) (N := NSame) (sc := (defScope sSame)) (by decide +kernel)) (fun _ _ _ _ _ => (pg_name (i := 2) scSame.nd rfl (Or.inl rfl))) (fun _ _ _ _ _ => (pe_callP ih hr hot List.mem_cons_self rfl m kp b (pa_cons (pe_ix (r := fun x y H Q => rIxT K x y H Q ∨ rIxL K x y H Q) (IxR.or ix_tup ix_list) (pv 0) (pv 2) (fun _ _ => rfl)) (pa_cons (pe_ix (r := fun x y H Q => rIxT K x y H Q ∨ rIxL K x y H Q) (IxR.or ix_tup ix_list) (pv 1) (pv 2) (fun _ _ => rfl)) pa_nil))))) pa_nil)))))))))), ?_⟩
      have eqv_of : d = e → PyData.eqv d e = true := fun z => by rw [z]; exact SeqAt.eqv_refl _ ce.lay
      refine ⟨_, rfl, rfl, _, rfl, ?_⟩
      by_cases hN : y = .non
      · refine iteS (decide_eq_true hN) ⟨_, rfl, rfl, k _ H (fun z => ?_) (Same.refl _)⟩
        subst hN
        cases hy
        subst z
        cases hx
        rfl
      refine iteE (decide_eq_false hN) ?_
      -- bool
      refine ⟨_, rfl, _, _, _, _, _, rfl, .ty _, dq_ty hy, dq_bo hy, _, rfl, ?_⟩
      by_cases hb : isBo e = true
      · refine iteS hb (iteT ?_)
        refine ⟨_, rfl, _, _, _, _, _, rfl, .ty _, dq_ty hy, dq_bo hy, _, rfl, iteS hb ⟨_, rfl, _, _, _, _, _, rfl, .ty _, dq_ty hx, dq_bo hx, _, rfl, ?_⟩⟩
        by_cases hb2 : isBo d = true
        · exact iteS hb2 ⟨_, rfl, _, rfl, d, e, hx.dp, hy.dp, cd.shaped, ce.shaped, k _ H eqv_of (Same.refl _)⟩
        · exact iteE (Bool.eq_false_iff.mpr hb2) (k _ H (fun z => absurd (z ▸ hb) hb2) (Same.refl _))
      have hb := Bool.eq_false_iff.mpr hb
      refine iteE hb ⟨_, rfl, _, _, _, _, _, rfl, .ty _, dq_ty hx, dq_bo hx, _, rfl, ?_⟩
      by_cases hb2 : isBo d = true
      · refine iteS hb2 ⟨_, rfl, _, _, _, _, _, rfl, .ty _, dq_ty hy, dq_bo hy, _, rfl, iteE hb (k _ H (fun z => ?_) (Same.refl _))⟩
        rw [z, hb] at hb2
        cases hb2
      have hb2 := Bool.eq_false_iff.mpr hb2
      refine iteE hb2 ?_
      -- int, str
      refine ⟨_, rfl, _, _, _, _, _, rfl, .ty _, dq_ty hy, dq_in hy, _, rfl, ?_⟩
      by_cases hi : isIn e = true
      · refine iteS hi (iteT ?_)
        refine ⟨_, rfl, _, _, _, _, _, rfl, .ty _, dq_ty hx, dq_in hx, _, rfl, _, _, _, _, _, rfl, .ty _, dq_ty hy, dq_in hy, rfl, _, rfl, ?_⟩
        by_cases hq : isIn d = isIn e
        · exact iteS (decide_eq_true (by rw [hq])) ⟨_, rfl, _, rfl, d, e, hx.dp, hy.dp, cd.shaped, ce.shaped, k _ H eqv_of (Same.refl _)⟩
        · exact iteE (decide_eq_false fun z => hq (V.bl.inj z)) (k _ H (fun z => absurd (by rw [z]) hq) (Same.refl _))
      have hi := Bool.eq_false_iff.mpr hi
      refine iteE hi ⟨_, rfl, _, _, _, _, _, rfl, .ty _, dq_ty hy, dq_st hy, _, rfl, ?_⟩
      by_cases hs : isSt e = true
      · refine iteS hs ?_
        refine ⟨_, rfl, _, _, _, _, _, rfl, .ty _, dq_ty hx, dq_in hx, _, rfl, _, _, _, _, _, rfl, .ty _, dq_ty hy, dq_in hy, rfl, _, rfl, ?_⟩
        by_cases hq : isIn d = isIn e
        · exact iteS (decide_eq_true (by rw [hq])) ⟨_, rfl, _, rfl, d, e, hx.dp, hy.dp, cd.shaped, ce.shaped, k _ H eqv_of (Same.refl _)⟩
        · exact iteE (decide_eq_false fun z => hq (V.bl.inj z)) (k _ H (fun z => absurd (by rw [z]) hq) (Same.refl _))
      have hs := Bool.eq_false_iff.mpr hs
      refine iteE hs ?_
      -- tuple, list
      refine ⟨_, rfl, _, _, _, _, _, rfl, .ty _, dq_ty hy, dq_tu hy, _, rfl, _, _, _, _, _, rfl, .ty _, dq_ty hx, dq_tu hx, rfl, _, rfl, ?_⟩
      by_cases ht : isTu e = isTu d
      case neg => exact iteS (by rw [decide_eq_false fun z => ht (V.bl.inj z)]; rfl) (iteT (k _ H (fun z => absurd (by rw [z]) ht) (Same.refl _)))
      refine iteE (by rw [decide_eq_true (by rw [ht])]; rfl) ⟨_, rfl, _, _, _, _, _, rfl, .ty _, dq_ty hy, dq_li hy, _, rfl, _, _, _, _, _, rfl, .ty _, dq_ty hx, dq_li hx, rfl, _, rfl, ?_⟩
      by_cases hl : isLi e = isLi d
      case neg => exact iteS (by rw [decide_eq_false fun z => hl (V.bl.inj z)]; rfl) (k _ H (fun z => absurd (by rw [z]) hl) (Same.refl _))
      refine iteE (by rw [decide_eq_true (by rw [hl])]; rfl) ?_
      obtain ⟨a, xs, b, ys, rfl, rfl, sx, sy, dx, dy, inj⟩ : ∃ (a : Addr) (xs : List V) (b : Addr) (ys : List V), x = .ref a ∧ y = .ref b ∧ (∀ H', Same H H' → SqT K H' a xs ∨ SqL K H' a xs) ∧ (∀ H', Same H H' → SqT K H' b ys ∨ SqL K H' b ys) ∧ DqAll K H xs (kids d) ∧ DqAll K H ys (kids e) ∧ (d = e → kids d = kids e) := by
        cases hy with
        | non => exact absurd rfl hN
        | bl _ => cases hb
        | int _ => cases hi
        | str _ => cases hs
        | tup q1 q2 =>
          cases hx with
          | tup q3 q4 => exact ⟨_, _, _, _, rfl, rfl, fun H' s => .inl (SqT.same s q3), fun H' s => .inl (SqT.same s q1), q4, q2, fun z => by rw [z]⟩
          | _ => cases ht
        | lst q1 q2 =>
          cases hx with
          | lst q3 q4 => exact ⟨_, _, _, _, rfl, rfl, fun H' s => .inr (SqL.of (s _ _ q3)), fun H' s => .inr (SqL.of (s _ _ q1)), q4, q2, fun z => by rw [z]⟩
          | _ => cases hl
      have lx := dx.len
      have ly := dy.len
      have l1 := cd.len
      have l2 := ce.len
      have flip : ∀ {H' : Hp} {a : Addr} {xs : List V}, SqT K H' a xs ∨ SqL K H' a xs → SqL K H' a xs ∨ SqT K H' a xs := fun h => h.symm
      refine ⟨_, rfl, a, xs, rfl, flip (sx H (Same.refl _)), _, rfl, b, ys, rfl, flip (sy H (Same.refl _)), rfl, _, rfl, ?_⟩
      by_cases hlen : xs.length = ys.length
      case neg => exact iteE (decide_eq_false fun z => hlen (by injection z with z; omega)) (k _ H (fun z => absurd (by rw [lx, ly, inj z]) hlen) (Same.refl _))
      refine iteS (decide_eq_true (by rw [hlen])) ?_
      refine ⟨_, rfl, b, ys, rfl, flip (sy H (Same.refl _)), ?_⟩
      have e62 : (2 : Int) ^ 62 = 4611686018427387904 := by decide
      refine ⟨((ys.length : Nat) : Int), rfl, by omega, by omega, fun D hD => lc_range (lo := 0) (n := ((ys.length : Nat) : Int).toNat) (fun i H' => Same H H' ∧ ∃ bs : List Bool, H' D = some (.lst (bs.map V.bl)) ∧ bs.length = i ∧ (d = e → ∀ c ∈ bs, c = true)) ⟨same_new hD, [], upd_same, rfl, fun _ _ z => (nomatch z)⟩ ?_ ?_⟩
      · rintro i H1 hi2 ⟨s1, bs, eD, lb, hbs⟩
        have hi2 : i < ys.length := by omega
        obtain ⟨x, hx2⟩ : ∃ x, xs[i]? = some x := ⟨_, List.getElem?_eq_getElem (by omega)⟩
        obtain ⟨y, hy2⟩ : ∃ y, ys[i]? = some y := ⟨_, List.getElem?_eq_getElem hi2⟩
        obtain ⟨dd, hdd, qx⟩ := DqAll.at dx hx2
        obtain ⟨ee, hee, qy⟩ := DqAll.at dy hy2
        have ca : ∀ {H' : Hp} {a : Addr} {xs : List V} {v : V} {Q : VK}, (SqT K H' a xs ∨ SqL K H' a xs) → atI xs (0 + (i : Int)) = some v → Q v H' → (rIxT K (.ref a) (.int (0 + (i : Int))) H' Q ∨ rIxL K (.ref a) (.int (0 + (i : Int))) H' Q) := fun h hv q => h.elim (fun h => .inl ⟨_, _, _, _, rfl, rfl, h, hv, q⟩) fun h => .inr ⟨_, _, _, _, rfl, rfl, h, hv, q⟩
        have kd := cd.kid hdd
        have ke := ce.kid hee
        refine ⟨wipe1 (by decide), _, rfl, _, rfl, ca (sx _ s1) (by rw [Int.zero_add]; exact atI_nat hx2) ⟨_, rfl, _, rfl, ca (sy _ s1) (by rw [Int.zero_add]; exact atI_nat hy2) ⟨x, y, dd, ee, rfl, qx.same s1, qy.same s1, by omega, kd.1, ke.1, fun c H2 hc s2 => ⟨_, s2 _ _ eD, smallX (by rw [List.length_map]; omega), fun c o z => ?_, bs ++ [c], ?_, by rw [List.length_append, lb]; rfl, fun z c2 hc2 => ?_⟩⟩⟩⟩
        · rw [upd_ne (ne_of_none z hD)]
          exact s2 _ _ (s1 _ _ z)
        · rw [upd_same, List.map_append]
          rfl
        · rcases List.mem_append.mp hc2 with w | w
          · exact hbs z c2 w
          · rw [List.mem_singleton.mp w]
            refine hc ?_
            rw [inj z, hee] at hdd
            exact (Option.some.inj hdd).symm
      · rintro H1 ⟨s1, bs, eD, lb, hbs⟩
        refine ⟨D, _, rfl, SqL.of eD, k _ H1 (fun z => ?_) s1⟩
        rw [List.all_eq_true]
        exact fun c hc => hbs z c hc
end

/-! ### k08: bounds of the drawn tree -/
def Go (z : Str) : Prop := PyData.strOk z = true ∧ z.length ≤ 100
theorem bd_str {z : Str} (h : Go z) : bdD (.str z) = true := by
  show (PyData.strOk z && decide (z.length ≤ 100)) = true
  rw [h.1, decide_eq_true h.2]
  rfl
theorem bd_int {i : Int} (h : i.natAbs ≤ 100) : bdD (.int i) = true := decide_eq_true h
theorem dA_le {n : Nat} : ∀ {l : List PyData}, (∀ d ∈ l, d.depth ≤ n) → PyData.depthAll l ≤ n
  | [], _ => by simp [PyData.depthAll]
  | x :: r, h => by
    have := dA_le (l := r) fun d hd => h d (List.mem_cons_of_mem _ hd)
    have := h x List.mem_cons_self
    simp only [PyData.depthAll]
    omega
theorem ndL_le {m : Nat} : ∀ {l : List PyData}, (∀ d ∈ l, ndD d ≤ m) → ndD.ndL l ≤ m * l.length
  | [], _ => Nat.zero_le _
  | x :: r, h => by
    have := ndL_le (l := r) fun d hd => h d (List.mem_cons_of_mem _ hd)
    have := h x List.mem_cons_self
    show ndD x + ndD.ndL r ≤ m * (r.length + 1)
    rw [Nat.mul_succ]
    omega
/-- bounds, all three -/
structure B3 (n m : Nat) (d : PyData) : Prop where
  b : bdD d = true
  h : d.depth ≤ n
  c : ndD d ≤ m
theorem B3.mono {n m n' m' : Nat} {d : PyData} (x : B3 n m d) (h1 : n ≤ n') (h2 : m ≤ m') : B3 n' m' d := ⟨x.b, Nat.le_trans x.h h1, Nat.le_trans x.c h2⟩
theorem B3.str {z : Str} (h : Go z) : B3 0 1 (.str z) := ⟨bd_str h, by simp [PyData.depth], Nat.le_refl _⟩
theorem B3.int {i : Int} (h : i.natAbs ≤ 100) : B3 0 1 (.int i) := ⟨bd_int h, by simp [PyData.depth], Nat.le_refl _⟩
theorem B3.bool (b : Bool) : B3 0 1 (.bool b) := ⟨rfl, by simp [PyData.depth], Nat.le_refl _⟩
theorem B3.none : B3 0 1 .none := ⟨rfl, by simp [PyData.depth], Nat.le_refl _⟩
/-- a tuple's items -/
structure L3 (n m : Nat) (l : List PyData) : Prop where
  b : bdD.bdL l = true
  h : PyData.depthAll l ≤ n
  c : ndD.ndL l ≤ m
theorem L3.mono {n m n' m' : Nat} {d : List PyData} (x : L3 n m d) (h1 : n ≤ n') (h2 : m ≤ m') : L3 n' m' d := ⟨x.b, Nat.le_trans x.h h1, Nat.le_trans x.c h2⟩
theorem L3.nil : L3 0 0 [] := ⟨rfl, by simp [PyData.depthAll], Nat.le_refl _⟩
theorem L3.cons {n n' m m' : Nat} {d : PyData} {l : List PyData} (x : B3 n m d) (y : L3 n' m' l) : L3 (max n n') (m + m') (d :: l) := by
  refine ⟨?_, ?_, ?_⟩
  · show (bdD d && bdD.bdL l) = true
    rw [x.b, y.b]
    rfl
  · have := x.h
    have := y.h
    simp only [PyData.depthAll]
    omega
  · have := x.c
    have := y.c
    show ndD d + ndD.ndL l ≤ _
    omega
theorem L3.tup {n m : Nat} {l : List PyData} (x : L3 n m l) : B3 (n + 1) (m + 1) (.tuple l) := by
  refine ⟨x.b, ?_, by show 1 + ndD.ndL l ≤ _; have := x.c; omega⟩
  have := x.h
  simp only [PyData.depth]
  omega
theorem L3.map {α : Type} {f : α → PyData} {n m : Nat} {l : List α} (h : ∀ x ∈ l, B3 n m (f x)) : L3 n (m * l.length) (l.map f) := by
  refine ⟨bdL_of fun d hd => ?_, dA_le fun d hd => ?_, ?_⟩
  · obtain ⟨x, hx, rfl⟩ := List.mem_map.mp hd
    exact (h x hx).b
  · obtain ⟨x, hx, rfl⟩ := List.mem_map.mp hd
    exact (h x hx).h
  · have := ndL_le (m := m) (l := l.map f) fun d hd => by
      obtain ⟨x, hx, rfl⟩ := List.mem_map.mp hd
      exact (h x hx).c
    rwa [List.length_map] at this
structure Env8 (own kinds : List Str) (heads : List Head) : Prop where
  o : own.length ≤ 8
  go : ∀ x ∈ own, Go x
  gk : ∀ x ∈ kinds, Go x
  gh : ∀ h ∈ heads, Go h.1 ∧ h.2.length ≤ 2
section
variable {own kinds : List Str} {heads : List Head}
theorem b3_ex (E : Env8 own kinds heads) {e : Ex} (h : EX own e) : B3 3 27 (exD e) := by
  have l := h.ln
  have o := E.o
  have ht : L3 1 (3 * e.ts.length) (e.ts.map fun p => PyData.tuple [.str p.1, .int p.2]) := L3.map fun p hp => by
    have := h.nm p hp
    exact ((L3.cons (B3.str (E.go _ this.1)) (L3.cons (B3.int (by omega)) L3.nil)).tup).mono (by decide) (by decide)
  have hc := h.c
  exact ((L3.cons (B3.int (i := e.c) (by omega)) (L3.cons ht.tup L3.nil)).tup).mono (by omega) (by omega)
theorem b3_arg (E : Env8 own kinds heads) {a : Arg} (h : WA own a) : B3 4 29 (argD a) := by
  cases a with
  | place n => exact ((L3.cons (B3.str (z := "place") ⟨by decide +kernel, by decide +kernel⟩) (L3.cons (B3.str (E.go _ h)) L3.nil)).tup).mono (by decide) (by decide)
  | value e => exact ((L3.cons (B3.str (z := "value") ⟨by decide +kernel, by decide +kernel⟩) (L3.cons (b3_ex E h) L3.nil)).tup).mono (by decide) (by decide)
theorem b3_args (E : Env8 own kinds heads) {c : Cal} (h : WC own heads c) : Go c.1 ∧ B3 5 59 (.tuple (c.2.map argD)) := by
  obtain ⟨hd, hm, e1, e2⟩ := h.hd
  have g := E.gh hd hm
  have l : c.2.length ≤ 2 := by
    have := congrArg List.length e2
    rw [List.length_map, List.length_map] at this
    omega
  exact ⟨e1 ▸ g.1, ((L3.map fun a ha => b3_arg E (h.as a ha)).tup).mono (by decide) (by omega)⟩
theorem b3_cal (E : Env8 own kinds heads) {c : Cal} (h : WC own heads c) : B3 6 61 (calD c) := by
  obtain ⟨g, b⟩ := b3_args E h
  exact ((L3.cons (B3.str g) (L3.cons b L3.nil)).tup).mono (by decide) (by decide)
theorem b3_nm {ks : List Str} {n : Nat} (h : ks.length ≤ n) (g : ∀ k ∈ ks, Go k) : B3 1 (n + 1) (nmD ks) := ((L3.map fun k hk => B3.str (g k hk)).tup).mono (by decide) (by omega)
theorem b3_opt {o : Option Str} (g : ∀ x, o = some x → Go x) : B3 0 1 (optD o) := by
  cases o with
  | none => exact B3.none
  | some x => exact B3.str (g x rfl)
theorem b3w (z : Str) (h : PyData.strOk z = true := by decide +kernel) (h2 : z.length ≤ 100 := by decide +kernel) : B3 0 1 (.str z) := B3.str ⟨h, h2⟩
mutual
theorem b3_S (E : Env8 own kinds heads) : ∀ (last : Bool) (s : St), wS own kinds heads last s → B3 (4 * dpS s + 7) (150 * (1 + szS s)) (stD s)
  | l, .set t e, h => by
    have h : t ∈ own ∧ EX own e := h
    exact ((L3.cons (b3w "set") (L3.cons (B3.str (E.go _ h.1)) (L3.cons (b3_ex E h.2) L3.nil))).tup).mono (by omega) (by omega)
  | l, .input t, h => ((L3.cons (b3w "input") (L3.cons (B3.str (E.go _ (show t ∈ own from h))) L3.nil)).tup).mono (by omega) (by omega)
  | l, .raise k, h => ((L3.cons (b3w "raise") (L3.cons (B3.str (E.gk _ (show k ∈ kinds from h))) L3.nil)).tup).mono (by omega) (by omega)
  | l, .risk ks, h => by
    have h : ks ≠ [] ∧ ks.length ≤ 2 ∧ ∀ k ∈ ks, k ∈ kinds := h
    exact ((L3.cons (b3w "risk") (L3.cons (b3_nm h.2.1 fun k hk => E.gk _ (h.2.2 k hk)) L3.nil)).tup).mono (by omega) (by omega)
  | l, .call t f as, h => by
    have h : (∀ x, t = some x → x ∈ own) ∧ WC own heads (f, as) := h
    obtain ⟨g, b⟩ := b3_args E h.2
    exact ((L3.cons (b3w "call") (L3.cons (b3_opt fun x hx => E.go _ (h.1 x hx)) (L3.cons (B3.str g) (L3.cons b L3.nil)))).tup).mono (by omega) (by omega)
  | l, .ret e, h => by
    have h : l = false ∧ EX own e := h
    exact ((L3.cons (b3w "return") (L3.cons (b3_ex E h.2) L3.nil)).tup).mono (by omega) (by omega)
  | l, .ite a b, h => by
    have h : wL own kinds heads l a ∧ wL own kinds heads l b := h
    have ha := (b3_L E l a h.1).tup
    have hb := (b3_L E l b h.2).tup
    have e1 := dpB_eq a
    have e2 := dpB_eq b
    have d : dpS (.ite a b) = max (dpB a) (dpB b) := rfl
    have z : szS (.ite a b) = szB a + szB b := rfl
    exact ((L3.cons (b3w "if") (L3.cons ha (L3.cons hb L3.nil))).tup).mono (by omega) (by omega)
  | l, .whl b, h => by
    have h : l = false ∧ wL own kinds heads false b := h
    have hb := (b3_L E false b h.2).tup
    have e2 := dpB_eq b
    have d : dpS (.whl b) = dpB b := rfl
    have z : szS (.whl b) = szB b := rfl
    exact ((L3.cons (b3w "while") (L3.cons hb L3.nil)).tup).mono (by omega) (by omega)
  | l, .try_ b hs f, h => by
    have h : l = false ∧ hs.length ≤ 2 ∧ wL own kinds heads false b ∧ wHs own kinds heads hs ∧ wL own kinds heads true f := h
    have hb := (b3_L E false b h.2.2.1).tup
    have hh := (b3_Hs E hs h.2.2.2.1).tup
    have hf := (b3_L E true f h.2.2.2.2).tup
    have lh := h.2.1
    have e1 := dpB_eq b
    have e2 := dpB_eq f
    have d : dpS (.try_ b hs f) = max (dpB b) (max (dpHs hs) (dpB f)) := rfl
    have z : szS (.try_ b hs f) = szB b + (szHs hs + szB f) := rfl
    exact ((L3.cons (b3w "try") (L3.cons hb (L3.cons hh (L3.cons hf L3.nil)))).tup).mono (by omega) (by omega)
  | l, .undo ns b, h => by
    have h : l = false ∧ (ns ≠ [] ∧ ns.length ≤ 3 ∧ ∀ n ∈ ns, n ∈ own) ∧ wL own kinds heads false b := h
    have hb := (b3_L E false b h.2.2).tup
    have e2 := dpB_eq b
    have d : dpS (.undo ns b) = dpB b := rfl
    have z : szS (.undo ns b) = szB b := rfl
    exact ((L3.cons (b3w "undo") (L3.cons (b3_nm h.2.1.2.1 fun k hk => E.go _ (h.2.1.2.2 k hk)) (L3.cons hb L3.nil))).tup).mono (by omega) (by omega)
  | l, .with_ e l2 ks b, h => by
    have h : l = false ∧ WC own heads e ∧ WC own heads l2 ∧ (ks.length ≤ 2 ∧ ∀ k ∈ ks, k ∈ kinds) ∧ wL own kinds heads false b := h
    have hb := (b3_L E false b h.2.2.2.2).tup
    have e2 := dpB_eq b
    have d : dpS (.with_ e l2 ks b) = dpB b := rfl
    have z : szS (.with_ e l2 ks b) = szB b := rfl
    exact ((L3.cons (b3w "with") (L3.cons (b3_cal E h.2.1) (L3.cons (b3_cal E h.2.2.1) (L3.cons (b3_nm h.2.2.2.1.1 fun k hk => E.gk _ (h.2.2.2.1.2 k hk)) (L3.cons hb L3.nil))))).tup).mono (by omega) (by omega)
theorem b3_L (E : Env8 own kinds heads) : ∀ (last : Bool) (b : List St), wL own kinds heads last b → L3 (4 * dpIn b + 7) (150 * szB b) (stsD b)
  | l, [], _ => L3.nil.mono (Nat.zero_le _) (Nat.zero_le _)
  | l, s :: r, h => by
    have h : wS own kinds heads l s ∧ wL own kinds heads l r := h
    have h1 := b3_S E l s h.1
    have h2 := b3_L E l r h.2
    have d : dpIn (s :: r) = max (dpS s) (dpIn r) := rfl
    have z : szB (s :: r) = 1 + szS s + szB r := rfl
    exact (L3.cons h1 h2).mono (by omega) (by omega)
theorem b3_Hs (E : Env8 own kinds heads) : ∀ (hs : List Hd), wHs own kinds heads hs → L3 (4 * dpHs hs + 5) (150 * szHs hs + 10 * hs.length) (hdsD hs)
  | [], _ => L3.nil.mono (Nat.zero_le _) (Nat.zero_le _)
  | .mk ks b :: r, h => by
    have h : ((ks ≠ [] ∧ ks.length ≤ 2 ∧ ∀ k ∈ ks, k ∈ kinds) ∧ wL own kinds heads false b) ∧ wHs own kinds heads r := h
    have h1 := (b3_L E false b h.1.2).tup
    have h2 := b3_Hs E r h.2
    have e2 := dpB_eq b
    have hh : B3 (4 * dpB b + 5) (150 * szB b + 10) (hdD (.mk ks b)) := ((L3.cons (b3_nm h.1.1.2.1 fun k hk => E.gk _ (h.1.1.2.2 k hk)) (L3.cons h1 L3.nil)).tup).mono (by omega) (by omega)
    have d : dpHs (.mk ks b :: r) = max (dpB b) (dpHs r) := rfl
    have z : szHs (.mk ks b :: r) = szB b + szHs r := rfl
    have z2 : (Hd.mk ks b :: r).length = r.length + 1 := rfl
    exact (L3.cons hh h2).mono (by omega) (by omega)
end
end
theorem Drawn_b3 {t : Tr} (D : DrawnT t) : B3 27 6000 (trD t) := by
  obtain ⟨ws, nok, lws, nN, nK, hN, hK1, hK2, en, ek, kp, lkp, lf1, lf2, efn, sz, w8, w9, w10, h8, h9, h10, hf⟩ := D.ex
  have go : ∀ x ∈ ws, Go x := fun x hx => ⟨strOk_name (nok.name x hx), by have := nok.len x hx; omega⟩
  have m8 := List.mem_of_getElem? h8
  have m9 := List.mem_of_getElem? h9
  have m10 := List.mem_of_getElem? h10
  have gn : ∀ x ∈ t.names, Go x := fun x hx => by rw [en] at hx; exact go x (List.mem_of_mem_take hx)
  have gk : ∀ x ∈ t.kinds, Go x := fun x hx => by rw [ek] at hx; exact go x (List.mem_of_mem_drop (List.mem_of_mem_take hx))
  have ln : t.names.length ≤ 2 := by rw [en, List.length_take]; omega
  have lk : t.kinds.length ≤ 2 := by rw [ek, List.length_take]; omega
  have gfn : ∀ f ∈ t.fns, Go f.name := fun f hm => by
    have : f.name ∈ t.fns.map Fn.name := List.mem_map_of_mem hm
    rw [efn] at this
    exact go _ (List.mem_of_mem_drop (List.mem_of_mem_take this))
  have gps : ∀ f ∈ t.fns, f.ps.length ≤ 2 ∧ ∀ p ∈ f.ps, Go p.1 := fun f hm => by
    obtain ⟨⟨b1, b2, k, e⟩, _⟩ := hf f hm
    rw [e]
    refine ⟨by rw [List.length_take]; show min k 2 ≤ 2; omega, fun p hp => ?_⟩
    have := List.mem_of_mem_take hp
    simp only [List.mem_cons, List.not_mem_nil, or_false] at this
    rcases this with rfl | rfl
    · exact go _ m8
    · exact go _ m9
  have E : ∀ f ∈ t.fns, Env8 (t.names ++ (prs f ++ [w10])) t.kinds (t.fns.map fun f => (f.name, f.ps)) := fun f hm => by
    have gp := gps f hm
    refine ⟨?_, fun x hx => ?_, gk, fun h hh => ?_⟩
    · rw [List.length_append, List.length_append]
      unfold prs
      rw [List.length_map]
      show _ + (_ + 1) ≤ 8
      omega
    · rcases List.mem_append.mp hx with z | z
      · exact gn x z
      · rcases List.mem_append.mp z with z | z
        · obtain ⟨p, hp, rfl⟩ := List.mem_map.mp z
          exact gp.2 p hp
        · rw [List.mem_singleton.mp z]
          exact go _ m10
    · obtain ⟨g, hg, rfl⟩ := List.mem_map.mp hh
      exact ⟨gfn g hg, (gps g hg).1⟩
  have E0 : Env8 t.names t.kinds [] := ⟨by omega, gn, gk, fun h hh => by cases hh⟩
  have bk : B3 4 28 (.tuple (t.keeps.map exD)) := ((L3.map fun e he => b3_ex E0 (kp e he).2).tup).mono (by decide) (by omega)
  have bf : ∀ f ∈ t.fns, B3 25 (150 * szB f.b + 15) (fnD f) := fun f hm => by
    obtain ⟨_, e, blk, eb, lb, db, he, hw⟩ := hf f hm
    have gp := gps f hm
    have w10m : w10 ∈ t.names ++ (prs f ++ [w10]) := by simp
    have hs : wS (t.names ++ (prs f ++ [w10])) t.kinds (t.fns.map fun f => (f.name, f.ps)) false (.set w10 e) := ⟨w10m, he.c, fun p hp => ⟨by
      have := (he.nm p hp).1
      rcases List.mem_append.mp this with z | z
      · exact List.mem_append_left _ z
      · exact List.mem_append_right _ (List.mem_append_left _ z), (he.nm p hp).2⟩, he.up, by
      have := he.ln
      rw [List.length_append] at this ⊢
      rw [List.length_append]
      omega⟩
    have hL := (b3_L (E f hm) false f.b (by rw [eb]; exact ⟨hs, hw⟩)).tup
    have dI : dpIn f.b ≤ 4 := by
      have e1 := dpB_eq blk
      rw [eb]
      show max (dpS (.set w10 e)) (dpIn blk) ≤ 4
      have : dpS (.set w10 e) = 0 := rfl
      omega
    have bp : B3 2 7 (.tuple (f.ps.map prD)) := ((L3.map fun p hp => ((L3.cons (B3.str (gp.2 p hp)) (L3.cons (B3.bool p.2) L3.nil)).tup).mono (n' := 1) (m' := 3) (by decide) (by decide)).tup).mono (by decide) (by have := gp.1; omega)
    exact ((L3.cons (B3.str (gfn f hm)) (L3.cons bp (L3.cons hL L3.nil))).tup).mono (by omega) (by omega)
  have bF : L3 25 (150 * (t.fns.map fun f => szB f.b).sum + 15 * t.fns.length) (t.fns.map fnD) := by
    refine ⟨bdL_of fun d hd => ?_, dA_le fun d hd => ?_, ?_⟩
    · obtain ⟨f, hm, rfl⟩ := List.mem_map.mp hd
      exact (bf f hm).b
    · obtain ⟨f, hm, rfl⟩ := List.mem_map.mp hd
      exact (bf f hm).h
    · have : ∀ l : List Fn, (∀ f ∈ l, ndD (fnD f) ≤ 150 * szB f.b + 15) → ndD.ndL (l.map fnD) ≤ 150 * (l.map fun f => szB f.b).sum + 15 * l.length := fun l => by
        induction l with
        | nil => exact fun _ => Nat.zero_le _
        | cons f r ih =>
          intro h
          have h1 := ih fun g hg => h g (List.mem_cons_of_mem _ hg)
          have h2 := h f List.mem_cons_self
          rw [List.map_cons, List.map_cons, List.sum_cons, List.length_cons]
          show ndD (fnD f) + ndD.ndL (r.map fnD) ≤ _
          omega
      exact this t.fns fun f hm => (bf f hm).c
  exact ((L3.cons (b3_nm (n := 2) ln gn) (L3.cons (b3_nm (n := 2) lk gk) (L3.cons bk (L3.cons bF.tup L3.nil)))).tup).mono (by decide) (by omega)

/-! ### k08: _law_inner, _law_changed -/
abbrev sQIn : Stmt := topS 86
abbrev NQIn : List Str := ["_law_pool_here", "_law_part", "_law_depth"]
abbrev PQIn : List Str := ["_law_pool_here", "_law_part", "_law_depth"]
theorem scQIn : FnScope NQIn PQIn (defScope sQIn) := ⟨rfl, rfl, rfl, by decide +kernel, rfl, by decide +kernel, by decide +kernel⟩
abbrev sQCh : Stmt := topS 85
abbrev NQCh : List Str := ["_law_pool_here", "_law_part", "_law_depth", "_law_other", "_law_at", "_law_inner_here", "_law_menu"]
abbrev PQCh : List Str := ["_law_pool_here", "_law_part", "_law_depth", "_law_other"]
theorem scQCh : FnScope NQCh PQCh (defScope sQCh) := ⟨rfl, rfl, rfl, by decide +kernel, rfl, by decide +kernel, by decide +kernel⟩
theorem noLs_mem : ∀ {l : List PyData}, noLs l = true → ∀ d ∈ l, noL d = true
  | x :: r, h, d, hd => by
    simp only [noLs, Bool.and_eq_true] at h
    rcases List.mem_cons.mp hd with z | z
    · rw [z]; exact h.1
    · exact noLs_mem h.2 d z
theorem noLs_of : ∀ {l : List PyData}, (∀ d ∈ l, noL d = true) → noLs l = true
  | [], _ => rfl
  | x :: r, h => by
    simp only [noLs, Bool.and_eq_true]
    exact ⟨h x List.mem_cons_self, noLs_of fun d hd => h d (List.mem_cons_of_mem _ hd)⟩
theorem ndL_sub {l r : List PyData} (h : l.Sublist r) : ndD.ndL l ≤ ndD.ndL r := by
  induction h with
  | slnil => exact Nat.le_refl _
  | cons a _ ih => exact Nat.le_trans ih (Nat.le_add_left _ _)
  | cons_cons a _ ih => exact Nat.add_le_add_left ih _
theorem ndL_at {l : List PyData} {i : Nat} {d : PyData} (h : l[i]? = some d) : ndD.ndL l = ndD.ndL (l.take i) + (ndD d + ndD.ndL (l.drop (i + 1))) := by
  obtain ⟨hi, e⟩ := List.getElem?_eq_some_iff.mp h
  conv => lhs; rw [← List.take_append_drop i l]
  rw [ndL_app, List.drop_eq_getElem_cons hi, e]
  rfl
theorem dA_sub {l r : List PyData} (h : ∀ d ∈ l, d ∈ r) : PyData.depthAll l ≤ PyData.depthAll r := dA_le fun d hd => depthAll_le (h d hd)
theorem cut_ex (xs : List V) (lo hi : Option Int) : ∃ a b, cutV xs lo hi = (xs.drop a).take b := ⟨_, _, rfl⟩
theorem dp_cut {K : PySem.W.Frag} {H : Hp} {xs : List V} {ds : List PyData} (h : DpAll K H xs ds) (a b : Nat) : DpAll K H ((xs.drop a).take b) ((ds.drop a).take b) := by
  have h2 := h
  have dr : ∀ (a : Nat) {xs : List V} {ds : List PyData}, DpAll K H xs ds → DpAll K H (xs.drop a) (ds.drop a) := fun a => by
    induction a with
    | zero => exact fun h => h
    | succ a ih =>
      intro xs ds h
      cases h with
      | nil => exact .nil
      | cons x t => exact ih t
  have tk : ∀ (a : Nat) {xs : List V} {ds : List PyData}, DpAll K H xs ds → DpAll K H (xs.take a) (ds.take a) := fun a => by
    induction a with
    | zero => exact fun _ => .nil
    | succ a ih =>
      intro xs ds h
      cases h with
      | nil => exact .nil
      | cons x t => exact .cons x (ih t)
  exact tk b (dr a h2)
theorem dp_app {K : PySem.W.Frag} {H : Hp} : ∀ {xs : List V} {ds : List PyData} {ys : List V} {es : List PyData}, DpAll K H xs ds → DpAll K H ys es → DpAll K H (xs ++ ys) (ds ++ es)
  | _, _, _, _, .nil, h => h
  | _, _, _, _, .cons a b, h => .cons a (dp_app b h)
theorem dq_app {K : PySem.W.Frag} {H : Hp} : ∀ {xs : List V} {ds : List PyData} {ys : List V} {es : List PyData}, DqAll K H xs ds → DqAll K H ys es → DqAll K H (xs ++ ys) (ds ++ es)
  | _, _, _, _, .nil, h => h
  | _, _, _, _, .cons a b, h => .cons a (dq_app b h)
/-- what may come of a change: d changed, e the other part -/
structure Bd2 (d e d' : PyData) : Prop where
  b : bdD d' = true
  h : d'.depth ≤ d.depth + e.depth + 1
  c : ndD d' ≤ 2 * ndD d + ndD e + 2
def ItB (K : PySem.W.Frag) (p c : Addr) (H : Hp) (d e : PyData) (x : V) : Prop := ∀ H', Tps H H' → But p c H H' → ∃ d', Dq K H' x d' ∧ Bd2 d e d'
theorem ItB.same {K : PySem.W.Frag} {p c : Addr} {H H1 : Hp} {d e : PyData} {x : V} (h : ItB K p c H d e x) (s : Same H H1) : ItB K p c H1 d e x := fun H' t b => h H' ((Tps.of s).trans t) ((But.of s).trans b)
theorem ItB.of {K : PySem.W.Frag} {p c : Addr} {H : Hp} {d e : PyData} {x : V} {d' : PyData} (h : Dp K H x d') (n : noL d' = true) (b : Bd2 d e d') : ItB K p c H d e x := fun H' t _ => ⟨d', dq_of (h.tps t n) n, b⟩
theorem Bd2.of {d e d' : PyData} {n m : Nat} (h : B3 n m d') (hn : n ≤ d.depth + e.depth + 1) (hm : m ≤ 2 * ndD d + ndD e + 2) : Bd2 d e d' := ⟨h.b, Nat.le_trans h.h hn, Nat.le_trans h.c hm⟩
theorem Bd2.sub {l l' : List PyData} {e : PyData} (h : l'.Sublist l) (b : bdD (.tuple l) = true) : Bd2 (.tuple l) e (.tuple l') := by
  refine ⟨bdL_of fun z hz => bdL_all (show bdD.bdL l = true from b) z (h.subset hz), ?_, ?_⟩
  · have := dA_sub fun z hz => h.subset hz
    simp only [PyData.depth]
    omega
  · have := ndL_sub h
    show 1 + ndD.ndL l' ≤ 2 * (1 + ndD.ndL l) + ndD e + 2
    omega
theorem bd_app {l r : List PyData} (h1 : bdD.bdL l = true) (h2 : bdD.bdL r = true) : bdD.bdL (l ++ r) = true := bdL_of fun d hd => (List.mem_append.mp hd).elim (bdL_all h1 d) (bdL_all h2 d)
theorem dA_app {l r : List PyData} {n : Nat} (h1 : PyData.depthAll l ≤ n) (h2 : PyData.depthAll r ≤ n) : PyData.depthAll (l ++ r) ≤ n := dA_le fun d hd => (List.mem_append.mp hd).elim (fun z => Nat.le_trans (depthAll_le z) h1) (fun z => Nat.le_trans (depthAll_le z) h2)
structure TxC (mg : Str → Option Value) : Prop where
  n_isinstance : mg "isinstance" = none
  n_tuple : mg "tuple" = none
  n_list : mg "list" = none
  n_len : mg "len" = none
def spQIn (K : PySem.W.Frag) (n : Nat) : Sp := fun vs H Q _ => ∃ (p c : Addr) (lim : V) (k : Nat) (v : V) (d : PyData) (j : Nat), vs = [.ref p, v, .int (j : Int)] ∧ PoolAt H p c lim k ∧ k + 2 * (j + 1) < 100000000000 ∧ Dp K H v d ∧ noL d = true ∧ ndD d ≤ 10000 ∧ j < n ∧
  ∀ (v' : V) (d' : PyData) (H' : Hp), Dp K H' v' d' → noL d' = true → (bdD d = true → bdD d' = true) → d'.depth ≤ d.depth → ndD d' ≤ ndD d → PoolAt H' p c lim (k + 2 * (j + 1)) → But p c H H' → Q v' H'
def spQCh (K : PySem.W.Frag) (n : Nat) : Sp := fun vs H Q _ => ∃ (p c : Addr) (lim : V) (k : Nat) (v o : V) (d e : PyData) (j : Nat), vs = [.ref p, v, .int (j : Int), o] ∧ PoolAt H p c lim k ∧ k + 3 * (j + 1) < 100000000000 ∧ Dp K H v d ∧ noL d = true ∧ bdD d = true ∧ ndD d ≤ 10000 ∧ Dp K H o e ∧ noL e = true ∧ bdD e = true ∧ ndD e ≤ 10000 ∧ j < n ∧
  ∀ (v' : V) (d' : PyData) (H' : Hp), Dq K H' v' d' → Bd2 d e d' → PoolAt H' p c lim (k + 3 * (j + 1)) → But p c H H' → Q v' H'
section
variable {P : Program} {w : World} {K : PySem.W.Frag} {mg : Str → Option Value} {base : Heap}
theorem ok_QIn {n : Nat} {f : Addr} {fd : FuncData} (F : Fun K "_law_inner" "_law_inner" sQIn f fd) (T : TxC mg) (GD : Has P w K mg base CX0 2 "_law_draw" PDraw spDraw) (GI : Has P w K mg base CX0 (2 + n) "_law_inner" PQIn (spQIn K n)) : FnOk P w K mg base CX0 (2 + n + 1) f fd PQIn (spQIn K (n + 1)) := by
  refine F.ok scQIn (fun vs H Q E h => ?_) (fun cdv A outer s H vs Q E hr h => ?_)
  · obtain ⟨_, _, _, _, _, _, _, rfl, _⟩ := h
    rfl
  · obtain ⟨p, c, lim, k0, v, d, j, rfl, P0, hk, hv, nl, sz, hj, k⟩ := h
    have hr2 := hr.mono (j := 2) (by omega)
    refine ⟨_, (pss_cons (ps_if (PW.pt (pw_and (pt_val (pe_callB call_isi (by rfl) T.n_isinstance bb_isinstance (pa_cons (pv 1) (pa_cons (pe_bltn (v := .ty "tuple") (by rfl) T.n_tuple bb_tuple rfl) pa_nil)))) (pw_and (pt_cmpR op_gt (pe_callB call_len_seq (by rfl) T.n_len bb_len (pa_cons (pv 1) pa_nil)) pe_int (nomark _)) (pw_and (pt_cmpR op_gt (pv 2) pe_int (nomark _)) (pw_and1 (pt_cmpR op_gt (pe_callH GD hr2 rfl pass0 (pa_cons (pv 0) (pa_cons pe_int pa_nil))) pe_int (nomark _)))))))
  (pss_one (ps_ret (pe_callH GI hr rfl pass0 (pa_cons (pv 0) (pa_cons (pe_ix (r := rIxT K) ix_tup (pv 1) (pe_callH GD hr2 rfl pass0 (pa_cons (pv 0) (pa_cons (pe_callB call_len_seq (by rfl) T.n_len bb_len (pa_cons (pv 1) pa_nil)) pa_nil))) (fun _ _ => rfl)) (pa_cons (pe_op op_sub (pv 2) pe_int) pa_nil))))))
  pss_nil)
  (pss_one (ps_ret (pv 1)))), ?_⟩
    obtain ⟨t, ty, k1, _⟩ := dpT hv
    have fin : ∀ {H' : Hp} {n' : Nat}, PoolAt H' p c lim n' → n' ≤ k0 + 2 * (j + 1) → But p c H H' → Q v H' := fun P' hn b => k v d _ (hv.tps (b.tps P0) nl) nl (fun z => z) (Nat.le_refl _) (Nat.le_refl _) (P'.mono hn) b
    refine ⟨_, rfl, _, _, _, _, _, rfl, .ty _, ty, k1, _, rfl, ?_⟩
    rcases tupCases d with e | ⟨l, rfl⟩
    · rw [e]
      exact iteE rfl ⟨_, rfl, fin P0 (by omega) But.refl⟩
    refine iteS rfl ?_
    obtain ⟨a, xs, rfl, hq, hd⟩ := hv.tupInv
    have lx := hd.len
    have lsz : l.length ≤ 10000 := by
      have h3 : 1 + ndD.ndL l ≤ 10000 := sz
      have := ndL_len l
      omega
    refine ⟨_, rfl, a, _, rfl, .inr hq, _, _, rfl, rfl, _, rfl, ite2 (fun h1 => ?_) (fun h1 => ?_)⟩
    case refine_2 => exact ⟨_, rfl, fin P0 (by omega) But.refl⟩
    have h1 := of_decide_eq_true h1
    refine ⟨_, rfl, _, _, rfl, rfl, _, rfl, ite2 (fun h2 => ?_) (fun h2 => ?_)⟩
    case refine_2 => exact ⟨_, rfl, fin P0 (by omega) But.refl⟩
    have h2 := of_decide_eq_true h2
    refine ⟨_, rfl, p, c, lim, k0, 4, rfl, P0, by omega, by decide, by decide, fun r H1 r0 r1 P1 b1 => ?_⟩
    refine ⟨_, _, rfl, rfl, _, rfl, ite2 (fun h3 => ?_) (fun h3 => ?_)⟩
    case refine_2 => exact ⟨_, rfl, fin P1 (by omega) b1⟩
    have t1 := b1.tps P0
    have hq1 := t1.sqt hq
    refine ⟨_, rfl, _, rfl, _, rfl, _, rfl, a, _, rfl, .inr hq1, p, c, lim, k0 + 1, _, rfl, P1, by omega, by omega, by omega, fun r2 H2 q0 q1 P2 b2 => ?_⟩
    have b12 := b1.trans b2
    have t12 := b12.tps P0
    obtain ⟨x, hx, mx⟩ := atI_in (xs := xs) q0 q1
    obtain ⟨i, hi⟩ := List.mem_iff_getElem?.mp mx
    obtain ⟨dx, hdx, hxd⟩ := hd.at hi
    have md := List.mem_of_getElem? hdx
    have nlx := noLs_mem (by simpa [noL] using nl) dx md
    have dm := dep_mem md
    have nm := ndL_mem md
    have e0 : ndD (.tuple l) = 1 + ndD.ndL l := rfl
    obtain ⟨j', rfl⟩ : ∃ j', j = j' + 1 := ⟨j - 1, by omega⟩
    refine ⟨a, _, _, _, rfl, rfl, t12.sqt hq, hx, _, rfl, _, _, rfl, rfl, p, c, lim, k0 + 1 + 1, x, dx, j', ?_, P2, by omega, hxd.tps t12 nlx, nlx, by omega, by omega, fun v' d' H3 hv' nl' bd' dh' nd' P3 b3 => ?_⟩
    · show [V.ref p, x, V.int (((j' + 1 : Nat) : Int) - 1)] = _
      rw [show (((j' + 1 : Nat) : Int) - 1) = (j' : Int) by omega]
    refine k v' d' H3 hv' nl' (fun z => bd' (bdL_all (show bdD.bdL l = true from z) dx md)) (by omega) (by omega) (P3.mono (by omega)) (b12.trans b3)
theorem ok_QIns {f : Addr} {fd : FuncData} (F : Fun K "_law_inner" "_law_inner" sQIn f fd) (T : TxC mg) (GD : Has P w K mg base CX0 2 "_law_draw" PDraw spDraw) (m : mg "_law_inner" = some (.ref f)) (kp : PySem.W.keepIn K (.ref f) = true) (b : Binds K fd PQIn []) : ∀ n, FnOk P w K mg base CX0 (2 + n) f fd PQIn (spQIn K n) := by
  intro n
  induction n with
  | zero => exact ⟨fun vs H Q E h => by obtain ⟨_, _, _, _, _, _, _, _, _, _, _, _, _, h, _⟩ := h; exact absurd h (Nat.not_lt_zero _), fun _ _ _ _ _ _ _ _ _ _ _ _ _ h => by obtain ⟨_, _, _, _, _, _, _, _, _, _, _, _, _, h, _⟩ := h; exact absurd h (Nat.not_lt_zero _)⟩
  | succ n ih => exact ok_QIn F T GD ⟨f, fd, ih, m, kp, b⟩
theorem ok_QCh {n : Nat} {f : Addr} {fd : FuncData} (F : Fun K "_law_changed" "_law_changed" sQCh f fd) (T : TxC mg) (GD : Has P w K mg base CX0 2 "_law_draw" PDraw spDraw) (GC : Has P w K mg base CX0 (2 + n) "_law_changed" PQCh (spQCh K n)) : FnOk P w K mg base CX0 (2 + n + 1) f fd PQCh (spQCh K (n + 1)) := by
  refine F.ok scQCh (fun vs H Q E h => ?_) (fun cdv A outer s H vs Q E hr h => ?_)
  · obtain ⟨_, _, _, _, _, _, _, _, _, rfl, _⟩ := h
    rfl
  · obtain ⟨p, c, lim, k0, v, o, d, eo, j, rfl, P0, hk, hv, nl, bd, sz, ho, nlo, bo, szo, hj, k⟩ := h
    have hr2 := hr.mono (j := 2) (by omega)
    refine ⟨_, (C8.pss_cut (ps_if (PW.pt (pw_and (pt_val (pe_callB call_isi (by rfl) T.n_isinstance bb_isinstance (pa_cons (pv 1) (pa_cons (pe_bltn (v := .ty "tuple") (by rfl) T.n_tuple bb_tuple rfl) pa_nil)))) (pw_and (pt_cmpR op_gt (pe_callB call_len_seq (by rfl) T.n_len bb_len (pa_cons (pv 1) pa_nil)) pe_int (nomark _)) (pw_and (pt_cmpR op_gt (pv 2) pe_int (nomark _)) (pw_and1 (pt_cmpR op_gt (pe_callH GD hr2 rfl pass0 (pa_cons (pv 0) (pa_cons pe_int pa_nil))) pe_int (nomark _)))))))
  (pss_cons (ps_set (i := 4) scQCh.nd rfl (Or.inl rfl) (pe_callH GD hr2 rfl pass0 (pa_cons (pv 0) (pa_cons (pe_callB call_len_seq (by rfl) T.n_len bb_len (pa_cons (pv 1) pa_nil)) pa_nil))))
  (pss_cons (ps_set (i := 5) scQCh.nd rfl (Or.inl rfl) (pe_callH GC hr rfl pass0 (pa_cons (pv 0) (pa_cons (pe_ix (r := rIxT K) ix_tup (pv 1) (pv 4) (fun _ _ => rfl)) (pa_cons (pe_op op_sub (pv 2) pe_int) (pa_cons (pv 3) pa_nil))))))
  (pss_one (ps_ret (pe_op op_catV (pe_op op_catV (pe_slice sl_tupU (pv 1) po_none (po_some (pv 4))) (pe_tup (pa_cons (pv 5) pa_nil))) (pe_slice sl_tupU (pv 1) (po_some (pe_op op_add (pv 4) pe_int)) po_none))))))
  pss_nil)
  (pss_cons (ps_set (i := 6) scQCh.nd rfl (Or.inl rfl) (pe_lst (pa_cons pe_str (pa_cons pe_str (pa_cons pe_str (pa_cons pe_str (pa_cons pe_int (pa_cons pe_int (pa_cons (pe_un un_neg pe_int) (pa_cons pe_bl (pa_cons pe_bl (pa_cons pe_non (pa_cons (pe_tup pa_nil) (pa_cons (pe_lst pa_nil) (pa_cons (pv 3) (pa_cons (pe_tup (pa_cons (pv 1) pa_nil)) pa_nil))))))))))))))))
  (C8.pss_cut (ps_if (pt_val (pe_callB call_isi (by rfl) T.n_isinstance bb_isinstance (pa_cons (pv 1) (pa_cons (pe_bltn (v := .ty "tuple") (by rfl) T.n_tuple bb_tuple rfl) pa_nil))))
  (pss_one (ps_set (i := 6) scQCh.nd rfl (Or.inl rfl) (pe_op op_cat (pv 6) (pe_lst (pa_cons (pe_callTy call_list_of (by rfl) T.n_list bb_list (pa_cons (pv 1) pa_nil)) (pa_cons (pe_slice sl_tupU (pv 1) (po_some pe_int) po_none) (pa_cons (pe_slice sl_tupU (pv 1) po_none (po_some (pe_un un_neg pe_int))) (pa_cons (pe_op op_catV (pv 1) (pe_tup (pa_cons (pv 3) pa_nil))) (pa_cons (pe_op op_catV (pv 1) (pe_slice sl_tupU (pv 1) po_none (po_some pe_int))) pa_nil)))))))))
  pss_nil)
  (pss_one (ps_ret (pe_ix (r := rIxL K) ix_list (pv 6) (pe_callH GD hr2 rfl pass0 (pa_cons (pv 0) (pa_cons (pe_callB call_len_seq (by rfl) T.n_len bb_len (pa_cons (pv 6) pa_nil)) pa_nil))) (fun _ _ => rfl))))))), ?_⟩
    obtain ⟨t, ty, k1, _⟩ := dpT hv
    refine ⟨fun σ H' => σ = [some (.ref p), some v, some (.int (j : Int)), some o, none, none, none] ∧ PoolAt H' p c lim (k0 + 1) ∧ But p c H H', ?_, ?_⟩
    · -- into the part
      refine ⟨_, rfl, _, _, _, _, _, rfl, .ty _, ty, k1, _, rfl, ?_⟩
      rcases tupCases d with e | ⟨l, rfl⟩
      · rw [e]
        exact iteE rfl ⟨rfl, P0.mono (by omega), But.refl⟩
      refine iteS rfl ?_
      obtain ⟨a, xs, rfl, hq, hd⟩ := hv.tupInv
      have lx := hd.len
      have e0 : ndD (.tuple l) = 1 + ndD.ndL l := rfl
      have lsz : l.length ≤ 10000 := by
        have := ndL_len l
        omega
      refine ⟨_, rfl, a, _, rfl, .inr hq, _, _, rfl, rfl, _, rfl, ite2 (fun h1 => ?_) (fun h1 => ?_)⟩
      case refine_2 => exact ⟨rfl, P0.mono (by omega), But.refl⟩
      have h1 := of_decide_eq_true h1
      refine ⟨_, rfl, _, _, rfl, rfl, _, rfl, ite2 (fun h2 => ?_) (fun h2 => ?_)⟩
      case refine_2 => exact ⟨rfl, P0.mono (by omega), But.refl⟩
      have h2 := of_decide_eq_true h2
      refine ⟨_, rfl, p, c, lim, k0, 6, rfl, P0, by omega, by decide, by decide, fun r H1 r0 r1 P1 b1 => ?_⟩
      refine ⟨_, _, rfl, rfl, _, rfl, ite2 (fun h3 => ?_) (fun h3 => ?_)⟩
      case refine_2 => exact ⟨rfl, P1, b1⟩
      have hq1 := (b1.tps P0).sqt hq
      refine ⟨_, rfl, _, rfl, a, _, rfl, .inr hq1, p, c, lim, k0 + 1, _, rfl, P1, by omega, by omega, by omega, fun r2 H2 q0 q1 P2 b2 => ?_⟩
      have b12 := b1.trans b2
      have t12 := b12.tps P0
      obtain ⟨i, rfl⟩ : ∃ i : Nat, r2 = (i : Int) := ⟨r2.toNat, by omega⟩
      have hi : i < xs.length := by omega
      obtain ⟨x, hx⟩ : ∃ x, xs[i]? = some x := ⟨_, List.getElem?_eq_getElem hi⟩
      obtain ⟨dx, hdx, hxd⟩ := hd.at hx
      have md := List.mem_of_getElem? hdx
      have nls := noLs_mem (show noLs l = true by simpa [noL] using nl)
      have dm := dep_mem md
      have nm := ndL_mem md
      obtain ⟨j', rfl⟩ : ∃ j', j = j' + 1 := ⟨j - 1, by omega⟩
      have hq2 := t12.sqt hq
      refine ⟨_, rfl, _, rfl, _, rfl, a, _, _, _, rfl, rfl, hq2, atI_nat hx, _, rfl, _, _, rfl, rfl, _, rfl, p, c, lim, k0 + 1 + 1, x, o, dx, eo, j', ?_, P2, by omega, hxd.tps t12 (nls dx md), nls dx md, bdL_all (show bdD.bdL l = true from bd) dx md, by omega, ho.tps t12 nlo, nlo, bo, szo, by omega, fun v' d' H3 hv' B' P3 b3 => ?_⟩
      · show [V.ref p, x, V.int (((j' + 1 : Nat) : Int) - 1), o] = _
        rw [show (((j' + 1 : Nat) : Int) - 1) = (j' : Int) by omega]
      have b13 := b12.trans b3
      have t13 := b13.tps P0
      have hq3 := t13.sqt hq
      have hd3 : DpAll K H3 xs l := hd.tps t13 (show noLs l = true by simpa [noL] using nl)
      refine ⟨_, rfl, _, rfl, _, rfl, a, _, rfl, hq3, fun p1 H4 s4 hp1 => ?_⟩
      refine ⟨_, rfl, (by show 1 ≤ sizeLine; decide), fun t5 ht5 => ?_⟩
      have s5 := same_new (o := .tup [v']) ht5
      refine ⟨p1, t5, _, _, rfl, rfl, SqT.same s5 hp1, SqT.of upd_same, ?_, fun p6 H6 s6 hp6 => ?_⟩
      · rw [cut_take, List.length_take]
        exact Nat.le_of_lt (smallX (by show min i xs.length + 1 ≤ 100000; omega))
      have s46 := (s4.trans s5).trans s6
      refine ⟨_, rfl, _, rfl, _, _, rfl, rfl, _, rfl, a, _, rfl, SqT.same s46 hq3, fun p7 H7 s7 hp7 => ?_⟩
      have s47 := s46.trans s7
      refine ⟨p6, p7, _, _, rfl, rfl, SqT.same s7 hp6, hp7, ?_, fun p8 H8 s8 hp8 => ?_⟩
      · rw [show ((i : Int) + 1) = ((i + 1 : Nat) : Int) from rfl, cut_take, cut_drop, List.length_append, List.length_take, List.length_drop]
        exact Nat.le_of_lt (smallX (by show min i xs.length + 1 + (xs.length - (i + 1)) ≤ 100000; omega))
      rw [show ((i : Int) + 1) = ((i + 1 : Nat) : Int) from rfl, cut_take, cut_drop] at hp8
      have s48 := s47.trans s8
      have hd8 := DpAll.same s48 hd3
      have tk := dp_cut hd8 0 i
      have dr := dp_cut hd8 (i + 1) xs.length
      rw [List.drop_zero, List.drop_zero] at tk
      rw [List.take_of_length_le (by rw [List.length_drop]; omega), List.take_of_length_le (by rw [List.length_drop]; omega)] at dr
      have nlsl : noLs l = true := by simpa [noL] using nl
      have ntk : noLs (l.take i) = true := noLs_of fun z hz => noLs_mem nlsl z (List.mem_of_mem_take hz)
      have ndr : noLs (l.drop (i + 1)) = true := noLs_of fun z hz => noLs_mem nlsl z (List.mem_of_mem_drop hz)
      refine k _ (.tuple ((l.take i ++ [d']) ++ l.drop (i + 1))) H8 (.tup hp8 (dq_app (dq_app (dqAll_of tk ntk) (.cons (hv'.same s48) .nil)) (dqAll_of dr ndr))) ⟨?_, ?_, ?_⟩ ((P3.same s48).mono (by omega)) (b13.trans (But.of s48))
      · have bl : bdD.bdL l = true := bd
        refine bd_app (bd_app (bdL_of fun z hz => bdL_all bl z (List.mem_of_mem_take hz)) ?_) (bdL_of fun z hz => bdL_all bl z (List.mem_of_mem_drop hz))
        show (bdD d' && true) = true
        rw [B'.b]
        rfl
      · have dl : (PyData.tuple l).depth = PyData.depthAll l + 1 := by simp only [PyData.depth]
        have h1 : PyData.depthAll (l.take i) ≤ PyData.depthAll l := dA_sub fun z hz => List.mem_of_mem_take hz
        have h2 : PyData.depthAll (l.drop (i + 1)) ≤ PyData.depthAll l := dA_sub fun z hz => List.mem_of_mem_drop hz
        have h3 := B'.h
        have h4 : PyData.depthAll ((l.take i ++ [d']) ++ l.drop (i + 1)) ≤ PyData.depthAll l + eo.depth + 1 := dA_app (dA_app (by omega) (by simp only [PyData.depthAll]; omega)) (by omega)
        simp only [PyData.depth] at dl ⊢
        omega
      · have h1 := ndL_at hdx
        have h2 := B'.c
        show 1 + ndD.ndL ((l.take i ++ [d']) ++ l.drop (i + 1)) ≤ _
        rw [ndL_app, ndL_app]
        show 1 + ((ndD.ndL (l.take i) + (ndD d' + 0)) + ndD.ndL (l.drop (i + 1))) ≤ _
        omega
    · -- the menu
      rintro σ' H1 ⟨rfl, P1, b1⟩
      have t1 := b1.tps P0
      have hv1 := hv.tps t1 nl
      have ho1 := ho.tps t1 nlo
      have np := nd_pos d
      have npo := nd_pos eo
      have Io : ItB K p c H1 d eo o := ItB.of ho1 nlo ⟨bo, by omega, by omega⟩
      have B0 : ∀ {z : PyData}, B3 0 1 z → Bd2 d eo z := fun h => Bd2.of h (by omega) (by omega)
      refine ⟨_, rfl, (by show 0 ≤ sizeLine; decide), fun t0 ht0 => ⟨(by show 0 ≤ sizeLine; decide), fun l0 hl0 => ?_⟩⟩
      have s2 := same_new (o := .tup []) ht0
      have s3 := same_new (o := .lst []) hl0
      refine ⟨_, rfl, _, rfl, (by show 1 ≤ sizeLine; decide), fun t4 ht4 => ⟨(by show 14 ≤ sizeLine; decide), fun M hM => ?_⟩⟩
      have s4 := same_new (o := .tup [v]) ht4
      have P2 := ((P1.same s2).same s3).same s4
      have nl0 : l0 ≠ p ∧ l0 ≠ c := ⟨(P1.same s2).ne1 hl0, (P1.same s2).ne2 hl0⟩
      have nM : M ≠ p ∧ M ≠ c := ⟨P2.ne1 hM, P2.ne2 hM⟩
      have s14 := (s2.trans s3).trans s4
      have e0 : upd (upd (upd H1 t0 (.tup [])) l0 (.lst [])) t4 (.tup [v]) l0 = some (.lst []) := s4 _ _ upd_same
      have q0 : SqT K (upd (upd (upd H1 t0 (.tup [])) l0 (.lst [])) t4 (.tup [v])) t0 [] := SqT.same (s3.trans s4) (SqT.of upd_same)
      have q4 : SqT K (upd (upd (upd H1 t0 (.tup [])) l0 (.lst [])) t4 (.tup [v])) t4 [v] := SqT.of upd_same
      have hv2 := hv1.same s14
      have ho2 := ho1.same s14
      have Io := Io.same s14
      generalize upd (upd (upd H1 t0 (.tup [])) l0 (.lst [])) t4 (.tup [v]) = H2 at *
      have b12 := b1.trans (But.of s14)
      have I0 : ItB K p c H2 d eo (.ref t0) := ItB.of (.tup q0 .nil) rfl (Bd2.of (n := 1) (m := 1) L3.nil.tup (by omega) (by omega))
      have I1 : ItB K p c H2 d eo (.ref l0) := fun H' _ b => ⟨.list [], .lst (b _ _ e0 nl0.1 nl0.2) .nil, ⟨rfl, by simp only [PyData.depth, PyData.depthAll]; omega, by show 1 + 0 ≤ _; omega⟩⟩
      have I4 : ItB K p c H2 d eo (.ref t4) := ItB.of (d' := .tuple [d]) (.tup q4 (.cons hv2 .nil)) (by simp only [noL, noLs, nl]; rfl) ⟨by show (bdD d && true) = true; rw [bd]; rfl, by simp only [PyData.depth, PyData.depthAll]; omega, by show 1 + (ndD d + 0) ≤ _; omega⟩
      have all0 : ∀ x ∈ ([.str "", .str "q", .str "Q", .str "if", .int 0, .int 1, .int (-2), .bl true, .bl false, .non, .ref t0, .ref l0, o, .ref t4] : List V), ItB K p c H2 d eo x := by
        intro x hx
        simp only [List.mem_cons, List.not_mem_nil, or_false] at hx
        rcases hx with rfl | rfl | rfl | rfl | rfl | rfl | rfl | rfl | rfl | rfl | rfl | rfl | rfl | rfl
        · exact ItB.of (.str _) rfl (B0 (b3w ""))
        · exact ItB.of (.str _) rfl (B0 (b3w "q"))
        · exact ItB.of (.str _) rfl (B0 (b3w "Q"))
        · exact ItB.of (.str _) rfl (B0 (b3w "if"))
        · exact ItB.of (.int _) rfl (B0 (B3.int (by decide)))
        · exact ItB.of (.int _) rfl (B0 (B3.int (by decide)))
        · exact ItB.of (.int _) rfl (B0 (B3.int (by decide)))
        · exact ItB.of (.bl _) rfl (B0 (B3.bool _))
        · exact ItB.of (.bl _) rfl (B0 (B3.bool _))
        · exact ItB.of .non rfl (B0 B3.none)
        · exact I0
        · exact I1
        · exact Io
        · exact I4
      have sM := same_new (o := .lst ([.str "", .str "q", .str "Q", .str "if", .int 0, .int 1, .int (-2), .bl true, .bl false, .non, .ref t0, .ref l0, o, .ref t4] : List V)) hM
      have eM : upd H2 M (.lst ([.str "", .str "q", .str "Q", .str "if", .int 0, .int 1, .int (-2), .bl true, .bl false, .non, .ref t0, .ref l0, o, .ref t4] : List V)) M = some (.lst [.str "", .str "q", .str "Q", .str "if", .int 0, .int 1, .int (-2), .bl true, .bl false, .non, .ref t0, .ref l0, o, .ref t4]) := upd_same
      have P3 := P2.same sM
      have b13 := b12.trans (But.of sM)
      have hv3 := hv2.same sM
      have ho3 := ho2.same sM
      have all3 := fun x hx => (all0 x hx).same sM
      clear I0 I1 I4 Io all0 e0 q0 q4
      refine ⟨fun σ H' => ∃ (M2 : Addr) (items : List V), σ = [some (.ref p), some v, some (.int (j : Int)), some o, none, none, some (.ref M2)] ∧ H' M2 = some (.lst items) ∧ M2 ≠ p ∧ M2 ≠ c ∧ items ≠ [] ∧ items.length ≤ 20 ∧ (∀ x ∈ items, ItB K p c H' d eo x) ∧ PoolAt H' p c lim (k0 + 1) ∧ But p c H H', ?_, ?_⟩
      · have lt14 : ([.str "", .str "q", .str "Q", .str "if", .int 0, .int 1, .int (-2), .bl true, .bl false, .non, .ref t0, .ref l0, o, .ref t4] : List V).length = 14 := rfl
        have ne14 : ([.str "", .str "q", .str "Q", .str "if", .int 0, .int 1, .int (-2), .bl true, .bl false, .non, .ref t0, .ref l0, o, .ref t4] : List V) ≠ [] := List.cons_ne_nil _ _
        generalize upd H2 M (.lst ([.str "", .str "q", .str "Q", .str "if", .int 0, .int 1, .int (-2), .bl true, .bl false, .non, .ref t0, .ref l0, o, .ref t4] : List V)) = H3 at *
        generalize ([.str "", .str "q", .str "Q", .str "if", .int 0, .int 1, .int (-2), .bl true, .bl false, .non, .ref t0, .ref l0, o, .ref t4] : List V) = its at *
        obtain ⟨t', ty', k1', _⟩ := dpT hv3
        refine ⟨_, rfl, _, _, _, _, _, rfl, .ty _, ty', k1', _, rfl, ?_⟩
        rcases tupCases d with e | ⟨l, rfl⟩
        · rw [e]
          exact iteE rfl ⟨M, its, rfl, eM, nM.1, nM.2, ne14, by omega, all3, P3, b13⟩
        refine iteS rfl ?_
        obtain ⟨a, xs, rfl, hq, hd⟩ := hv3.tupInv
        have lx := hd.len
        have en : ndD (.tuple l) = 1 + ndD.ndL l := rfl
        have lsz : l.length ≤ 10000 := by
          have := ndL_len l
          omega
        have nls : noLs l = true := by simpa [noL] using nl
        have nlm := noLs_mem nls
        refine ⟨_, rfl, _, rfl, a, xs, rfl, .inr hq, fun g1 hg1 => ?_⟩
        have s4 := same_new (o := .lst xs) hg1
        have eg : upd H3 g1 (.lst xs) g1 = some (.lst xs) := upd_same
        have ng : g1 ≠ p ∧ g1 ≠ c := ⟨P3.ne1 hg1, P3.ne2 hg1⟩
        generalize upd H3 g1 (.lst xs) = H4 at *
        refine ⟨_, rfl, _, rfl, a, _, rfl, SqT.same s4 hq, fun p1 H5 s5 hp1 => ?_⟩
        have s45 := s4.trans s5
        refine ⟨_, rfl, _, rfl, _, rfl, a, _, rfl, SqT.same s45 hq, fun p2 H6 s6 hp2 => ?_⟩
        have s46 := s45.trans s6
        refine ⟨_, rfl, _, rfl, (by show 1 ≤ sizeLine; decide), fun t7 ht7 => ?_⟩
        have s7 := same_new (o := .tup [o]) ht7
        have et7 : SqT K (upd H6 t7 (.tup [o])) t7 [o] := SqT.of upd_same
        have s47 := s46.trans s7
        generalize upd H6 t7 (.tup [o]) = H7 at *
        refine ⟨a, t7, _, _, rfl, rfl, SqT.same s47 hq, et7, Nat.le_of_lt (smallX (by show xs.length + 1 ≤ 100000; omega)), fun p3 H8 s8 hp3 => ?_⟩
        have s48 := s47.trans s8
        refine ⟨_, rfl, _, rfl, _, rfl, a, _, rfl, SqT.same s48 hq, fun p4 H9 s9 hp4 => ?_⟩
        have s49 := s48.trans s9
        obtain ⟨a1, b1', c1⟩ := cut_ex xs (some 1) none
        obtain ⟨a2, b2', c2⟩ := cut_ex xs none (some (-1))
        obtain ⟨a3, b3', c3⟩ := cut_ex xs none (some 1)
        rw [c1] at hp1
        rw [show cutV xs none (some (-1)) = (xs.drop a2).take b2' from c2] at hp2
        rw [c3] at hp4
        refine ⟨a, p4, _, _, rfl, rfl, SqT.same s49 hq, hp4, Nat.le_of_lt (smallX ?_), fun p5 HA sA hp5 => ⟨(by show 5 ≤ sizeLine; decide), fun N hN => ?_⟩⟩
        · rw [List.length_take, List.length_drop]
          omega
        have s4A := s49.trans sA
        have sB := same_new (o := .lst [.ref g1, .ref p1, .ref p2, .ref p3, .ref p5]) hN
        have s4B := s4A.trans sB
        refine ⟨M, N, _, _, rfl, rfl, s4B _ _ eM, upd_same, Nat.le_of_lt (smallX (by show its.length + 5 ≤ 100000; omega)), fun M2 hM2 => ?_⟩
        have sC := same_new (o := .lst (its ++ [.ref g1, .ref p1, .ref p2, .ref p3, .ref p5])) hM2
        have PB := P3.same s4B
        have nM2 : M2 ≠ p ∧ M2 ≠ c := ⟨PB.ne1 hM2, PB.ne2 hM2⟩
        have s4C := s4B.trans sC
        have eM2 : upd (upd HA N (.lst [.ref g1, .ref p1, .ref p2, .ref p3, .ref p5])) M2 (.lst (its ++ [.ref g1, .ref p1, .ref p2, .ref p3, .ref p5])) M2 = some (.lst (its ++ [.ref g1, .ref p1, .ref p2, .ref p3, .ref p5])) := upd_same
        have hp1C := SqT.same ((((((s6.trans s7).trans s8).trans s9).trans sA).trans sB).trans sC) hp1
        have hp2C := SqT.same (((((s7.trans s8).trans s9).trans sA).trans sB).trans sC) hp2
        have hp3C := SqT.same (((s9.trans sA).trans sB).trans sC) hp3
        have hp5C := SqT.same (sB.trans sC) hp5
        have egC := ((((((((s5.trans s6).trans s7).trans s8).trans s9).trans sA).trans sB).trans sC)) _ _ eg
        have hdC := DpAll.same s4C hd
        have hoC := ho3.same s4C
        generalize upd (upd HA N (.lst [.ref g1, .ref p1, .ref p2, .ref p3, .ref p5])) M2 (.lst (its ++ [.ref g1, .ref p1, .ref p2, .ref p3, .ref p5])) = HC at *
        have sub : ∀ a b : Nat, ((l.drop a).take b).Sublist l := fun a b => (List.take_sublist _ _).trans (List.drop_sublist _ _)
        have nlc : ∀ a b : Nat, noLs ((l.drop a).take b) = true := fun a b => noLs_of fun z hz => nlm z ((sub a b).subset hz)
        have nla : ∀ {r : List PyData}, noLs r = true → noLs (l ++ r) = true := fun h => noLs_of fun z hz => (List.mem_append.mp hz).elim (nlm z) (noLs_mem h z)
        refine ⟨M2, _, rfl, eM2, nM2.1, nM2.2, fun e => ne14 (List.append_eq_nil_iff.mp e).1, by rw [List.length_append]; show its.length + 5 ≤ 20; omega, fun x hx => ?_, P3.same s4C, b13.trans (But.of s4C)⟩
        rcases List.mem_append.mp hx with hx | hx
        · exact (all3 x hx).same s4C
        simp only [List.mem_cons, List.not_mem_nil, or_false] at hx
        rcases hx with rfl | rfl | rfl | rfl | rfl
        · refine fun H' t b => ⟨.list l, .lst (b _ _ egC ng.1 ng.2) (dqAll_of (hdC.tps t nls) nls), bd, ?_, ?_⟩
          · simp only [PyData.depth]
            omega
          · show 1 + ndD.ndL l ≤ 2 * (1 + ndD.ndL l) + ndD eo + 2
            omega
        · exact ItB.of (.tup hp1C (dp_cut hdC a1 b1')) (by simpa [noL] using nlc a1 b1') (Bd2.sub (sub a1 b1') bd)
        · exact ItB.of (.tup hp2C (dp_cut hdC a2 b2')) (by simpa [noL] using nlc a2 b2') (Bd2.sub (sub a2 b2') bd)
        · refine ItB.of (d' := .tuple (l ++ [eo])) (.tup hp3C (dp_app hdC (.cons hoC .nil))) (by simpa [noL] using nla (r := [eo]) (by simp only [noLs, nlo]; rfl)) ⟨bd_app bd (by show (bdD eo && true) = true; rw [bo]; rfl), ?_, ?_⟩
          · have h4 : PyData.depthAll (l ++ [eo]) ≤ PyData.depthAll l + eo.depth + 1 := dA_app (by omega) (by simp only [PyData.depthAll]; omega)
            simp only [PyData.depth]
            omega
          · show 1 + ndD.ndL (l ++ [eo]) ≤ 2 * (1 + ndD.ndL l) + ndD eo + 2
            rw [ndL_app]
            show 1 + (ndD.ndL l + (ndD eo + 0)) ≤ _
            omega
        · refine ItB.of (d' := .tuple (l ++ (l.drop a3).take b3')) (.tup hp5C (dp_app hdC (dp_cut hdC a3 b3'))) (by simpa [noL] using nla (nlc a3 b3')) ⟨bd_app bd (bdL_of fun z hz => bdL_all (show bdD.bdL l = true from bd) z ((sub a3 b3').subset hz)), ?_, ?_⟩
          · have h4 : PyData.depthAll (l ++ (l.drop a3).take b3') ≤ PyData.depthAll l := dA_app (Nat.le_refl _) (dA_sub fun z hz => (sub a3 b3').subset hz)
            simp only [PyData.depth]
            omega
          · have := ndL_sub (sub a3 b3')
            show 1 + ndD.ndL (l ++ (l.drop a3).take b3') ≤ 2 * (1 + ndD.ndL l) + ndD eo + 2
            rw [ndL_app]
            omega
      · rintro σ' H3 ⟨M2, items, rfl, eM2, n1, n2, ne, len, all, P3, b3⟩
        have lp : 0 < items.length := List.length_pos_iff.mpr ne
        refine ⟨_, rfl, _, rfl, _, rfl, M2, _, rfl, .inl (SqL.of eM2), p, c, lim, k0 + 1, _, rfl, P3, by omega, by omega, by omega, fun r H4 r0 r1 P4 b4 => ?_⟩
        obtain ⟨x, hx, mx⟩ := atI_in (xs := items) r0 r1
        obtain ⟨d', dv, B⟩ := all x mx H4 (b4.tps P3) b4
        exact ⟨M2, _, _, _, rfl, rfl, SqL.of (b4 _ _ eM2 n1 n2), hx, k x d' H4 dv B (P4.mono (by omega)) (b3.trans b4)⟩
theorem ok_QChs {f : Addr} {fd : FuncData} (F : Fun K "_law_changed" "_law_changed" sQCh f fd) (T : TxC mg) (GD : Has P w K mg base CX0 2 "_law_draw" PDraw spDraw) (m : mg "_law_changed" = some (.ref f)) (kp : PySem.W.keepIn K (.ref f) = true) (b : Binds K fd PQCh []) : ∀ n, FnOk P w K mg base CX0 (2 + n) f fd PQCh (spQCh K n) := by
  intro n
  induction n with
  | zero => exact ⟨fun vs H Q E h => by obtain ⟨_, _, _, _, _, _, _, _, _, _, _, _, _, _, _, _, _, _, _, _, h, _⟩ := h; exact absurd h (Nat.not_lt_zero _), fun _ _ _ _ _ _ _ _ _ _ _ _ _ h => by obtain ⟨_, _, _, _, _, _, _, _, _, _, _, _, _, _, _, _, _, _, _, _, h, _⟩ := h; exact absurd h (Nat.not_lt_zero _)⟩
  | succ n ih => exact ok_QCh F T GD ⟨f, fd, ih, m, kp, b⟩
end

/-! ### making an instance that errors leave, what they find told by the slots -/
/-- C(e, ..) -/
def tMakeT (C : Addr) (sp : Sp) (E : L2.St → XK) (t : TA) : TE := fun σ H Q => t σ H fun vs H1 => ∀ x dx, H1 x = none → H1 dx = none → dx ≠ x → sp (.ref x :: vs) (upd (upd H1 dx (.own x)) x (.ins C dx [])) (fun v H2 => v = .non ∧ Q (.ref x) H2) (E σ)
theorem pe_makeT {X : Cx} {CX : CXT} {k : Nat} {x : Str} {C : Addr} {ps : List Str} {sp : Sp} {E : L2.St → XK} {e : Expr} {es : List Expr} {t : TA} {p pos : Pos} (M : HasC X.prog X.w X.K X.mg X.base CX k x C ps sp) (hr : Room (k + 1) X.A) (hg : Gl X x) (hx : ∀ σ, PassesAt CX X σ (E σ)) (ha : PA X (e :: es) t)
    (hdb : (x == ("__debug__" : Str)) = false := by decide) (he : starEach (e :: es) X.env = (false, eval e X.env) :: starEach es X.env := by rfl) (hpl : (backTo pos (starEach es X.env)).any (·.1) = false := by rfl) :
    PE X (.Call (.Name x p) (e :: es) [] pos) (tMakeT C sp E t) := by
  obtain ⟨f, fd, mk, F, hm, hb⟩ := M.ex
  refine ⟨fun pins s σ H Q I h => ?_⟩
  refine wpAny_Call_Name_kw (ld_glob I hg hm ?_ hdb)
  refine PySem.W.callWith_K (h₀ := X.base) I.ok.mod.kin mk.kp (thn (ha.run pos pins s σ H _ I h) fun us s1 ⟨vs, H1, I1, r, q⟩ => ⟨I1.kIn, ?_⟩) he hpl
  have hq := q (s1.heap.objs.size + 1) s1.heap.objs.size (I1.hok.fresh (Nat.le_succ _)) (I1.hok.fresh (Nat.le_refl _)) (Nat.ne_of_lt (Nat.lt_succ_self _))
  have I2 := Inv.made (C := C) I1
  have r2 : Vals (V.ref (s1.heap.objs.size + 1) :: vs) (Value.ref (s1.heap.objs.size + 1) :: us) := .cons rfl r
  have hl : (Value.ref (s1.heap.objs.size + 1) :: us).length = ps.length := by
    have e := r2.length
    rw [F.len _ _ _ _ hq] at e
    exact e.symm
  have hb2 : ∀ s : Shared, X.K.In s.heap → BindsTo s fd ⟨Value.ref (s1.heap.objs.size + 1) :: us, []⟩ (ps.zip (Value.ref (s1.heap.objs.size + 1) :: us)) := fun s i => by
    have h := hb s (Value.ref (s1.heap.objs.size + 1) :: us) i (by rw [List.append_nil]; exact hl)
    rwa [List.append_nil] at h
  refine wpAny_call (make_map (f := f) I1.kIn mk.makes mk.init (beq_iff_eq.mp mk.fn) (codeAny_mono (F.run _ X.stack _ _ ⟨Value.ref (s1.heap.objs.size + 1) :: us, []⟩ (Value.ref (s1.heap.objs.size + 1) :: us) _ _ (E σ) (hr.make C us [])
    (I2.env0.make C us []) (hb2 _ I2.kIn) r2 hq) fun r s' hq' => ?_))
  cases r with
  | error e => exact hx σ pins _ _ e s' I2 hq'
  | ok fl =>
    cases fl with
    | ret u =>
      obtain ⟨v, H', I3, rv, ev, q3⟩ := I2.after hq'
      subst ev
      exact ⟨rv, ⟨V.ref (s1.heap.objs.size + 1), H', I3, rfl, q3⟩⟩
    | next => exact False.elim hq'
    | brk => exact False.elim hq'
    | cont => exact False.elim hq'

/-! ### k08: the law -/
mutual
theorem narrow_nd : ∀ d : PyData, ndD d ≤ 100000 → narrow d = true
  | .tuple ds, h => by
    have h : 1 + ndD.ndL ds ≤ 100000 := h
    have := ndL_len ds
    simp only [narrow, narrows_nd ds (by omega), Bool.and_true]
    exact decide_eq_true (by omega)
  | .list ds, h => by
    have h : 1 + ndD.ndL ds ≤ 100000 := h
    have := ndL_len ds
    simp only [narrow, narrows_nd ds (by omega), Bool.and_true]
    exact decide_eq_true (by omega)
  | .none, _ => rfl
  | .bool _, _ => rfl
  | .int _, _ => rfl
  | .str _, _ => rfl
  | .dict _, _ => rfl
theorem narrows_nd : ∀ l : List PyData, ndD.ndL l ≤ 100000 → narrows l = true
  | [], _ => rfl
  | d :: r, h => by
    have h : ndD d + ndD.ndL r ≤ 100000 := h
    simp only [narrows, narrow_nd d (by omega), narrows_nd r (by omega), Bool.and_true]
end
structure ErrV (K : PySem.W.Frag) (mg : Str → Option Value) (C' : Nat → Addr) (CE : Addr) : Prop where
  mE : mg "ProgramError" = some (.ref CE)
  ii : PySem.W.exmOne K (.ref (C' 2)) (.ref (C' 2)) = some true
  xf : XfC K (C' 2)
  no : PySem.W.findIn K (.ref (C' 2)) "value" = some none
  nd : PySem.W.exmOne K (.ref (C' 3)) (.ref (C' 2)) = some false
  pd : PySem.W.exmOne K (.ref (C' 3)) (.ref CE) = some true
  nu : PySem.W.exmOne K (.ref (C' 4)) (.ref (C' 2)) = some false
  pu : PySem.W.exmOne K (.ref (C' 4)) (.ref CE) = some true
  nw : PySem.W.exmOne K (.ref (C' 5)) (.ref (C' 2)) = some false
  pw : PySem.W.exmOne K (.ref (C' 5)) (.ref CE) = some true
  nf : PySem.W.exmOne K (.ref (C' 6)) (.ref (C' 2)) = some false
  pf : PySem.W.exmOne K (.ref (C' 6)) (.ref CE) = some true
  nl : PySem.W.exmOne K (.ref (C' 7)) (.ref (C' 2)) = some false
  pl : PySem.W.exmOne K (.ref (C' 7)) (.ref CE) = some true
theorem ErrV.er {K : PySem.W.Frag} {mg : Str → Option Value} {C' : Nat → Addr} {CE : Addr} (M : ErrV K mg C' CE) (e : Er) : PySem.W.exmOne K (.ref (C' (erI e))) (.ref (C' 2)) = some false ∧ PySem.W.exmOne K (.ref (C' (erI e))) (.ref CE) = some true := by
  cases e with
  | dup _ => exact ⟨M.nd, M.pd⟩
  | unk _ => exact ⟨M.nu, M.pu⟩
  | arg _ => exact ⟨M.nw, M.pw⟩
  | fin _ => exact ⟨M.nf, M.pf⟩
abbrev sLaw : Stmt := topS 87
abbrev NLaw : List Str := ["_law_script", "_law_pool_here", "_law_depth", "_law_other_depth", "_law_tree_here", "_law_value", "_law_is_refused", "e"]
abbrev PLaw : List Str := ["_law_script"]
theorem scLaw : FnScope NLaw PLaw (defScope sLaw) := ⟨rfl, rfl, rfl, by decide +kernel, rfl, by decide +kernel, by decide +kernel⟩
def spLaw (K : PySem.W.Frag) : Sp := fun vs H Q _ => ∃ (a : Addr) (ns : List Int), vs = [.ref a] ∧ SqL K H a (ns.map V.int) ∧ ns.length ≤ 63 ∧ ∀ H', Q (.bl true) H'
section
variable {P : Program} {w : World} {K : PySem.W.Frag} {mg : Str → Option Value} {base : Heap} {C CP : Addr} {C' : Nat → Addr}
theorem ok_Law {f : Addr} {fd : FuncData} (F : Fun K "law" "law" sLaw f fd) (X : ErrH P w K mg base C') (M : ErrV K mg C' CP) (GP : Has P w K mg base CX0 1 "_law_pool" PPool (spPool K)) (GDr : Has P w K mg base CX0 2 "_law_draw" PDraw spDraw) (GT : Has P w K mg base CX0 16 "_law_tree" PLTr (spLTr K)) (GI : Has P w K mg base CX0 (2 + 9) "_law_inner" PQIn (spQIn K 9)) (GC : Has P w K mg base CX0 (2 + 12) "_law_changed" PQCh (spQCh K 12))
    (GPr : HasC P w K mg base (L2N.CX P w) (5 + 3 * 31 + 1 + 1 + 1) "Program" C PPIX (spPIY K C C')) (GQ : Has P w K mg base CX0 (5 + 3 * 30 + 1 + 1) "_law_is_tree" PQTr (spTreB K)) (GSH : HasP P w K mg base 64 "_law_same" PSame (fun _ => spSam K 64)) :
    FnOk P w K mg base CX0 (5 + 3 * 31 + 1 + 1 + 1 + 1 + 1) f fd PLaw (spLaw K) := by
  refine F.ok scLaw (fun vs H Q E h => ?_) (fun cdv A outer s H vs Q E hr h => ?_)
  · obtain ⟨a, ns, rfl, _⟩ := h
    rfl
  · obtain ⟨sc, ns0, rfl, hS, hl, k⟩ := h
    have hr1 := hr.mono (j := 1) (by decide)
    have hr2 := hr.mono (j := 2) (by decide)
    have hr11 := hr.mono (j := 2 + 9) (by decide)
    have hr14 := hr.mono (j := 2 + 12) (by decide)
    have hr16 := hr.mono (j := 16) (by decide)
    have hr64 := hr.mono (j := 64) (by decide)
    have hrQ := hr.mono (j := 5 + 3 * 30 + 1 + 1) (by decide)
    refine ⟨_, (pss_cons (ps_set (i := 1) scLaw.nd rfl (Or.inl rfl) (pe_callH GP hr1 rfl pass0 (pa_cons (pv 0) pa_nil)))
  (pss_cons (ps_set (i := 2) scLaw.nd rfl (Or.inl rfl) (pe_callH GDr hr2 rfl pass0 (pa_cons (pv 1) (pa_cons pe_int pa_nil))))
  (pss_cons (ps_set (i := 3) scLaw.nd rfl (Or.inl rfl) (pe_callH GDr hr2 rfl pass0 (pa_cons (pv 1) (pa_cons pe_int pa_nil))))
  (pss_cons (ps_set (i := 4) scLaw.nd rfl (Or.inl rfl) (pe_callH GT hr16 rfl pass0 (pa_cons (pv 1) pa_nil)))
  (pss_cons (ps_set (i := 5) scLaw.nd rfl (Or.inl rfl) (pe_callH GC hr14 rfl pass0 (pa_cons (pv 1) (pa_cons (pv 4) (pa_cons (pv 2) (pa_cons (pe_callH GI hr11 rfl pass0 (pa_cons (pv 1) (pa_cons (pv 4) (pa_cons (pv 3) pa_nil)))) pa_nil))))))
  (pss_cons (ps_set (i := 6) scLaw.nd rfl (Or.inl rfl) pe_bl)
  (pss_cons (ps_tryX (Wout := fun _ _ _ _ => False) rfl rfl scLaw.nd (fun _ _ x => by obtain ⟨_, _, _, _, _, _, _, _, _, _, _, _, _, _, _, _, z⟩ := x; exact z) (fun W pn xe tk _ => pss_one (ps_expr (pe_makeT GPr hr rfl (L2N.passAt tk) (pa_cons (pv 5) pa_nil)))) (.named (i := 7) (.one ⟨rfl, by decide, .inl X.h2.mg⟩) rfl rfl (fun a oe cls d pn hz hf => (pss_cons (ps_set (i := 6) scLaw.nd rfl (Or.inl rfl) pe_bl)
  (pss_one (ps_if (pt_not (pt_val (pe_callPG GSH ⟨hr64.dp, hr64.un⟩ (hot_suite hz hf) hz hf List.mem_cons_self rfl (pa_cons (pe_xfG hz hf (pv 7)) (pa_cons (pv 5) pa_nil)))))
  (pss_one (ps_ret pe_bl))
  pss_nil)))) (.only (.one ⟨rfl, by decide, .inl M.mE⟩) (fun a oe cls d pn hz hf => (pss_one (ps_set (i := 6) scLaw.nd rfl (Or.inl rfl) pe_bl))) .nil)))
  (pss_one (ps_ret (pe_cmpR op_ne (pv 6) (pe_callH GQ hrQ rfl pass0 (pa_cons (pv 5) pa_nil)) (nomark _))))))))))), ?_⟩
    refine ⟨_, rfl, sc, ns0, rfl, hS, hl, fun p c H1 s1 np nc P1 => ?_⟩
    refine ⟨_, rfl, p, c, _, 0, 12, rfl, P1, by decide, by decide, by decide, fun r1 H2 r10 r11 P2 b2 => ?_⟩
    refine ⟨_, rfl, p, c, _, _, 9, rfl, P2, by decide, by decide, by decide, fun r2 H3 r20 r21 P3 b3 => ?_⟩
    refine ⟨_, rfl, p, c, _, rfl, P3, by decide, fun v t bu H4 dr dv P4 b4 => ?_⟩
    have hct := ct_eq
    obtain ⟨c5, hc5⟩ : ∃ c5, c5 = ct := ⟨_, rfl⟩
    have hcb := cb5
    obtain ⟨i1, rfl⟩ : ∃ i : Nat, r1 = (i : Int) := ⟨r1.toNat, by omega⟩
    obtain ⟨i2, rfl⟩ : ∃ i : Nat, r2 = (i : Int) := ⟨r2.toNat, by omega⟩
    have B0 := Drawn_b3 dr
    have nlt := noL_tr t
    refine ⟨_, rfl, _, rfl, _, rfl, _, rfl, _, rfl, _, rfl, p, c, _, _, v, trD t, i2, rfl, P4, by omega, dv, nlt, by have := B0.c; omega, by omega, fun v2 d2 H5 dv2 nl2 bd2 dh2 nd2 P5 b5 => ?_⟩
    have B2 : d2.depth ≤ 27 ∧ ndD d2 ≤ 6000 := ⟨Nat.le_trans dh2 B0.h, Nat.le_trans nd2 B0.c⟩
    have b45 := b5
    refine ⟨p, c, _, _, v, v2, trD t, d2, i1, rfl, P5, by omega, dv.tps (b5.tps P4) nlt, nlt, B0.b, by have := B0.c; omega, dv2, nl2, bd2 B0.b, by omega, by omega, fun vv dd H6 hv B P6 b6 => ?_⟩
    have gd : GD 60 dd := ⟨B.b, by have := B.h; have := B0.h; omega, by have := B.c; have := B0.c; omega⟩
    have cd : CmpD dd := ⟨lay_bd dd B.b, by have := B.h; have := B0.h; omega, narrow_nd dd (by have := gd.c; omega)⟩
    refine ⟨_, rfl, ?_⟩
    have fin : ∀ (σ : L2.St) (b : Bool) (H' : Hp), σ[6]? = some (some (.bl b)) → σ[5]? = some (some vv) → Same H6 H' → (b = !treeB dd) → tRet (tOp rNe (tVar 6) (tCall (spTreB K) [] E0 (tCons (tVar 5) tNil))) { nx := fun _ H' => Q .non H', rt := Q } σ H' := fun σ b H' e6 e5 s' eb => by
      refine ⟨_, e6, _, e5, vv, dd, rfl, hv.dp.same s', gd, fun H2 s2 => ?_⟩
      subst eb
      cases treeB dd
      · exact ⟨rfl, k _⟩
      · exact ⟨rfl, k _⟩
    intro S dx nS nd ne
    have s1' := same_new (o := .own S) nd
    have nS' : upd H6 dx (.own S) S = none := by rw [upd_ne (fun z => ne z.symm)]; exact nS
    have s2 := s1'.trans (same_new (o := .ins C dx []) nS')
    refine ⟨S, dx, vv, dd, rfl, upd_same, hv.dp.same s2, gd, fun hno' d' H7 s7 hd => ?_, fun t' et ht => ?_⟩
    · have look : ∀ v : V, ([(("value" : Str), v)] : List (Str × V)).lookup ("value" : Str) = some v := fun v => by simp [List.lookup]
      have s9 := (s2.trans s7).trans (same_new (o := .xd [("value", vv)]) hd)
      refine ⟨true, exm_one M.ii, fun _ a' na => ?_, fun z => nomatch z⟩
      refine ⟨_, rfl, rfl, _, d', _, vv, rfl, M.xf, M.no, rfl, upd_same, look _, _, rfl, fun oe hz hf => ⟨vv, vv, dd, dd, rfl, hv.same s9, hv.same s9, by have := cd.dep; have := B.h; have := B0.h; omega, cd, cd, fun b H8 hb s10 => ?_⟩⟩
      obtain rfl := hb rfl
      refine ⟨true, rfl, iteF ?_⟩
      exact fin _ _ _ rfl rfl (s9.trans s10) (by rw [hno']; rfl)
    · subst et
      have ht1 : treeB (trD t') = true := ht
      unfold ResI
      cases hb : bigW t' with
      | some wd =>
        intro d' H7 s7 hd
        have s9 := (s2.trans s7).trans (same_new (o := .xd [("word", .str wd)]) hd)
        refine ⟨false, exm_one M.nl, (fun z => nomatch z), fun _ => ⟨true, exm_one M.pl, fun _ a' na => ?_, fun z => nomatch z⟩⟩
        exact fin _ _ _ rfl rfl s9 (by rw [ht1]; rfl)
      | none =>
      show ResP K C C' _ S t' _ _ (errT t')
      cases he : errT t' with
      | some e =>
        intro d' H7 s7 hd
        have s9 := (s2.trans s7).trans (same_new (o := .xd (erF e)) hd)
        refine ⟨false, exm_one (M.er e).1, (fun z => nomatch z), fun _ => ⟨true, exm_one (M.er e).2, fun _ a' na => ?_, fun z => nomatch z⟩⟩
        exact fin _ _ _ rfl rfl s9 (by rw [ht1]; rfl)
      | none =>
        intro H7 pr hbut
        have s9 : Same H6 H7 := fun b o e => hbut b o (s2 b o e) (ne_of_none e nS)
        exact ⟨rfl, fin _ _ _ rfl rfl s9 (by rw [ht1]; rfl)⟩
end

/-! ### what the written part says of the classes -/
structure XcK (K : PySem.W.Frag) (C : Addr) (bm : List Value) (newId : String) (f : Str) : Prop where
  lk : ∃ nm q N bs sn sub ab col dd k0 k1 k2 k3 k5, K.lookup C = some (excClassObj nm q C N bs bm true sn sub ab col dd k0 k1 k2 k3 k5 newId)
  sa : PySem.W.findIn K (.ref C) "__setattr__" = some (some (.builtin "object.__setattr__"))
  kc : PySem.W.keepIn K (.ref C) = true
  no : PySem.W.findIn K (.ref C) f = some none
  ga : PySem.W.findIn K (.ref C) "__getattribute__" = some (some (.builtin "BaseException.__getattribute__"))
  gg : PySem.W.findIn K (.ref C) "__getattr__" = some none
  ca : PySem.W.findIn K (.ref C) "__class__" = some (some (.builtin "object.__class__"))
section
variable {K : PySem.W.Frag} {C : Addr} {bm bmB : List Value} {newId : String} {f : Str}
theorem lk_cls {nm q N bs sn sub ab col dd k0 k1 k2 k3 k5} (h : K.lookup C = some (excClassObj nm q C N bs bm true sn sub ab col dd k0 k1 k2 k3 k5 newId)) : ∃ cd, PySem.W.clsIn K C = some cd ∧ cd.mro = .ref C :: bm ∧ cd.hasDict = true :=
  ⟨_, by unfold PySem.W.clsIn; rw [h], rfl, rfl⟩
theorem XcK.cls (T : XcK K C bm newId f) : ∃ cd, PySem.W.clsIn K C = some cd ∧ cd.mro = .ref C :: bm ∧ cd.hasDict = true := by
  obtain ⟨_, _, _, _, _, _, _, _, _, _, _, _, _, _, h⟩ := T.lk
  exact lk_cls h
theorem sub_cls (h : ∃ cd, PySem.W.clsIn K C = some cd ∧ cd.mro = .ref C :: bm ∧ cd.hasDict = true) (x : Value) : PySem.W.subIn K (.ref C) x = some ((Value.ref C :: bm).contains x) := by
  obtain ⟨cd, e, m, _⟩ := h
  show PySem.W.mroIn K C x = _
  unfold PySem.W.mroIn
  rw [e, Option.bind_some, m]
  rfl
theorem XcK.ty (T : XcK K C bm newId f) : PySem.W.typeIn K (.ref C) = some (.type "type") := by
  obtain ⟨_, _, _, _, _, _, _, _, _, _, _, _, _, _, h⟩ := T.lk
  show (K.lookup C).map (·.cls) = _
  rw [h]; rfl
theorem XcK.hd (T : XcK K C bm newId f) : PySem.W.hasDictIn K C = true := by
  obtain ⟨cd, e, _, d⟩ := T.cls
  unfold PySem.W.hasDictIn
  rw [e]; exact d
theorem tail_has (ht : PySem.W.excTail bmB bm = true) (X : String) (h : bmB.contains (.type X) = true) : (Value.ref C :: bm).contains (.type X) = true := by
  rw [List.contains_cons, PySem.W.excTail_contains _ _ ht, h, Bool.or_true]
theorem XcK.oex (T : XcK K C bm newId f) (B : XC.Bas bmB newId) (ht : PySem.W.excTail bmB bm = true) (hb : bmB.contains (.type "BaseException") = true) : OexG K C := by
  refine ⟨⟨bmB, newId, B, ?_, ?_⟩, T.hd, T.sa, (sub_cls T.cls _).trans (by rw [tail_has ht _ hb]), T.ty, T.kc⟩
  · obtain ⟨_, _, _, _, _, _, _, _, _, _, _, _, _, _, h⟩ := T.lk
    unfold PySem.W.excInitIn
    rw [h]
    simp [ht]
  · obtain ⟨cd, e, m, _⟩ := T.cls
    unfold PySem.W.excOver
    rw [e]
    show (match cd.mro with | .ref C' :: bm => C' == C && PySem.W.excTail bmB bm | _ => false) = true
    rw [m]
    simp [ht]
theorem XcK.xf (T : XcK K C bm newId f) (ht : PySem.W.excTail bmB bm = true) (hb : bmB.contains (.type "BaseException") = true) : XfC K C := ⟨T.ga, T.gg, (sub_cls T.cls _).trans (by rw [tail_has ht _ hb]), T.hd⟩
theorem XcK.ex (T : XcK K C bm newId f) (ht : PySem.W.excTail bmB bm = true) (hb : bmB.contains (.type "BaseException") = true) (ho : bmB.contains (.type "object") = true)
    (sp : PySem.W.specialIn K (.builtin "object.__class__") "__get__" = some (some (.builtin "getset_descriptor.__get__"))) (tk : PySem.W.takesIn K (.builtin "object.__class__") = some true) : ExcC K C :=
  ⟨T.ga, T.gg, (sub_cls T.cls _).trans (by rw [tail_has ht _ hb]), T.hd, T.ca, sp, tk, (sub_cls T.cls (.type "object")).trans (by rw [tail_has ht _ ho])⟩
end
theorem oexV {K : PySem.W.Frag} {C CP : Addr} {f : Str} (h : XcK K C (.ref CP :: XC.tlV) "ValueError.__new__" f) : OexG K C := h.oex XC.basV (by show PySem.W.excTail XC.tlV XC.tlV = true; decide +kernel) (by decide +kernel)
theorem oexK {K : PySem.W.Frag} {C : Addr} {f : Str} (h : XcK K C XC.tlK "LookupError.__new__" f) : OexG K C := h.oex XC.basK (by decide +kernel) (by decide +kernel)
theorem oexR {K : PySem.W.Frag} {C : Addr} {f : Str} (h : XcK K C XC.tlR "RuntimeError.__new__" f) : OexG K C := h.oex XC.basR (by decide +kernel) (by decide +kernel)

theorem xcB_ok {K : PySem.W.Frag} {x : Str} {bm : List Value} {newId : String} {f : Str} (h : xcB K x bm newId f = true) : XcK K (He.ga K x) bm newId f := by
  obtain ⟨h1, h⟩ := He.ba h
  obtain ⟨h2, h⟩ := He.ba h
  obtain ⟨h3, h⟩ := He.ba h
  obtain ⟨h4, h⟩ := He.ba h
  obtain ⟨h5, h⟩ := He.ba h
  obtain ⟨h6, h7⟩ := He.ba h
  refine ⟨?_, He.eqO_ok h2, h3, He.eqO_ok h4, He.eqO_ok h5, He.eqO_ok h6, He.eqO_ok h7⟩
  cases e : K.lookup (He.ga K x) with
  | none =>
    rw [e] at h1
    cases h1
  | some o =>
    rw [e] at h1
    obtain ⟨cl, dd, dt, sl⟩ := o
    cases dt with
    | cls cd =>
      obtain ⟨nm, bs, mro, N, q, hd, sn, sub, ab, col, del⟩ := cd
      obtain ⟨a1, b1⟩ := He.ba (show (decide (cl = .type "type") && (decide (mro = .ref (He.ga K x) :: bm) && (hd && (!del && (match sl.toList with
        | [_, _, _, _, some n, _] => decide (n = .builtin newId)
        | _ => false))))) = true from h1)
      obtain ⟨a2, b2⟩ := He.ba b1
      obtain ⟨a3, b3⟩ := He.ba b2
      obtain ⟨a4, b4⟩ := He.ba b3
      split at b4
      · rename_i k0 k1 k2 k3 n k5 hs
        obtain ⟨sl⟩ := sl
        have hs2 : sl = [k0, k1, k2, k3, some n, k5] := hs
        cases hs2
        cases of_decide_eq_true b4
        cases of_decide_eq_true a1
        cases of_decide_eq_true a2
        cases a3
        cases del with
        | true => cases a4
        | false => exact ⟨_, _, _, _, _, _, _, _, _, _, _, _, _, _, rfl⟩
      · cases b4
    | _ => cases h1

/-! ### the end -/
theorem khFacts {l : PySem.W.OpenLaw} {w : World} {K : PySem.W.Frag} {h : Heap} {mg : Str → Option Value} {fa : Addr} (X : K.In h) (G : h.Ns mainGlobals mg) (hfa : mg "law" = some (.ref fa)) (c : SaysA khX khF khD khW K) :
    ∃ fd : FuncData, (∀ (s : Shared) (v : Value), BindsTo s fd ⟨[v], []⟩ [("_law_script", v)]) ∧ ∀ base : Heap, K.In base → base.Ns mainGlobals mg → FnOk l.prog w K mg base CX0 103 fa fd PLaw (spLaw K) := by
  have gMixed := He.glo_ok X G (x := "_law_mixed") (c.fact 0 (by kernel_rfl))
  obtain ⟨fdMixed, FMixed⟩ := c.def_ 0 (a := ("_law_mixed", none)) (x := "_law_mixed") (q := "_law_mixed") (st := sMixed) (by kernel_rfl)
  have bMixed := FMixed.binds (ps := PMixed) fun _ _ _ _ _ _ us hl => match us, hl with | [_, _, _], _ => rfl
  have kMixed := FMixed.kp
  have gDraw := He.glo_ok X G (x := "_law_draw") (c.fact 1 (by kernel_rfl))
  obtain ⟨fdDraw, FDraw⟩ := c.def_ 1 (a := ("_law_draw", none)) (x := "_law_draw") (q := "_law_draw") (st := sDraw) (by kernel_rfl)
  have bDraw := FDraw.binds (ps := PDraw) fun _ _ _ _ _ _ us hl => match us, hl with | [_, _], _ => rfl
  have kDraw := FDraw.kp
  have gPool := He.glo_ok X G (x := "_law_pool") (c.fact 2 (by kernel_rfl))
  obtain ⟨fdPool, FPool⟩ := c.def_ 2 (a := ("_law_pool", none)) (x := "_law_pool") (q := "_law_pool") (st := sPool) (by kernel_rfl)
  have bPool := FPool.binds (ps := PPool) fun _ _ _ _ _ _ us hl => match us, hl with | [_], _ => rfl
  have kPool := FPool.kp
  have gIsName := He.glo_ok X G (x := "is_name") (c.fact 3 (by kernel_rfl))
  obtain ⟨fdIsName, FIsName⟩ := c.def_ 3 (a := ("is_name", none)) (x := "is_name") (q := "is_name") (st := sIsName) (by kernel_rfl)
  have bIsName := FIsName.binds (ps := PIsName) fun _ _ _ _ _ _ us hl => match us, hl with | [_], _ => rfl
  have kIsName := FIsName.kp
  have gParts := He.glo_ok X G (x := "parts_of") (c.fact 4 (by kernel_rfl))
  obtain ⟨fdParts, FParts⟩ := c.def_ 4 (a := ("parts_of", none)) (x := "parts_of") (q := "parts_of") (st := sParts) (by kernel_rfl)
  have bParts := FParts.binds (ps := PParts) fun _ _ _ _ _ _ us hl => match us, hl with | [_], _ => rfl
  have kParts := FParts.kp
  have gSize := He.glo_ok X G (x := "size_of") (c.fact 5 (by kernel_rfl))
  obtain ⟨fdSize, FSize⟩ := c.def_ 5 (a := ("size_of", none)) (x := "size_of") (q := "size_of") (st := sSize) (by kernel_rfl)
  have bSize := FSize.binds (ps := PSize) fun _ _ _ _ _ _ us hl => match us, hl with | [_], _ => rfl
  have kSize := FSize.kp
  have gNumb := He.glo_ok X G (x := "numbered") (c.fact 6 (by kernel_rfl))
  obtain ⟨fdNumb, FNumb⟩ := c.def_ 6 (a := ("numbered", none)) (x := "numbered") (q := "numbered") (st := sNumb) (by kernel_rfl)
  have bNumb := FNumb.binds (ps := PNumb) fun _ _ _ _ _ _ us hl => match us, hl with | [_, _], _ => rfl
  have kNumb := FNumb.kp
  have gNPar := He.glo_ok X G (x := "numbered_parts") (c.fact 7 (by kernel_rfl))
  obtain ⟨fdNPar, FNPar⟩ := c.def_ 7 (a := ("numbered_parts", none)) (x := "numbered_parts") (q := "numbered_parts") (st := sNPar) (by kernel_rfl)
  have bNPar := FNPar.binds (ps := PNPar) fun _ _ _ _ _ _ us hl => match us, hl with | [_, _], _ => rfl
  have kNPar := FNPar.kp
  have gAllN := He.glo_ok X G (x := "all_numbered") (c.fact 8 (by kernel_rfl))
  obtain ⟨fdAllN, FAllN⟩ := c.def_ 8 (a := ("all_numbered", none)) (x := "all_numbered") (q := "all_numbered") (st := sAllN) (by kernel_rfl)
  have bAllN := FAllN.binds (ps := PAllN) fun _ _ _ _ _ _ us hl => match us, hl with | [_, _], _ => rfl
  have kAllN := FAllN.kp
  have gIsPair := He.glo_ok X G (x := "is_pair") (c.fact 9 (by kernel_rfl))
  obtain ⟨fdIsPair, FIsPair⟩ := c.def_ 9 (a := ("is_pair", none)) (x := "is_pair") (q := "is_pair") (st := sIsPair) (by kernel_rfl)
  have bIsPair := FIsPair.binds (ps := PIsPair) fun _ _ _ _ _ _ us hl => match us, hl with | [_], _ => rfl
  have kIsPair := FIsPair.kp
  have gRowN := He.glo_ok X G (x := "is_row_of_names") (c.fact 10 (by kernel_rfl))
  obtain ⟨fdRowN, FRowN⟩ := c.def_ 10 (a := ("is_row_of_names", none)) (x := "is_row_of_names") (q := "is_row_of_names") (st := sRowN) (by kernel_rfl)
  have bRowN := FRowN.binds (ps := PRowN) fun _ _ _ _ _ _ us hl => match us, hl with | [_], _ => rfl
  have kRowN := FRowN.kp
  have gIsInt := He.glo_ok X G (x := "is_integer") (c.fact 11 (by kernel_rfl))
  obtain ⟨fdIsInt, FIsInt⟩ := c.def_ 11 (a := ("is_integer", none)) (x := "is_integer") (q := "is_integer") (st := sIsInt) (by kernel_rfl)
  have bIsInt := FIsInt.binds (ps := PIsInt) fun _ _ _ _ _ _ us hl => match us, hl with | [_], _ => rfl
  have kIsInt := FIsInt.kp
  have gIsExp := He.glo_ok X G (x := "is_expression") (c.fact 12 (by kernel_rfl))
  obtain ⟨fdIsExp, FIsExp⟩ := c.def_ 12 (a := ("is_expression", none)) (x := "is_expression") (q := "is_expression") (st := sIsExp) (by kernel_rfl)
  have bIsExp := FIsExp.binds (ps := PIsExp) fun _ _ _ _ _ _ us hl => match us, hl with | [_], _ => rfl
  have kIsExp := FIsExp.kp
  have gIsArg := He.glo_ok X G (x := "is_arg") (c.fact 13 (by kernel_rfl))
  obtain ⟨fdIsArg, FIsArg⟩ := c.def_ 13 (a := ("is_arg", none)) (x := "is_arg") (q := "is_arg") (st := sIsArg) (by kernel_rfl)
  have bIsArg := FIsArg.binds (ps := PIsArg) fun _ _ _ _ _ _ us hl => match us, hl with | [_], _ => rfl
  have kIsArg := FIsArg.kp
  have gIsCal := He.glo_ok X G (x := "is_call") (c.fact 14 (by kernel_rfl))
  obtain ⟨fdIsCal, FIsCal⟩ := c.def_ 14 (a := ("is_call", none)) (x := "is_call") (q := "is_call") (st := sIsCal) (by kernel_rfl)
  have bIsCal := FIsCal.binds (ps := PIsCal) fun _ _ _ _ _ _ us hl => match us, hl with | [_], _ => rfl
  have kIsCal := FIsCal.kp
  have gIsSim := He.glo_ok X G (x := "is_simple") (c.fact 15 (by kernel_rfl))
  obtain ⟨fdIsSim, FIsSim⟩ := c.def_ 15 (a := ("is_simple", none)) (x := "is_simple") (q := "is_simple") (st := sIsSim) (by kernel_rfl)
  have bIsSim := FIsSim.binds (ps := PIsSim) fun _ _ _ _ _ _ us hl => match us, hl with | [_], _ => rfl
  have kIsSim := FIsSim.kp
  have gIsBlk := He.glo_ok X G (x := "is_block") (c.fact 16 (by kernel_rfl))
  obtain ⟨fdIsBlk, FIsBlk⟩ := c.def_ 16 (a := ("is_block", none)) (x := "is_block") (q := "is_block") (st := sIsBlk) (by kernel_rfl)
  have bIsBlk := FIsBlk.binds (ps := PIsBlk) fun _ _ _ _ _ _ us hl => match us, hl with | [_, _], _ => rfl
  have kIsBlk := FIsBlk.kp
  have gIsHnd := He.glo_ok X G (x := "is_handler") (c.fact 17 (by kernel_rfl))
  obtain ⟨fdIsHnd, FIsHnd⟩ := c.def_ 17 (a := ("is_handler", none)) (x := "is_handler") (q := "is_handler") (st := sIsHnd) (by kernel_rfl)
  have bIsHnd := FIsHnd.binds (ps := PIsHnd) fun _ _ _ _ _ _ us hl => match us, hl with | [_, _], _ => rfl
  have kIsHnd := FIsHnd.kp
  have gIsSta := He.glo_ok X G (x := "is_statement") (c.fact 18 (by kernel_rfl))
  obtain ⟨fdIsSta, FIsSta⟩ := c.def_ 18 (a := ("is_statement", none)) (x := "is_statement") (q := "is_statement") (st := sIsSta) (by kernel_rfl)
  have bIsSta := FIsSta.binds (ps := PIsSta) fun _ _ _ _ _ _ us hl => match us, hl with | [_, _], _ => rfl
  have kIsSta := FIsSta.kp
  have gIsPar := He.glo_ok X G (x := "is_param") (c.fact 19 (by kernel_rfl))
  obtain ⟨fdIsPar, FIsPar⟩ := c.def_ 19 (a := ("is_param", none)) (x := "is_param") (q := "is_param") (st := sIsPar) (by kernel_rfl)
  have bIsPar := FIsPar.binds (ps := PIsPar) fun _ _ _ _ _ _ us hl => match us, hl with | [_], _ => rfl
  have kIsPar := FIsPar.kp
  have gIsFun := He.glo_ok X G (x := "is_function") (c.fact 20 (by kernel_rfl))
  obtain ⟨fdIsFun, FIsFun⟩ := c.def_ 20 (a := ("is_function", none)) (x := "is_function") (q := "is_function") (st := sIsFun) (by kernel_rfl)
  have bIsFun := FIsFun.binds (ps := PIsFun) fun _ _ _ _ _ _ us hl => match us, hl with | [_], _ => rfl
  have kIsFun := FIsFun.kp
  have gIsTree := He.glo_ok X G (x := "is_tree") (c.fact 21 (by kernel_rfl))
  obtain ⟨fdIsTree, FIsTree⟩ := c.def_ 21 (a := ("is_tree", none)) (x := "is_tree") (q := "is_tree") (st := sIsTree) (by kernel_rfl)
  have bIsTree := FIsTree.binds (ps := PIsTree) fun _ _ _ _ _ _ us hl => match us, hl with | [_], _ => rfl
  have kIsTree := FIsTree.kp
  have gAsg := He.glo_ok X G (x := "assigned_names") (c.fact 22 (by kernel_rfl))
  obtain ⟨fdAsg, FAsg⟩ := c.def_ 22 (a := ("assigned_names", none)) (x := "assigned_names") (q := "assigned_names") (st := sAsg) (by kernel_rfl)
  have bAsg := FAsg.binds (ps := PAsg) fun _ _ _ _ _ _ us hl => match us, hl with | [_], _ => rfl
  have kAsg := FAsg.kp
  have gOwn := He.glo_ok X G (x := "own_names") (c.fact 23 (by kernel_rfl))
  obtain ⟨fdOwn, FOwn⟩ := c.def_ 23 (a := ("own_names", none)) (x := "own_names") (q := "own_names") (st := sOwn) (by kernel_rfl)
  have bOwn := FOwn.binds (ps := POwn) fun _ _ _ _ _ _ us hl => match us, hl with | [_, _], _ => rfl
  have kOwn := FOwn.kp
  have gUnl := He.glo_ok X G (x := "check_unlike") (c.fact 24 (by kernel_rfl))
  obtain ⟨fdUnl, FUnl⟩ := c.def_ 24 (a := ("check_unlike", none)) (x := "check_unlike") (q := "check_unlike") (st := sUnl) (by kernel_rfl)
  have bUnl := FUnl.binds (ps := PUnl) fun _ _ _ _ _ _ us hl => match us, hl with | [_], _ => rfl
  have kUnl := FUnl.kp
  have gNoA := He.glo_ok X G (x := "names_of_args") (c.fact 25 (by kernel_rfl))
  obtain ⟨fdNoA, FNoA⟩ := c.def_ 25 (a := ("names_of_args", none)) (x := "names_of_args") (q := "names_of_args") (st := sNoA) (by kernel_rfl)
  have bNoA := FNoA.binds (ps := PNoA) fun _ _ _ _ _ _ us hl => match us, hl with | [_], _ => rfl
  have kNoA := FNoA.kp
  have gExs := He.glo_ok X G (x := "expressions_of") (c.fact 26 (by kernel_rfl))
  obtain ⟨fdExs, FExs⟩ := c.def_ 26 (a := ("expressions_of", none)) (x := "expressions_of") (q := "expressions_of") (st := sExs) (by kernel_rfl)
  have bExs := FExs.binds (ps := PExs) fun _ _ _ _ _ _ us hl => match us, hl with | [_], _ => rfl
  have kExs := FExs.kp
  have gFits := He.glo_ok X G (x := "fits") (c.fact 27 (by kernel_rfl))
  obtain ⟨fdFits, FFits⟩ := c.def_ 27 (a := ("fits", none)) (x := "fits") (q := "fits") (st := sFits) (by kernel_rfl)
  have bFits := FFits.binds (ps := PFits) fun _ _ _ _ _ _ us hl => match us, hl with | [_, _, _], _ => rfl
  have kFits := FFits.kp
  have gNmI := He.glo_ok X G (x := "named_in") (c.fact 28 (by kernel_rfl))
  obtain ⟨fdNmI, FNmI⟩ := c.def_ 28 (a := ("named_in", none)) (x := "named_in") (q := "named_in") (st := sNmI) (by kernel_rfl)
  have bNmI := FNmI.binds (ps := PNmI) fun _ _ _ _ _ _ us hl => match us, hl with | [_], _ => rfl
  have kNmI := FNmI.kp
  have gGrt := He.glo_ok X G (x := "has_great_number") (c.fact 29 (by kernel_rfl))
  obtain ⟨fdGrt, FGrt⟩ := c.def_ 29 (a := ("has_great_number", none)) (x := "has_great_number") (q := "has_great_number") (st := sGrt) (by kernel_rfl)
  have bGrt := FGrt.binds (ps := PGrt) fun _ _ _ _ _ _ us hl => match us, hl with | [_], _ => rfl
  have kGrt := FGrt.kp
  have gDep := He.glo_ok X G (x := "depth_of") (c.fact 30 (by kernel_rfl))
  obtain ⟨fdDep, FDep⟩ := c.def_ 30 (a := ("depth_of", none)) (x := "depth_of") (q := "depth_of") (st := sDep) (by kernel_rfl)
  have bDep := FDep.binds (ps := PDep) fun _ _ _ _ _ _ us hl => match us, hl with | [_], _ => rfl
  have kDep := FDep.kp
  have gChS := He.glo_ok X G (x := "check_sizes") (c.fact 31 (by kernel_rfl))
  obtain ⟨fdChS, FChS⟩ := c.def_ 31 (a := ("check_sizes", none)) (x := "check_sizes") (q := "check_sizes") (st := sChS) (by kernel_rfl)
  have bChS := FChS.binds (ps := PChS) fun _ _ _ _ _ _ us hl => match us, hl with | [_], _ => rfl
  have kChS := FChS.kp
  have gNames := He.glo_ok X G (x := "_law_names") (c.fact 32 (by kernel_rfl))
  obtain ⟨fdNames, FNames⟩ := c.def_ 32 (a := ("_law_names", none)) (x := "_law_names") (q := "_law_names") (st := sNames) (by kernel_rfl)
  have bNames := FNames.binds (ps := PNames) fun _ _ _ _ _ _ us hl => match us, hl with | [_], _ => rfl
  have kNames := FNames.kp
  have gUnX := He.glo_ok X G (x := "check_unlike") (c.fact 33 (by kernel_rfl))
  obtain ⟨fdUnX, FUnX⟩ := c.def_ 33 (a := ("check_unlike", none)) (x := "check_unlike") (q := "check_unlike") (st := sUnX) (by kernel_rfl)
  have bUnX := FUnX.binds (ps := PUnX) fun _ _ _ _ _ _ us hl => match us, hl with | [_], _ => rfl
  have kUnX := FUnX.kp
  have gFiX := He.glo_ok X G (x := "fits") (c.fact 34 (by kernel_rfl))
  obtain ⟨fdFiX, FFiX⟩ := c.def_ 34 (a := ("fits", none)) (x := "fits") (q := "fits") (st := sFiX) (by kernel_rfl)
  have bFiX := FFiX.binds (ps := PFiX) fun _ _ _ _ _ _ us hl => match us, hl with | [_, _, _], _ => rfl
  have kFiX := FFiX.kp
  have gChT := He.glo_ok X G (x := "check_statement") (c.fact 35 (by kernel_rfl))
  obtain ⟨fdChT, FChT⟩ := c.def_ 35 (a := ("check_statement", none)) (x := "check_statement") (q := "check_statement") (st := sChT) (by kernel_rfl)
  have bChT := FChT.binds (ps := PChT) fun _ _ _ _ _ _ us hl => match us, hl with | [_, _, _, _], _ => rfl
  have kChT := FChT.kp
  have gChX := He.glo_ok X G (x := "check_statement") (c.fact 36 (by kernel_rfl))
  obtain ⟨fdChX, FChX⟩ := c.def_ 36 (a := ("check_statement", none)) (x := "check_statement") (q := "check_statement") (st := sChX) (by kernel_rfl)
  have bChX := FChX.binds (ps := PChX) fun _ _ _ _ _ _ us hl => match us, hl with | [_, _, _, _], _ => rfl
  have kChX := FChX.kp
  have gChN := He.glo_ok X G (x := "check_names") (c.fact 37 (by kernel_rfl))
  obtain ⟨fdChN, FChN⟩ := c.def_ 37 (a := ("check_names", none)) (x := "check_names") (q := "check_names") (st := sChN) (by kernel_rfl)
  have bChN := FChN.binds (ps := PChN) fun _ _ _ _ _ _ us hl => match us, hl with | [_], _ => rfl
  have kChN := FChN.kp
  have gChY := He.glo_ok X G (x := "check_names") (c.fact 38 (by kernel_rfl))
  obtain ⟨fdChY, FChY⟩ := c.def_ 38 (a := ("check_names", none)) (x := "check_names") (q := "check_names") (st := sChY) (by kernel_rfl)
  have bChY := FChY.binds (ps := PChY) fun _ _ _ _ _ _ us hl => match us, hl with | [_], _ => rfl
  have kChY := FChY.kp
  have gQWd := He.glo_ok X G (x := "_law_is_word") (c.fact 39 (by kernel_rfl))
  obtain ⟨fdQWd, FQWd⟩ := c.def_ 39 (a := ("_law_is_word", none)) (x := "_law_is_word") (q := "_law_is_word") (st := sQWd) (by kernel_rfl)
  have bQWd := FQWd.binds (ps := PQWd) fun _ _ _ _ _ _ us hl => match us, hl with | [_], _ => rfl
  have kQWd := FQWd.kp
  have gQAn := He.glo_ok X G (x := "_law_all_names") (c.fact 40 (by kernel_rfl))
  obtain ⟨fdQAn, FQAn⟩ := c.def_ 40 (a := ("_law_all_names", none)) (x := "_law_all_names") (q := "_law_all_names") (st := sQAn) (by kernel_rfl)
  have bQAn := FQAn.binds (ps := PQAn) fun _ _ _ _ _ _ us hl => match us, hl with | [_], _ => rfl
  have kQAn := FQAn.kp
  have gQSm := He.glo_ok X G (x := "_law_is_sum") (c.fact 41 (by kernel_rfl))
  obtain ⟨fdQSm, FQSm⟩ := c.def_ 41 (a := ("_law_is_sum", none)) (x := "_law_is_sum") (q := "_law_is_sum") (st := sQSm) (by kernel_rfl)
  have bQSm := FQSm.binds (ps := PQSm) fun _ _ _ _ _ _ us hl => match us, hl with | [_], _ => rfl
  have kQSm := FQSm.kp
  have gQAg := He.glo_ok X G (x := "_law_is_args") (c.fact 42 (by kernel_rfl))
  obtain ⟨fdQAg, FQAg⟩ := c.def_ 42 (a := ("_law_is_args", none)) (x := "_law_is_args") (q := "_law_is_args") (st := sQAg) (by kernel_rfl)
  have bQAg := FQAg.binds (ps := PQAg) fun _ _ _ _ _ _ us hl => match us, hl with | [_], _ => rfl
  have kQAg := FQAg.kp
  have gQCl := He.glo_ok X G (x := "_law_is_call") (c.fact 43 (by kernel_rfl))
  obtain ⟨fdQCl, FQCl⟩ := c.def_ 43 (a := ("_law_is_call", none)) (x := "_law_is_call") (q := "_law_is_call") (st := sQCl) (by kernel_rfl)
  have bQCl := FQCl.binds (ps := PQCl) fun _ _ _ _ _ _ us hl => match us, hl with | [_], _ => rfl
  have kQCl := FQCl.kp
  have gQHd := He.glo_ok X G (x := "_law_is_handlers") (c.fact 44 (by kernel_rfl))
  obtain ⟨fdQHd, FQHd⟩ := c.def_ 44 (a := ("_law_is_handlers", none)) (x := "_law_is_handlers") (q := "_law_is_handlers") (st := sQHd) (by kernel_rfl)
  have bQHd := FQHd.binds (ps := PQHd) fun _ _ _ _ _ _ us hl => match us, hl with | [_], _ => rfl
  have kQHd := FQHd.kp
  have gQBl := He.glo_ok X G (x := "_law_is_block") (c.fact 45 (by kernel_rfl))
  obtain ⟨fdQBl, FQBl⟩ := c.def_ 45 (a := ("_law_is_block", none)) (x := "_law_is_block") (q := "_law_is_block") (st := sQBl) (by kernel_rfl)
  have bQBl := FQBl.binds (ps := PQBl) fun _ _ _ _ _ _ us hl => match us, hl with | [_], _ => rfl
  have kQBl := FQBl.kp
  have gQSt := He.glo_ok X G (x := "_law_is_statement") (c.fact 46 (by kernel_rfl))
  obtain ⟨fdQSt, FQSt⟩ := c.def_ 46 (a := ("_law_is_statement", none)) (x := "_law_is_statement") (q := "_law_is_statement") (st := sQSt) (by kernel_rfl)
  have bQSt := FQSt.binds (ps := PQSt) fun _ _ _ _ _ _ us hl => match us, hl with | [_], _ => rfl
  have kQSt := FQSt.kp
  have gQFn := He.glo_ok X G (x := "_law_is_function") (c.fact 47 (by kernel_rfl))
  obtain ⟨fdQFn, FQFn⟩ := c.def_ 47 (a := ("_law_is_function", none)) (x := "_law_is_function") (q := "_law_is_function") (st := sQFn) (by kernel_rfl)
  have bQFn := FQFn.binds (ps := PQFn) fun _ _ _ _ _ _ us hl => match us, hl with | [_], _ => rfl
  have kQFn := FQFn.kp
  have gQTr := He.glo_ok X G (x := "_law_is_tree") (c.fact 48 (by kernel_rfl))
  obtain ⟨fdQTr, FQTr⟩ := c.def_ 48 (a := ("_law_is_tree", none)) (x := "_law_is_tree") (q := "_law_is_tree") (st := sQTr) (by kernel_rfl)
  have bQTr := FQTr.binds (ps := PQTr) fun _ _ _ _ _ _ us hl => match us, hl with | [_], _ => rfl
  have kQTr := FQTr.kp
  have gLEx := He.glo_ok X G (x := "_law_expression") (c.fact 49 (by kernel_rfl))
  obtain ⟨fdLEx, FLEx⟩ := c.def_ 49 (a := ("_law_expression", none)) (x := "_law_expression") (q := "_law_expression") (st := sLEx) (by kernel_rfl)
  have bLEx := FLEx.binds (ps := PLEx) fun _ _ _ _ _ _ us hl => match us, hl with | [_, _, _], _ => rfl
  have kLEx := FLEx.kp
  have gLAr := He.glo_ok X G (x := "_law_args") (c.fact 50 (by kernel_rfl))
  obtain ⟨fdLAr, FLAr⟩ := c.def_ 50 (a := ("_law_args", none)) (x := "_law_args") (q := "_law_args") (st := sLAr) (by kernel_rfl)
  have bLAr := FLAr.binds (ps := PLAr) fun _ _ _ _ _ _ us hl => match us, hl with | [_, _, _], _ => rfl
  have kLAr := FLAr.kp
  have gLCa := He.glo_ok X G (x := "_law_call") (c.fact 51 (by kernel_rfl))
  obtain ⟨fdLCa, FLCa⟩ := c.def_ 51 (a := ("_law_call", none)) (x := "_law_call") (q := "_law_call") (st := sLCa) (by kernel_rfl)
  have bLCa := FLCa.binds (ps := PLCa) fun _ _ _ _ _ _ us hl => match us, hl with | [_, _], _ => rfl
  have kLCa := FLCa.kp
  have gLPi := He.glo_ok X G (x := "_law_piece") (c.fact 52 (by kernel_rfl))
  obtain ⟨fdLPi, FLPi⟩ := c.def_ 52 (a := ("_law_piece", none)) (x := "_law_piece") (q := "_law_piece") (st := sLPi) (by kernel_rfl)
  have bLPi := FLPi.binds (ps := PLPi) fun _ _ _ _ _ _ us hl => match us, hl with | [_, _, _, _], _ => rfl
  have kLPi := FLPi.kp
  have gLBk := He.glo_ok X G (x := "_law_block") (c.fact 53 (by kernel_rfl))
  obtain ⟨fdLBk, FLBk⟩ := c.def_ 53 (a := ("_law_block", none)) (x := "_law_block") (q := "_law_block") (st := sLBk) (by kernel_rfl)
  have bLBk := FLBk.binds (ps := PLBk) fun _ _ _ _ _ _ us hl => match us, hl with | [_, _, _, _], _ => rfl
  have kLBk := FLBk.kp
  have gLTr := He.glo_ok X G (x := "_law_tree") (c.fact 54 (by kernel_rfl))
  obtain ⟨fdLTr, FLTr⟩ := c.def_ 54 (a := ("_law_tree", none)) (x := "_law_tree") (q := "_law_tree") (st := sLTr) (by kernel_rfl)
  have bLTr := FLTr.binds (ps := PLTr) fun _ _ _ _ _ _ us hl => match us, hl with | [_], _ => rfl
  have kLTr := FLTr.kp
  have gSame := He.glo_ok X G (x := "_law_same") (c.fact 55 (by kernel_rfl))
  obtain ⟨fdSame, FSame⟩ := c.def_ 55 (a := ("_law_same", none)) (x := "_law_same") (q := "_law_same") (st := sSame) (by kernel_rfl)
  have bSame := FSame.binds (ps := PSame) fun _ _ _ _ _ _ us hl => match us, hl with | [_, _], _ => rfl
  have kSame := FSame.kp
  have gQIn := He.glo_ok X G (x := "_law_inner") (c.fact 56 (by kernel_rfl))
  obtain ⟨fdQIn, FQIn⟩ := c.def_ 56 (a := ("_law_inner", none)) (x := "_law_inner") (q := "_law_inner") (st := sQIn) (by kernel_rfl)
  have bQIn := FQIn.binds (ps := PQIn) fun _ _ _ _ _ _ us hl => match us, hl with | [_, _, _], _ => rfl
  have kQIn := FQIn.kp
  have gQCh := He.glo_ok X G (x := "_law_changed") (c.fact 57 (by kernel_rfl))
  obtain ⟨fdQCh, FQCh⟩ := c.def_ 57 (a := ("_law_changed", none)) (x := "_law_changed") (q := "_law_changed") (st := sQCh) (by kernel_rfl)
  have bQCh := FQCh.binds (ps := PQCh) fun _ _ _ _ _ _ us hl => match us, hl with | [_, _, _, _], _ => rfl
  have kQCh := FQCh.kp
  have gLaw := He.glo_ok X G (x := "law") (c.fact 58 (by kernel_rfl))
  obtain ⟨fdLaw, FLaw⟩ := c.def_ 58 (a := ("law", none)) (x := "law") (q := "law") (st := sLaw) (by kernel_rfl)
  have bLaw := FLaw.binds (ps := PLaw) fun _ _ _ _ _ _ us hl => match us, hl with | [_], _ => rfl
  have kLaw := FLaw.kp
  have gProgramError := He.glo_ok X G (x := "ProgramError") (c.fact 59 (by kernel_rfl))
  have gProgram := He.glo_ok X G (x := "Program") (c.fact 60 (by kernel_rfl))
  have clProgram := He.cls_ok (x := "Program") (c.fact 61 (by kernel_rfl))
  have mkProgram := He.mkr_ok (x := "Program") (c.fact 62 (by kernel_rfl))
  have noProgram_content := He.noat_ok (x := "Program") (f := "content") (c.fact 63 (by kernel_rfl))
  have noProgram_globals := He.noat_ok (x := "Program") (f := "globals") (c.fact 64 (by kernel_rfl))
  have mePIX := He.meth_ok (x := "Program") (m := "__init__") (c.fact 65 (by kernel_rfl))
  obtain ⟨fdPIX, FPIX⟩ := c.def_ 59 (a := ("Program", some "__init__")) (x := "__init__") (q := "Program.__init__") (st := sPIX) (by kernel_rfl)
  have bPIX := FPIX.binds (ps := PPIX) fun _ _ _ _ _ _ us hl => match us, hl with | [_, _], _ => rfl
  have kPIX := FPIX.kp
  have x_2 : XcK K (He.ga K "InvalidTree") (.ref (He.ga K "ProgramError") :: XC.tlV) "ValueError.__new__" "value" := xcB_ok (c.x 0 (f := fun K => xcB K "InvalidTree" (.ref (He.ga K "ProgramError") :: XC.tlV) "ValueError.__new__" "value") (by kernel_rfl))
  have gInvalidTree := He.glo_ok X G (x := "InvalidTree") (c.fact 66 (by kernel_rfl))
  have meXI2 := He.meth_ok (x := "InvalidTree") (m := "__init__") (c.fact 67 (by kernel_rfl))
  obtain ⟨fdXI2, FXI2⟩ := c.def_ 60 (a := ("InvalidTree", some "__init__")) (x := "__init__") (q := "InvalidTree.__init__") (st := sXI2) (by kernel_rfl)
  have bXI2 := FXI2.binds (ps := PXI2) fun _ _ _ _ _ _ us hl => match us, hl with | [_, _], _ => rfl
  have kXI2 := FXI2.kp
  have x_3 : XcK K (He.ga K "DuplicateName") (.ref (He.ga K "ProgramError") :: XC.tlV) "ValueError.__new__" "name" := xcB_ok (c.x 1 (f := fun K => xcB K "DuplicateName" (.ref (He.ga K "ProgramError") :: XC.tlV) "ValueError.__new__" "name") (by kernel_rfl))
  have gDuplicateName := He.glo_ok X G (x := "DuplicateName") (c.fact 68 (by kernel_rfl))
  have meXI3 := He.meth_ok (x := "DuplicateName") (m := "__init__") (c.fact 69 (by kernel_rfl))
  obtain ⟨fdXI3, FXI3⟩ := c.def_ 61 (a := ("DuplicateName", some "__init__")) (x := "__init__") (q := "DuplicateName.__init__") (st := sXI3) (by kernel_rfl)
  have bXI3 := FXI3.binds (ps := PXI3) fun _ _ _ _ _ _ us hl => match us, hl with | [_, _], _ => rfl
  have kXI3 := FXI3.kp
  have x_4 : XcK K (He.ga K "UnknownName") (.ref (He.ga K "ProgramError") :: XC.tlV) "ValueError.__new__" "name" := xcB_ok (c.x 2 (f := fun K => xcB K "UnknownName" (.ref (He.ga K "ProgramError") :: XC.tlV) "ValueError.__new__" "name") (by kernel_rfl))
  have gUnknownName := He.glo_ok X G (x := "UnknownName") (c.fact 70 (by kernel_rfl))
  have meXI4 := He.meth_ok (x := "UnknownName") (m := "__init__") (c.fact 71 (by kernel_rfl))
  obtain ⟨fdXI4, FXI4⟩ := c.def_ 62 (a := ("UnknownName", some "__init__")) (x := "__init__") (q := "UnknownName.__init__") (st := sXI4) (by kernel_rfl)
  have bXI4 := FXI4.binds (ps := PXI4) fun _ _ _ _ _ _ us hl => match us, hl with | [_, _], _ => rfl
  have kXI4 := FXI4.kp
  have x_5 : XcK K (He.ga K "WrongArguments") (.ref (He.ga K "ProgramError") :: XC.tlV) "ValueError.__new__" "place" := xcB_ok (c.x 3 (f := fun K => xcB K "WrongArguments" (.ref (He.ga K "ProgramError") :: XC.tlV) "ValueError.__new__" "place") (by kernel_rfl))
  have gWrongArguments := He.glo_ok X G (x := "WrongArguments") (c.fact 72 (by kernel_rfl))
  have meXI5 := He.meth_ok (x := "WrongArguments") (m := "__init__") (c.fact 73 (by kernel_rfl))
  obtain ⟨fdXI5, FXI5⟩ := c.def_ 63 (a := ("WrongArguments", some "__init__")) (x := "__init__") (q := "WrongArguments.__init__") (st := sXI5) (by kernel_rfl)
  have bXI5 := FXI5.binds (ps := PXI5) fun _ _ _ _ _ _ us hl => match us, hl with | [_, _], _ => rfl
  have kXI5 := FXI5.kp
  have x_6 : XcK K (He.ga K "InvalidFinally") (.ref (He.ga K "ProgramError") :: XC.tlV) "ValueError.__new__" "place" := xcB_ok (c.x 4 (f := fun K => xcB K "InvalidFinally" (.ref (He.ga K "ProgramError") :: XC.tlV) "ValueError.__new__" "place") (by kernel_rfl))
  have gInvalidFinally := He.glo_ok X G (x := "InvalidFinally") (c.fact 74 (by kernel_rfl))
  have meXI6 := He.meth_ok (x := "InvalidFinally") (m := "__init__") (c.fact 75 (by kernel_rfl))
  obtain ⟨fdXI6, FXI6⟩ := c.def_ 64 (a := ("InvalidFinally", some "__init__")) (x := "__init__") (q := "InvalidFinally.__init__") (st := sXI6) (by kernel_rfl)
  have bXI6 := FXI6.binds (ps := PXI6) fun _ _ _ _ _ _ us hl => match us, hl with | [_, _], _ => rfl
  have kXI6 := FXI6.kp
  have x_7 : XcK K (He.ga K "TooLarge") (.ref (He.ga K "ProgramError") :: XC.tlV) "ValueError.__new__" "word" := xcB_ok (c.x 5 (f := fun K => xcB K "TooLarge" (.ref (He.ga K "ProgramError") :: XC.tlV) "ValueError.__new__" "word") (by kernel_rfl))
  have gTooLarge := He.glo_ok X G (x := "TooLarge") (c.fact 76 (by kernel_rfl))
  have meXI7 := He.meth_ok (x := "TooLarge") (m := "__init__") (c.fact 77 (by kernel_rfl))
  obtain ⟨fdXI7, FXI7⟩ := c.def_ 65 (a := ("TooLarge", some "__init__")) (x := "__init__") (q := "TooLarge.__init__") (st := sXI7) (by kernel_rfl)
  have bXI7 := FXI7.binds (ps := PXI7) fun _ _ _ _ _ _ us hl => match us, hl with | [_, _], _ => rfl
  have kXI7 := FXI7.kp
  have m_int := He.free_ok X G (x := "int") (c.fact 78 (by kernel_rfl))
  have m_len := He.free_ok X G (x := "len") (c.fact 79 (by kernel_rfl))
  have m_isinstance := He.free_ok X G (x := "isinstance") (c.fact 80 (by kernel_rfl))
  have m_str := He.free_ok X G (x := "str") (c.fact 81 (by kernel_rfl))
  have m_sum := He.free_ok X G (x := "sum") (c.fact 82 (by kernel_rfl))
  have m_tuple := He.free_ok X G (x := "tuple") (c.fact 83 (by kernel_rfl))
  have m_bool := He.free_ok X G (x := "bool") (c.fact 84 (by kernel_rfl))
  have m_all := He.free_ok X G (x := "all") (c.fact 85 (by kernel_rfl))
  have m_zip := He.free_ok X G (x := "zip") (c.fact 86 (by kernel_rfl))
  have m_enumerate := He.free_ok X G (x := "enumerate") (c.fact 87 (by kernel_rfl))
  have m_max := He.free_ok X G (x := "max") (c.fact 88 (by kernel_rfl))
  have m_any := He.free_ok X G (x := "any") (c.fact 89 (by kernel_rfl))
  have m_list := He.free_ok X G (x := "list") (c.fact 90 (by kernel_rfl))
  have m_abs := He.free_ok X G (x := "abs") (c.fact 91 (by kernel_rfl))
  have m_range := He.free_ok X G (x := "range") (c.fact 92 (by kernel_rfl))
  have m_sorted := He.free_ok X G (x := "sorted") (c.fact 93 (by kernel_rfl))
  obtain ⟨t_LETTERS, m_LETTERS⟩ := He.str_ok X G (x := "LETTERS") (z := LET) (c.fact 94 (by kernel_rfl))
  obtain ⟨t_DIGITS, m_DIGITS⟩ := He.str_ok X G (x := "DIGITS") (z := DIG) (c.fact 95 (by kernel_rfl))
  obtain ⟨t_DEEPEST, m_DEEPEST⟩ := He.int_ok X G (x := "DEEPEST") (i := 30) (c.fact 96 (by kernel_rfl))
  obtain ⟨t_LIMIT, m_LIMIT⟩ := He.int_ok X G (x := "LIMIT") (i := 1000000000000) (c.fact 97 (by kernel_rfl))
  have m_KEYWORDS := He.glo_ok X G (x := "KEYWORDS") (c.fact 98 (by kernel_rfl))
  have l_KEYWORDS := fun H => He.tupB_ok (K := K) (x := "KEYWORDS") (vs := [.str "globals", .str "kinds", .str "keep", .str "def", .str "if", .str "else", .str "while", .str "risk", .str "raise", .str "try", .str "except", .str "finally", .str "undo", .str "with", .str "swallow", .str "return"]) (c.x 6 (f := fun K => He.tupB K "KEYWORDS" [.str "globals", .str "kinds", .str "keep", .str "def", .str "if", .str "else", .str "while", .str "risk", .str "raise", .str "try", .str "except", .str "finally", .str "undo", .str "with", .str "swallow", .str "return"]) (by kernel_rfl)) H
  have c_ii := c.x 7 (f := fun K => decide (PySem.W.exmOne K (.ref (He.ga K "InvalidTree")) (.ref (He.ga K "InvalidTree")) = some true)) (by kernel_rfl)
  have c_nd := c.x 8 (f := fun K => decide (PySem.W.exmOne K (.ref (He.ga K "DuplicateName")) (.ref (He.ga K "InvalidTree")) = some false)) (by kernel_rfl)
  have c_pd := c.x 9 (f := fun K => decide (PySem.W.exmOne K (.ref (He.ga K "DuplicateName")) (.ref (He.ga K "ProgramError")) = some true)) (by kernel_rfl)
  have c_nu := c.x 10 (f := fun K => decide (PySem.W.exmOne K (.ref (He.ga K "UnknownName")) (.ref (He.ga K "InvalidTree")) = some false)) (by kernel_rfl)
  have c_pu := c.x 11 (f := fun K => decide (PySem.W.exmOne K (.ref (He.ga K "UnknownName")) (.ref (He.ga K "ProgramError")) = some true)) (by kernel_rfl)
  have c_nw := c.x 12 (f := fun K => decide (PySem.W.exmOne K (.ref (He.ga K "WrongArguments")) (.ref (He.ga K "InvalidTree")) = some false)) (by kernel_rfl)
  have c_pw := c.x 13 (f := fun K => decide (PySem.W.exmOne K (.ref (He.ga K "WrongArguments")) (.ref (He.ga K "ProgramError")) = some true)) (by kernel_rfl)
  have c_nf := c.x 14 (f := fun K => decide (PySem.W.exmOne K (.ref (He.ga K "InvalidFinally")) (.ref (He.ga K "InvalidTree")) = some false)) (by kernel_rfl)
  have c_pf := c.x 15 (f := fun K => decide (PySem.W.exmOne K (.ref (He.ga K "InvalidFinally")) (.ref (He.ga K "ProgramError")) = some true)) (by kernel_rfl)
  have c_nl := c.x 16 (f := fun K => decide (PySem.W.exmOne K (.ref (He.ga K "TooLarge")) (.ref (He.ga K "InvalidTree")) = some false)) (by kernel_rfl)
  have c_pl := c.x 17 (f := fun K => decide (PySem.W.exmOne K (.ref (He.ga K "TooLarge")) (.ref (He.ga K "ProgramError")) = some true)) (by kernel_rfl)
  have hE := hfa.symm.trans gLaw
  cases hE
  have T0 : TxPool mg := ⟨m_int, m_len⟩
  have TN : TxName K mg (He.ga K "KEYWORDS") := { n_isinstance := m_isinstance, n_str := m_str, c_LETTERS := ⟨_, m_LETTERS, _, rfl⟩, c_DIGITS := ⟨_, m_DIGITS, _, rfl⟩, c_KEYWORDS := ⟨_, m_KEYWORDS, rfl⟩, kws := l_KEYWORDS }
  have TI : TxInt mg := ⟨m_int, m_bool, m_isinstance⟩
  have TT : TxTree mg := ⟨m_sum, m_isinstance, m_len⟩
  have TS : TxShape mg := ⟨m_isinstance, m_tuple, m_str, m_bool, m_len, m_all, m_zip⟩
  have TK : TxChk mg := ⟨m_enumerate, m_sum, m_max, m_len, m_any, m_list, m_abs⟩
  have TG : TxGen mg := ⟨m_sorted, m_tuple, m_range, m_len⟩
  have TC : TxPrg K (He.ga K "Program") := ⟨clProgram, noProgram_content, noProgram_globals⟩
  have TM : TxSam mg := ⟨m_bool, m_int, m_str, m_tuple, m_list, m_isinstance, m_len, m_all, m_range⟩
  have TQ : TxQ mg := ⟨m_isinstance, m_tuple, m_str, m_bool, m_int, m_len, m_all, m_list⟩
  have TX : TxC mg := ⟨m_isinstance, m_tuple, m_list, m_len⟩
  refine ⟨fdLaw, ?_, fun base kB gB => ?_⟩
  · obtain ⟨_, _, _, _, _, _, _, _, _, rfl, _, _⟩ := FLaw.ex
    exact fun s v => .of_eq rfl
  have X : ErrH l.prog w K mg base (fun i => ([0, 0, (He.ga K "InvalidTree"), (He.ga K "DuplicateName"), (He.ga K "UnknownName"), (He.ga K "WrongArguments"), (He.ga K "InvalidFinally"), (He.ga K "TooLarge"), 0] : List Addr).getD i 0) :=
    ⟨⟨_, _, _, oexV x_2, meXI2.at_, eq_of_beq meXI2.fn, ok_XI2 FXI2 (oexV x_2) x_2.no, gInvalidTree, bXI2⟩, ⟨_, _, _, oexV x_3, meXI3.at_, eq_of_beq meXI3.fn, ok_XI3 FXI3 (oexV x_3) x_3.no, gDuplicateName, bXI3⟩, ⟨_, _, _, oexV x_4, meXI4.at_, eq_of_beq meXI4.fn, ok_XI4 FXI4 (oexV x_4) x_4.no, gUnknownName, bXI4⟩, ⟨_, _, _, oexV x_5, meXI5.at_, eq_of_beq meXI5.fn, ok_XI5 FXI5 (oexV x_5) x_5.no, gWrongArguments, bXI5⟩, ⟨_, _, _, oexV x_6, meXI6.at_, eq_of_beq meXI6.fn, ok_XI6 FXI6 (oexV x_6) x_6.no, gInvalidFinally, bXI6⟩, ⟨_, _, _, oexV x_7, meXI7.at_, eq_of_beq meXI7.fn, ok_XI7 FXI7 (oexV x_7) x_7.no, gTooLarge, bXI7⟩⟩
  have M : ErrV K mg (fun i => ([0, 0, (He.ga K "InvalidTree"), (He.ga K "DuplicateName"), (He.ga K "UnknownName"), (He.ga K "WrongArguments"), (He.ga K "InvalidFinally"), (He.ga K "TooLarge"), 0] : List Addr).getD i 0) (He.ga K "ProgramError") := ⟨gProgramError, of_decide_eq_true c_ii, x_2.xf (bmB := XC.tlV) (by show PySem.W.excTail XC.tlV XC.tlV = true; decide +kernel) (by decide +kernel), x_2.no, of_decide_eq_true c_nd, of_decide_eq_true c_pd, of_decide_eq_true c_nu, of_decide_eq_true c_pu, of_decide_eq_true c_nw, of_decide_eq_true c_pw, of_decide_eq_true c_nf, of_decide_eq_true c_pf, of_decide_eq_true c_nl, of_decide_eq_true c_pl⟩
  have GM : Has l.prog w K mg base CX0 1 "_law_mixed" PMixed spMixed := ⟨_, _, ok_Mixed FMixed T0, gMixed, kMixed, bMixed⟩
  have GD : Has l.prog w K mg base CX0 2 "_law_draw" PDraw spDraw := ⟨_, _, ok_Draw FDraw T0 GM, gDraw, kDraw, bDraw⟩
  have GP : Has l.prog w K mg base CX0 1 "_law_pool" PPool (spPool K) := ⟨_, _, ok_Pool FPool T0, gPool, kPool, bPool⟩
  have GN : Has l.prog w K mg base CX0 1 "is_name" PIsName (spName K) := ⟨_, _, ok_IsName FIsName TN, gIsName, kIsName, bIsName⟩
  have GPa : Has l.prog w K mg base CX0 1 "parts_of" PParts (spParts K) := ⟨_, _, ok_Parts FParts, gParts, kParts, bParts⟩
  have GSz : ∀ n, Has l.prog w K mg base CX0 (2 + n) "size_of" PSize (spSize K n) := fun n => ⟨_, _, ok_Size FSize TT GPa gSize kSize bSize n, gSize, kSize, bSize⟩
  have GNP : ∀ n, Has l.prog w K mg base CX0 (3 + n) "numbered_parts" PNPar (spNPar K n) := fun n => ⟨_, _, ok_NPar FNPar GPa (GSz n), gNPar, kNPar, bNPar⟩
  have GNu : ∀ n, Has l.prog w K mg base CX0 (3 + n) "numbered" PNumb (spNumb K n) := fun n => ⟨_, _, ok_Numb FNumb TT GPa (GSz n), gNumb, kNumb, bNumb⟩
  have GAl : Has l.prog w K mg base CX0 (4 + 30) "all_numbered" PAllN (spAllN K 30) := ⟨_, _, ok_AllN FAllN GNu GNP gAllN kAllN bAllN 30, gAllN, kAllN, bAllN⟩
  have GPr : Has l.prog w K mg base CX0 1 "is_pair" PIsPair (spPairB K) := ⟨_, _, ok_PairB FIsPair TS, gIsPair, kIsPair, bIsPair⟩
  have GRo : Has l.prog w K mg base CX0 2 "is_row_of_names" PRowN (spRowB K) := ⟨_, _, ok_RowB FRowN TS GN, gRowN, kRowN, bRowN⟩
  have GI : Has l.prog w K mg base CX0 1 "is_integer" PIsInt (spIsInt K) := ⟨_, _, ok_IsInt FIsInt TI, gIsInt, kIsInt, bIsInt⟩
  have GE : Has l.prog w K mg base CX0 2 "is_expression" PIsExp (spExpB K) := ⟨_, _, ok_ExpB FIsExp TS GN GI GPr, gIsExp, kIsExp, bIsExp⟩
  have GAr : Has l.prog w K mg base CX0 3 "is_arg" PIsArg (spArgB K) := ⟨_, _, ok_ArgB FIsArg TS GN GE GPr, gIsArg, kIsArg, bIsArg⟩
  have GCa : Has l.prog w K mg base CX0 4 "is_call" PIsCal (spCalB K) := ⟨_, _, ok_CalB FIsCal TS GN GAr GPr, gIsCal, kIsCal, bIsCal⟩
  have GSi : Has l.prog w K mg base CX0 5 "is_simple" PIsSim (spSimB K) := ⟨_, _, ok_SimB FIsSim GN GE GRo GCa, gIsSim, kIsSim, bIsSim⟩
  have GB : Has l.prog w K mg base CX0 (5 + 3 * 31) "is_block" PIsBlk (spBlkB K 31) := ⟨_, _, ok_blocksB FIsBlk FIsHnd FIsSta TS gIsBlk kIsBlk bIsBlk gIsHnd kIsHnd bIsHnd gIsSta kIsSta bIsSta GPr GSi GCa GRo 31, gIsBlk, kIsBlk, bIsBlk⟩
  have GPm : Has l.prog w K mg base CX0 2 "is_param" PIsPar (spParB K) := ⟨_, _, ok_ParB FIsPar TS GN GPr, gIsPar, kIsPar, bIsPar⟩
  have GF : Has l.prog w K mg base CX0 (5 + 3 * 31 + 1) "is_function" PIsFun (spFunB K) := ⟨_, _, ok_FunB FIsFun TS ⟨_, m_DEEPEST, _, rfl⟩ GN GPm GB, gIsFun, kIsFun, bIsFun⟩
  have GTr : Has l.prog w K mg base CX0 (5 + 3 * 31 + 1 + 1) "is_tree" PIsTree (spTreB K) := ⟨_, _, ok_TreB FIsTree TS GRo GE GF, gIsTree, kIsTree, bIsTree⟩
  have GAs : Has l.prog w K mg base CX0 (4 + 30 + 1) "assigned_names" PAsg (spAsg K 30) := ⟨_, _, ok_Asg (n := 30) FAsg GAl, gAsg, kAsg, bAsg⟩
  have GOw : Has l.prog w K mg base CX0 (4 + 30 + 1 + 1) "own_names" POwn (spOwn K 30) := ⟨_, _, ok_Own (n := 30) FOwn TS GAs, gOwn, kOwn, bOwn⟩
  have GUn : Has l.prog w K mg base (L2N.CX l.prog w) 3 "check_unlike" PUnX (spUnX K (fun i => ([0, 0, (He.ga K "InvalidTree"), (He.ga K "DuplicateName"), (He.ga K "UnknownName"), (He.ga K "WrongArguments"), (He.ga K "InvalidFinally"), (He.ga K "TooLarge"), 0] : List Addr).getD i 0)) := ⟨_, _, ok_UnX FUnX TK X, gUnX, kUnX, bUnX⟩
  have GNo : Has l.prog w K mg base CX0 1 "names_of_args" PNoA (spNoA K) := ⟨_, _, ok_NoA FNoA, gNoA, kNoA, bNoA⟩
  have GEx : Has l.prog w K mg base CX0 1 "expressions_of" PExs (spExs K) := ⟨_, _, ok_Exs FExs, gExs, kExs, bExs⟩
  have GFi : Has l.prog w K mg base CX0 1 "fits" PFiX (spFiX K) := ⟨_, _, ok_FiX FFiX, gFiX, kFiX, bFiX⟩
  have GNm : Has l.prog w K mg base CX0 3 "named_in" PNmI (spNmI K 2) := ⟨_, _, ok_NmI FNmI GNo gNmI kNmI bNmI 2, gNmI, kNmI, bNmI⟩
  have GGr : Has l.prog w K mg base CX0 (4 + 30 + 1) "has_great_number" PGrt (spGrt K 30) := ⟨_, _, ok_Grt (n := 30) FGrt TK ⟨_, m_LIMIT, _, rfl⟩ GAl GEx, gGrt, kGrt, bGrt⟩
  have GDe : Has l.prog w K mg base CX0 (2 + 30) "depth_of" PDep (spDep K 30) := ⟨_, _, ok_Dep FDep TK GPa gDep kDep bDep 30, gDep, kDep, bDep⟩
  have GCS : Has l.prog w K mg base (L2N.CX l.prog w) (4 + 30 + 1 + 1 + 1) "check_sizes" PChS (spChZ K (fun i => ([0, 0, (He.ga K "InvalidTree"), (He.ga K "DuplicateName"), (He.ga K "UnknownName"), (He.ga K "WrongArguments"), (He.ga K "InvalidFinally"), (He.ga K "TooLarge"), 0] : List Addr).getD i 0) 30) := ⟨_, _, ok_ChZ (n := 30) FChS TK m_int X GOw (GSz 30) GDe GGr, gChS, kChS, bChS⟩
  have GCT : Has l.prog w K mg base (L2N.CX l.prog w) (4 + 30 + 1) "check_statement" PChX (spChX K (fun i => ([0, 0, (He.ga K "InvalidTree"), (He.ga K "DuplicateName"), (He.ga K "UnknownName"), (He.ga K "WrongArguments"), (He.ga K "InvalidFinally"), (He.ga K "TooLarge"), 0] : List Addr).getD i 0) 30) := ⟨_, _, ok_ChX (n := 30) FChX GNm X GFi GAl, gChX, kChX, bChX⟩
  have GCN : Has l.prog w K mg base (L2N.CX l.prog w) (4 + 30 + 1 + 1 + 1) "check_names" PChY (spChY K (fun i => ([0, 0, (He.ga K "InvalidTree"), (He.ga K "DuplicateName"), (He.ga K "UnknownName"), (He.ga K "WrongArguments"), (He.ga K "InvalidFinally"), (He.ga K "TooLarge"), 0] : List Addr).getD i 0) 30) := ⟨_, _, ok_ChY (n := 30) FChY TK GOw X GUn GAl GCT, gChY, kChY, bChY⟩
  have HC : HasC l.prog w K mg base (L2N.CX l.prog w) (5 + 3 * 31 + 1 + 1 + 1) "Program" (He.ga K "Program") PPIX (spPIY K (He.ga K "Program") (fun i => ([0, 0, (He.ga K "InvalidTree"), (He.ga K "DuplicateName"), (He.ga K "UnknownName"), (He.ga K "WrongArguments"), (He.ga K "InvalidFinally"), (He.ga K "TooLarge"), 0] : List Addr).getD i 0)) := ⟨_, _, mkProgram, ok_PIY FPIX TC X GTr GCS GCN, gProgram, bPIX⟩
  have GLN : Has l.prog w K mg base CX0 3 "_law_names" PNames spNames := ⟨_, _, ok_Names FNames ⟨m_str, m_range⟩ GD, gNames, kNames, bNames⟩
  have GLE : Has l.prog w K mg base CX0 3 "_law_expression" PLEx (spLEx K) := ⟨_, _, ok_LEx FLEx TG GD, gLEx, kLEx, bLEx⟩
  have GLA : Has l.prog w K mg base CX0 4 "_law_args" PLAr (spLAr K) := ⟨_, _, ok_LAr FLAr TG GD GLE, gLAr, kLAr, bLAr⟩
  have GLC : Has l.prog w K mg base CX0 5 "_law_call" PLCa (spLCa K) := ⟨_, _, ok_LCa FLCa TG GD GLA, gLCa, kLCa, bLCa⟩
  have GLB : Has l.prog w K mg base CX0 15 "_law_block" PLBk (spLBk K 5) := ⟨_, _, ok_pb FLPi FLBk TG gLPi kLPi bLPi gLBk kLBk bLBk GD GLE GLC 5, gLBk, kLBk, bLBk⟩
  have GLT : Has l.prog w K mg base CX0 16 "_law_tree" PLTr (spLTr K) := ⟨_, _, ok_LTr FLTr TG GD GLN GLE GLB, gLTr, kLTr, bLTr⟩
  have QW : Has l.prog w K mg base CX0 1 "_law_is_word" PQWd (spQWd K) := ⟨_, _, ok_QWd FQWd TQ, gQWd, kQWd, bQWd⟩
  have QN : Has l.prog w K mg base CX0 2 "_law_all_names" PQAn (spRowB K) := ⟨_, _, ok_QAn FQAn TQ QW, gQAn, kQAn, bQAn⟩
  have QS : Has l.prog w K mg base CX0 2 "_law_is_sum" PQSm (spExpB K) := ⟨_, _, ok_QSm FQSm TQ QW, gQSm, kQSm, bQSm⟩
  have QA : Has l.prog w K mg base CX0 3 "_law_is_args" PQAg (spQAg K) := ⟨_, _, ok_QAg FQAg TQ QW QS, gQAg, kQAg, bQAg⟩
  have QC : Has l.prog w K mg base CX0 4 "_law_is_call" PQCl (spCalB K) := ⟨_, _, ok_QCl FQCl TQ QW QA, gQCl, kQCl, bQCl⟩
  have QB : Has l.prog w K mg base CX0 (5 + 3 * 30) "_law_is_block" PQBl (spQBl K 30) := ⟨_, _, ok_Qblocks FQBl FQHd FQSt TQ gQBl kQBl bQBl gQHd kQHd bQHd gQSt kQSt bQSt QW QS QC QN 30, gQBl, kQBl, bQBl⟩
  have QF : Has l.prog w K mg base CX0 (5 + 3 * 30 + 1) "_law_is_function" PQFn (spQFn K) := ⟨_, _, ok_QFn FQFn TQ QW QB, gQFn, kQFn, bQFn⟩
  have QT : Has l.prog w K mg base CX0 (5 + 3 * 30 + 1 + 1) "_law_is_tree" PQTr (spTreB K) := ⟨_, _, ok_QTr FQTr TQ QN QS QF, gQTr, kQTr, bQTr⟩
  have QI : Has l.prog w K mg base CX0 (2 + 9) "_law_inner" PQIn (spQIn K 9) := ⟨_, _, ok_QIns FQIn TX GD gQIn kQIn bQIn 9, gQIn, kQIn, bQIn⟩
  have QH : Has l.prog w K mg base CX0 (2 + 12) "_law_changed" PQCh (spQCh K 12) := ⟨_, _, ok_QChs FQCh TX GD gQCh kQCh bQCh 12, gQCh, kQCh, bQCh⟩
  have GSH : HasP l.prog w K mg base 64 "_law_same" PSame (fun _ => spSam K 64) := ⟨_, _, ok_SamH FSame TM gSame kSame bSame 64, gSame, kSame, bSame⟩
  exact ok_Law FLaw X M GP GD GLT QI QH HC QT GSH
end Aon
open PySem PySem.W PySem.Calls PyProof.Rows
set_option maxRecDepth 100000 in
set_option maxHeartbeats 0 in
theorem PySem.Challenge.cw_allornothing_k08_values_that_are_no_tree_holds : PySem.Challenge.rw_allornothing_k08_values_that_are_no_tree.Holds := by
  w_on; o_law
  refine HandSHeadRun.head_any (r := PySem.W.OpenLaw.row PySem.Challenge.rw_allornothing_k08_values_that_are_no_tree) (q := Aon.khQ) (H := Aon.khH) (ob := Aon.khO) (M := 60000) (loose := Aon.khN) (d := HandSHeadRun.topDef (PySem.W.OpenLaw.row PySem.Challenge.rw_allornothing_k08_values_that_are_no_tree).prog 87) (kwd := []) Aon.khO_eq
    (by kernel_rfl) (fun s => by kernel_rfl) Aon.khRun (by kernel_rfl) (by kernel_rfl) (by kernel_rfl) (by rfl) (by first | assumption | decide +kernel) (by decide +kernel) ⟨rfl, rfl, rfl, rfl, rfl, by decide +kernel⟩ ?hw ?hc
  case hw => w_witness2
  case hc =>
    refine L2.walk_ofE (l := PySem.Challenge.rw_allornothing_k08_values_that_are_no_tree) (n := 63) (k := 103) (x := "_law_script") (CX := L2.CX0) rfl (by decide) (by kernel_rfl) ⟨rfl, by decide, by decide⟩ ?F (fun _ _ _ _ z => z)
    intro w mg fa h Y G hmg0
    obtain ⟨K, KX, c⟩ := Y
    have hmg : mg ("law" : PySem.Str) = some (.ref fa) := by
      have e : (HandSHeadRun.topDef (PySem.W.OpenLaw.row PySem.Challenge.rw_allornothing_k08_values_that_are_no_tree).prog 87).name = ("law" : PySem.Str) := by kernel_rfl
      rw [← e]
      exact hmg0
    obtain ⟨fd, hb, hF⟩ := Aon.khFacts (l := PySem.Challenge.rw_allornothing_k08_values_that_are_no_tree) (w := w) KX G hmg c
    exact ⟨K, fd, Aon.spLaw K, KX, hb, fun _ a ns hl _ hS => ⟨a, ns, rfl, hS, hl, fun _ => rfl⟩, hF⟩
#print axioms PySem.Challenge.cw_allornothing_k08_values_that_are_no_tree_holds

