import PyProof.Rows.All
import Wide.All
import OpenK.AllK
import Wide.FinOn
import HandS.ForMost
import HandS.Wide
import HandS.IsInst
import HandS.Walk
import HandS.Flow
import HandS.Property
import HandS.Star
import HandS.DictComp
import HandS.Conv
import HandS.Zip
import HandS.SortKw
import HandS.MapSum
import HandS.Text
import HandS.TryOnly
import HandS.FStr
import HandS.TupAny
import HandS.Codes
import HandS.Replace
import HandS.ReplaceList
import HandS.ReplaceLit
import PyProof.StrBlock
import PyProof.RulesMatchSeq
import PyProof.Rows.MatchSeqLen
import KE.GoesEnumKw
import KE.KTurns
import KE.GoesMore
import PyProof.GenRules
import HandS.GenList
import HandS.OwnEq
import HandS.TupLe
import HandS.TryMany
import HandS.ExcInit
import HandS.ExcInitHot
import HandS.ExcIs
import HandS.ExcField
import HandS.WordsExc
import HandS.DeepEq
import HandS.Deep
import KE.KExcInit
import KE.KStateDown
import HandS.Defaults
import HandS.Head0
import HandS.Head1
import HandS.Head2
import HandS.HeadEnd
import HandS.HeadHook1
import HandS.HeadHook2
import PySem.Challenge.RW_allornothing_k03_texts_and_trees
set_option Elab.async false
set_option linter.all false
set_option maxRecDepth 100000
set_option maxHeartbeats 4000000
namespace Aon
open PySem L2
def topS (i : Nat) : Stmt := PySem.Challenge.pw_allornothing_k03_texts_and_trees.main.body.getD i (.Pass ⟨0, 0, 0, 0⟩)

/-! ### words of this text, over HandS -/
theorem bb_int : bootBuiltins "int" = some (.type "int") := by decide +kernel
theorem bb_str : bootBuiltins "str" = some (.type "str") := by decide +kernel
theorem bb_bool : bootBuiltins "bool" = some (.type "bool") := by decide +kernel
theorem bb_list : bootBuiltins "list" = some (.type "list") := by decide +kernel
theorem bb_tuple : bootBuiltins "tuple" = some (.type "tuple") := by decide +kernel
theorem bb_len : bootBuiltins "len" = some (.builtin "len") := by decide +kernel
theorem bb_all : bootBuiltins "all" = some (.builtin "all") := by decide +kernel
theorem bb_isinstance : bootBuiltins "isinstance" = some (.builtin "isinstance") := by decide +kernel
/-- a def that stands under its name: its promise, and how it is called -/
structure Has (P : Program) (w : World) (K : PySem.W.Frag) (mg : Str → Option Value) (base : Heap) (CX : CXT) (k : Nat) (x : Str) (ps : List Str) (sp : Sp) : Prop where
  ex : ∃ (f : Addr) (fd : FuncData), FnOk P w K mg base CX k f fd ps sp ∧ mg x = some (.ref f) ∧ PySem.W.keepIn K (.ref f) = true ∧ Binds K fd ps []
section
variable {X : Cx}
theorem pe_callH {CX : CXT} {k : Nat} {x : Str} {ps : List Str} {sp : Sp} {E : XK} {e : Expr} {es : List Expr} {t : TA} {p pos : Pos} (F : Has X.prog X.w X.K X.mg X.base CX k x ps sp) (hr : Room k X.A) (hg : Gl X x) (hx : Passes CX X E) (ha : PA X (e :: es) t)
    (hd : (x == ("__debug__" : Str)) = false := by decide) (he : starEach (e :: es) X.env = (false, eval e X.env) :: starEach es X.env := by rfl) (hpl : (backTo pos (starEach es X.env)).any (·.1) = false := by rfl) :
    PE X (.Call (.Name x p) (e :: es) [] pos) (tCall sp [] E t) := by
  obtain ⟨f, fd, F, m, kp, b⟩ := F.ex
  exact pe_call F hr hg m kp b .nil hx ha hd he hpl
theorem pe_callH0 {CX : CXT} {k : Nat} {x : Str} {ps : List Str} {sp : Sp} {E : XK} {p pos : Pos} (F : Has X.prog X.w X.K X.mg X.base CX k x ps sp) (hr : Room k X.A) (hg : Gl X x) (hx : Passes CX X E) (hd : (x == ("__debug__" : Str)) = false := by decide) :
    PE X (.Call (.Name x p) [] [] pos) (tCall sp [] E tNil) := by
  obtain ⟨f, fd, F, m, kp, b⟩ := F.ex
  exact pe_call0 F hr hg m kp b .nil hx hd
theorem pe_globE {x : Str} {v : V} {pos : Pos} (hg : Gl X x) (hm : ∃ u, X.mg x = some u ∧ RelV v u) (hd : (x == ("__debug__" : Str)) = false := by decide) : PE X (.Name x pos) (tC v) := by
  obtain ⟨u, m, r⟩ := hm
  exact pe_glob hg m r hd
end
/-- a method of the class at C; a class under its name -/
structure HasM (P : Program) (w : World) (K : PySem.W.Frag) (mg : Str → Option Value) (base : Heap) (CX : CXT) (k : Nat) (C : Addr) (m : Str) (ps : List Str) (sp : Sp) : Prop where
  ex : ∃ (f : Addr) (fd : FuncData), Meth K C m f ∧ FnOk P w K mg base CX k f fd ps sp ∧ Binds K fd ps []
structure HasC (P : Program) (w : World) (K : PySem.W.Frag) (mg : Str → Option Value) (base : Heap) (CX : CXT) (k : Nat) (x : Str) (C : Addr) (ps : List Str) (sp : Sp) : Prop where
  ex : ∃ (f : Addr) (fd : FuncData), Mk K C f ∧ FnOk P w K mg base CX k f fd ps sp ∧ mg x = some (.ref C) ∧ Binds K fd ps []
section
variable {X : Cx}
theorem pe_methH {CX : CXT} {k : Nat} {C : Addr} {m : Str} {ps : List Str} {sp : Sp} {E : XK} {o e : Expr} {es : List Expr} {ta : TE} {t : TA} {apos pos : Pos} {pl : Sem Bool} (he : PE X o ta) (c : Cls X.K C) (M : HasM X.prog X.w X.K X.mg X.base CX k C m ps sp) (hr : Room k X.A) (hx : Passes CX X E)
    (ha : PA X (e :: es) t) (hst : starEach (e :: es) X.env = (false, eval e X.env) :: starEach es X.env := by rfl) (hpl : (backTo pos (starEach es X.env)).any (·.1) = false := by rfl)
    (ht : eval (.Call (.Attribute o m apos) (e :: es) [] pos) X.env = (do
      let v ← eval o X.env
      standAt apos.atName
      let (g, r) ← holding [v] (getMethod v m pl)
      callWith pos g r (backTo pos (starEach (e :: es) X.env)) (backToKw pos (keywordEach [] X.env))) := by rfl) : PE X (.Call (.Attribute o m apos) (e :: es) [] pos) (tMeth C m sp [] E ta t) := by
  obtain ⟨f, fd, hm, F, b⟩ := M.ex
  exact pe_meth (pl := pl) he c hm F hr b .nil hx ha hst hpl ht
theorem pe_methH0 {CX : CXT} {k : Nat} {C : Addr} {m : Str} {ps : List Str} {sp : Sp} {E : XK} {o : Expr} {ta : TE} {apos pos : Pos} {pl : Sem Bool} (he : PE X o ta) (c : Cls X.K C) (M : HasM X.prog X.w X.K X.mg X.base CX k C m ps sp) (hr : Room k X.A) (hx : Passes CX X E)
    (ht : eval (.Call (.Attribute o m apos) [] [] pos) X.env = (do
      let v ← eval o X.env
      standAt apos.atName
      let (g, r) ← holding [v] (getMethod v m pl)
      callWith pos g r (backTo pos (starEach [] X.env)) (backToKw pos (keywordEach [] X.env))) := by rfl) : PE X (.Call (.Attribute o m apos) [] [] pos) (tMeth C m sp [] E ta tNil) := by
  obtain ⟨f, fd, hm, F, b⟩ := M.ex
  exact pe_meth0 (pl := pl) he c hm F hr b .nil hx ht
theorem pe_makeH {CX : CXT} {k : Nat} {x : Str} {C : Addr} {ps : List Str} {sp : Sp} {E : XK} {e : Expr} {es : List Expr} {t : TA} {p pos : Pos} (M : HasC X.prog X.w X.K X.mg X.base CX k x C ps sp) (hr : Room (k + 1) X.A) (hg : Gl X x) (hx : Passes CX X E) (ha : PA X (e :: es) t)
    (hd : (x == ("__debug__" : Str)) = false := by decide) (he : starEach (e :: es) X.env = (false, eval e X.env) :: starEach es X.env := by rfl) (hpl : (backTo pos (starEach es X.env)).any (·.1) = false := by rfl) :
    PE X (.Call (.Name x p) (e :: es) [] pos) (tMake C sp [] E t) := by
  obtain ⟨f, fd, mk, F, m, b⟩ := M.ex
  exact pe_make mk F hr hg m b .nil hx ha hd he hpl
theorem pe_propH {CX : CXT} {k : Nat} {C p : Addr} {f : Str} {ps : List Str} {sp : Sp} {E : XK} {e : Expr} {ta : TE} {pos : Pos} (he : PE X e ta) (c : Cls X.K C) (M : ∃ (g : Addr) (fd : FuncData), PropOf X.K C f p g ∧ FnOk X.prog X.w X.K X.mg X.base CX k g fd ps sp ∧ Binds X.K fd ps []) (hr : Room (k + 1) X.A) (hx : Passes CX X.nox E)
    (hab : attributeBase e f X.env (eval e X.env) = eval e X.env := by rfl) : PE X (.Attribute e f pos) (tProp C sp [] E ta) := by
  obtain ⟨g, fd, hp, F, b⟩ := M
  exact pe_prop he c hp F hr b .nil hx hab
end
/-- all but p and c stands -/
def But (p c : Addr) (H H' : Hp) : Prop := ∀ b o, H b = some o → b ≠ p → b ≠ c → H' b = some o
theorem But.refl {p c : Addr} {H : Hp} : But p c H H := fun _ _ e _ _ => e
theorem But.trans {p c : Addr} {H H1 H2 : Hp} (a : But p c H H1) (b : But p c H1 H2) : But p c H H2 := fun x o e h1 h2 => b x o (a x o e h1 h2) h1 h2
theorem iteE {c : Bool} {A B : Prop} (hc : c = false) (k : B) : if c = true then A else B := by
  rw [hc]
  exact iteF k
theorem iteS {c : Bool} {A B : Prop} (hc : c = true) (k : A) : if c = true then A else B := by
  rw [hc]
  exact iteT k

def dOf : V → PyData
  | .non => .none | .bl b => .bool b | .int i => .int i | .str z => .str z | _ => .none
theorem dp_flat {K : PySem.W.Frag} {H : Hp} {v : V} (h : flatV v = true) : Dp K H v (dOf v) := by
  cases v with
  | non => exact .non
  | bl b => exact .bl b
  | int i => exact .int i
  | str z => exact .str z
  | _ => cases h
theorem dpAll_flat {K : PySem.W.Frag} {H : Hp} : ∀ {xs : List V}, xs.all flatV = true → DpAll K H xs (xs.map dOf)
  | [], _ => .nil
  | x :: xs, h => by
    rw [List.all_cons, Bool.and_eq_true] at h
    exact .cons (dp_flat h.1) (dpAll_flat h.2)
/-! shapes -/
def okV : V → Bool
  | .str z => PyData.strOk z
  | _ => true
theorem lay_dOf {v : V} (h : okV v = true) : (dOf v).canLay0 = true := by
  cases v with
  | str z => simpa [dOf, PyData.canLay0, okV] using h
  | _ => simp [dOf, PyData.canLay0]
theorem layAll_dOf : ∀ {xs : List V}, xs.all okV = true → PyData.canLayAll0 (xs.map dOf) = true
  | [], _ => by simp [PyData.canLayAll0]
  | x :: xs, h => by
    rw [List.all_cons, Bool.and_eq_true] at h
    simp only [List.map_cons, PyData.canLayAll0, Bool.and_eq_true]
    exact ⟨lay_dOf h.1, layAll_dOf h.2⟩
theorem depth_dOf (v : V) : (dOf v).depth = 0 := by cases v <;> simp [dOf, PyData.depth]
theorem depthAll_dOf : ∀ xs : List V, PyData.depthAll (xs.map dOf) = 0
  | [] => by simp [PyData.depthAll]
  | x :: xs => by simp only [List.map_cons, PyData.depthAll, depth_dOf, depthAll_dOf xs]; rfl
theorem shaped_tup {xs : List V} (h : xs.all okV = true) : SeqAt.shaped (.tuple (xs.map dOf)) = true := by
  unfold SeqAt.shaped
  simp only [PyData.canLay0, PyData.depth, layAll_dOf h, depthAll_dOf, Bool.true_and]
  decide

/-! ### {**d, k: v}: the rule -/
section
variable {prog : Program} {w : World} {A : Around} {E : Value → Shared → Prop} {s : Shared}
theorem dput_ok {d : Addr} {kvs : List (Key × Value)} {k : Key} {key v : Value} {Q : Unit → Shared → Prop} (hkey : (mixKind prog w).is k key = true) (hm : s.heap.DictOf (mixKind prog w) d kvs) (hz : kvs.length ≤ sizeLine)
    (hQ : ∀ h', h'.DictOf (mixKind prog w) d (stored kvs k v) → Heap.SameBut d s.heap h' → Q () { s with heap := h' }) :
    wpAny (model prog w) A (dictPut d ((mixKind prog w).hash k) key v) Q E s := by
  obtain ⟨ob, es, ep, e1, e2, e3, e4, e5, e6⟩ := hm
  have z1 : es.size ≤ sizeLine := by
    have q1 := e5.length
    rw [Array.length_toList] at q1
    omega
  have fe : (es.findIdx? fun e => (mixKind prog w).is k e.key) = kvs.findIdx? fun kv => decide (kv.1 = k) := by
    rw [← e5.findIdx k]
    cases es with
    | mk l => simp
  unfold dictPut
  refine wpAny_bind (wpAny_dictFind_of hkey e1 e3 e4 ?_)
  cases fi : es.findIdx? fun e => (mixKind prog w).is k e.key with
  | some i =>
    have an : (kvs.any fun kv => decide (kv.1 = k)) = true := any_of_findIdx_some (fe ▸ fi)
    refine wpAny_updateDict e1 e3 (hQ _ ⟨_, _, ep, Heap.get?_update_self _ e1 (Obj.isFreed_of_dict (Obj.data_mapDict e3 _)), e2.mapDict _, Obj.data_mapDict e3 _, e4.modify _ _, ?_, ?_⟩ (Heap.SameBut.update ..))
    · unfold stored
      rw [if_pos an]
      have fl : (es.toList.findIdx? fun e => (mixKind prog w).is k e.key) = some i := by
        rw [← fi]
        cases es with
        | mk l => simp
      have r := e5.modify e6 fl v
      cases es with
      | mk l => simpa using r
    · unfold stored
      rw [if_pos an, keys_map_store]
      exact e6
  | none =>
    have nm : k ∉ kvs.map (·.1) := not_mem_of_findIdx_none (fe ▸ fi)
    have an : ¬ (kvs.any fun kv => decide (kv.1 = k)) = true := fun z => by
      obtain ⟨kv, m, q⟩ := List.any_eq_true.mp z
      exact nm (List.mem_map.mpr ⟨kv, m, of_decide_eq_true q⟩)
    refine wpAny_updateDictKeys (hz := z1) e1 e3 (hQ _ ⟨_, _, ep + 1, Heap.get?_update_self _ e1 (Obj.isFreed_of_dict (Obj.data_mapDictKeys e3 _)), e2.mapDictKeys _, Obj.data_mapDictKeys e3 _, e4.push hkey _, ?_, ?_⟩ (Heap.SameBut.update ..))
    · unfold stored
      rw [if_neg an]
      have r := e5.append hkey ((mixKind prog w).hash k) v
      cases es with
      | mk l => simpa using r
    · unfold stored
      rw [if_neg an, List.map_append, List.nodup_append]
      exact ⟨e6, by simp, fun a ha b hb z => nm (by
        have : b = k := by simpa using hb
        rw [← this, ← z]
        exact ha)⟩
theorem noref_loop {es : Array DictEntry} (hk : KeysOf (mixKind prog w) es) {f : DictEntry → PUnit → Sem (ForInStep PUnit)} (hf : ∀ e u, (∀ a, e.key ≠ .ref a) → f e u = pure (.yield PUnit.unit)) {Q : PUnit → Shared → Prop} (h : Q PUnit.unit s) :
    wpAny (model prog w) A (forIn es PUnit.unit f) Q E s := by
  rw [← Array.forIn_toList]
  have all : ∀ e ∈ es.toList, ∀ a, e.key ≠ Value.ref a := fun e he a z => by
    obtain ⟨k, q, _⟩ := hk e (by simpa using he)
    rcases keyIs_shape (k := k) (v := e.key) q with ⟨_, _, _, q⟩ | ⟨_, _, _, q⟩ <;> (rw [z] at q; cases q)
  refine wpAny_forIn_list f (fun rest _ s' => (∀ e ∈ rest, ∀ a, e.key ≠ Value.ref a) ∧ s' = s) Q ?_ ?_ es.toList PUnit.unit ⟨all, rfl⟩
  · rintro e rest b s' ⟨ha, rfl⟩
    rw [hf e b (ha e (List.mem_cons_self ..))]
    exact wpAny_pure ⟨fun x hx => ha x (List.mem_cons_of_mem _ hx), rfl⟩
  · rintro b s' ⟨_, rfl⟩
    exact h
theorem mergeMap_ok {d o : Addr} {kvs more : List (Key × Value)} {Q : Unit → Shared → Prop} (hdo : d ≠ o) (hoS : (o == sysModules) = false) (hd : s.heap.DictOf (mixKind prog w) d kvs) (ho : s.heap.DictOf (mixKind prog w) o more)
    (hz : kvs.length + more.length ≤ sizeLine) (hQ : ∀ h', h'.DictOf (mixKind prog w) d (merged kvs more) → Heap.SameBut d s.heap h' → Q () { s with heap := h' }) :
    wpAny (model prog w) A (mergeMapping d (.ref o) false) Q E s := by
  have ty := ho.typeIs
  obtain ⟨od, esd, epd, d1, d2, d3, d4, d5, d6⟩ := id hd
  obtain ⟨oo, es, ep, o1, o2, o3, o4, o5, o6⟩ := id ho
  have hlen : more.length = es.size := by rw [← o5.length]; simp
  unfold mergeMapping
  refine wpAny_bind (wpAny_isInstance ty isSubtype_dict_dict ?_)
  simp only [if_true]
  refine wpAny_bind (wpAny_specialOf ty F.slot_dict_iter.lookup ?_)
  simp only [beq_self_eq_true, Bool.false_eq_true, if_false]
  refine wpAny_bind (wpAny_pure ?_)
  dsimp only
  rw [if_neg (by rw [hoS]; exact Bool.false_ne_true)]
  refine wpAny_bind (wpAny_dictEntries d1 d3 ?_)
  have loop : wpAny (model prog w) A (do
      let l ← dictEntries o
      let epoch ← dictEpoch o
      forIn (List.range l.size) PUnit.unit fun i _ => (do
          let l' ← dictEntries o
          match l'[i]? with
            | some e => do
              holding [e.key, e.val] (dictPut d e.hash e.key e.val)
              let ep' ← dictEpoch o
              if (ep' != epoch) = true then do
                  (unsupported "dict.changed-during-merge" : Sem PUnit)
                  pure (ForInStep.yield PUnit.unit)
                else pure (ForInStep.yield PUnit.unit)
            | _ => do
              (unsupported "dict.changed-during-merge" : Sem PUnit)
              pure (ForInStep.yield PUnit.unit) : Sem (ForInStep PUnit))
      pure ()) Q E s := by
    refine wpAny_bind (wpAny_dictEntries o1 o3 (wpAny_bind (wpAny_dictEpoch o1 o3 (wpAny_bind ?_))))
    refine wpAny_forIn_list _ (fun rest _ s' => ∃ (h' : Heap) (i : Nat), s' = { s with heap := h' } ∧ rest = (List.range es.size).drop i ∧ i ≤ es.size ∧ h'.DictOf (mixKind prog w) d (merged kvs (more.take i)) ∧ h'.get? o = some oo ∧ Heap.SameBut d s.heap h') _ ?_ ?_ _ _
      ⟨s.heap, 0, rfl, rfl, Nat.zero_le _, by simpa [merged] using hd, o1, Heap.SameBut.refl _ _⟩
    · rintro x rest b s' ⟨h', i, rfl, hr, hi, hd', ho', hs'⟩
      have hlt : i < es.size := by
        rcases Nat.lt_or_ge i es.size with q | q
        · exact q
        · rw [List.drop_of_length_le (by simpa using q)] at hr
          cases hr
      rw [List.drop_eq_getElem_cons (by simpa using hlt), List.getElem_range] at hr
      injection hr with hx hr
      subst hx
      refine wpAny_bind (wpAny_dictEntries ho' o3 ?_)
      rw [Array.getElem?_eq_getElem hlt]
      obtain ⟨⟨k, v⟩, hkv⟩ : ∃ kv, more[x]? = some kv := ⟨more[x]'(by omega), by simp [hlen, hlt]⟩
      obtain ⟨hkey, hval⟩ := o5.get? (e := es[x]) (by simp [hlt]) hkv
      obtain ⟨k', hkey', hhash⟩ := o4 es[x] (Array.getElem_mem hlt)
      obtain rfl : k' = k := (mixKind prog w).inj _ _ _ hkey' hkey
      show wpAny _ _ (holding [es[x].key, es[x].val] (dictPut d es[x].hash es[x].key es[x].val) >>= _) _ _ _
      rw [hhash, hval]
      have q1 := merged_length_le kvs (more.take x)
      have q2 : (more.take x).length ≤ more.length := by rw [List.length_take]; omega
      refine wpAny_bind (wpAny_holding (dput_ok hkey hd' (by omega) fun h2 hd2 hs2 => ?_))
      have ho2 : h2.get? o = some oo := (hs2.2 o (Ne.symm hdo)).trans ho'
      refine wpAny_bind (wpAny_dictEpoch ho2 o3 ?_)
      rw [if_neg (by simp)]
      exact wpAny_pure ⟨h2, x + 1, rfl, hr, hlt, by rw [merged_take_succ kvs more x (k', v) hkv]; exact hd2, ho2, hs'.trans hs2⟩
    · rintro b s' ⟨h', i, rfl, hr, hi, hd', ho', hs'⟩
      have e : i = es.size := by
        rcases Nat.lt_or_ge i es.size with q | q
        · rw [List.drop_eq_getElem_cons (by simpa using q)] at hr
          cases hr
        · omega
      rw [e, ← hlen, List.take_length] at hd'
      exact wpAny_pure (hQ h' hd' hs')
  split
  · refine wpAny_bind (wpAny_dictEntries o1 o3 (wpAny_bind (noref_loop o4 (fun e u hne => ?_) loop)))
    split
    · rename_i a q
      exact absurd q (hne a)
    · rfl
  · exact loop
end
/-- what is asked of the mapping and the pair; the new dict stands at p -/
def tDstar (td tk tv : TE) : TE := fun σ H Q => ∀ p, H p = none → td σ (upd H p (.dK [])) fun x H1 => ∃ (a : Addr) (kvs : List (Key × V)), x = .ref a ∧ a ≠ p ∧ Rd H1 a (.dK kvs) ∧ H1 p = some (.dK []) ∧ kvs.length ≤ 1000 ∧
  ∀ q, H1 q = none → tk σ (upd (upd H1 p (.dK kvs)) q (.dK [])) fun y H2 => tv σ H2 fun z H3 => ∃ k : Key, y = kV k ∧ H3 p = some (.dK kvs) ∧ H3 q = some (.dK []) ∧ Q (.ref p) (upd (upd H3 q (.dK [(k, z)])) p (.dK (putK kvs k z)))
section
variable {X : Cx}
theorem dictDisplay_star (m k v : Sem Value) : dictDisplay [(none, m), (some k, v)] = (do
    let d ← alloc { cls := .type "dict", data := .dict #[] }
    let x ← holding [.ref d] m
    (((holding [.ref d, x] (mergeMapping d x false)).onRaise fun y => do let _ ← holding [.ref d, x, y] (runValue (.builtin "proto.let_go" {}))).tryCatch fun e => do
        if ← isInstance e (.type "AttributeError") then
          rule "dict.display.not-a-mapping"; raiseError "TypeError" s!"'{← typeNameOf x}' object is not a mapping"
        throw e).onRaise fun y => do let _ ← holding [.ref d, y] (runValue (.builtin "proto.let_go" {}))
    let sub ← holding [.ref d] (subDict [(k, v)])
    (holding [.ref d, .ref sub] (mergeMapping d (.ref sub) false)).onRaise fun y => do let _ ← holding [.ref d, y] (runValue (.builtin "proto.let_go" {}))
    pure (.ref d)) := by
  unfold dictDisplay
  simp [List.forIn_cons, List.forIn_nil]
theorem stored_nodup {kvs : List (Key × Value)} : (kvs.map (·.1)).Nodup → merged ([] : List (Key × Value)) kvs = kvs := merged_nil_of_nodup kvs
theorem kv_put {kvs : List (Key × V)} {vs : List (Key × Value)} (r : KV kvs vs) (k : Key) {z : V} {u : Value} (rz : RelV z u) : KV (putK kvs k z) (stored vs k u) := r.put k rz
theorem pe_dstar {d k v : Expr} {td tk tv : TE} {pos : Pos} (hd : PE X d td) (hk : PE X k tk) (hv : PE X v tv) : PE X (.Dict [none, some k] [d, v] pos) (tDstar td tk tv) := by
  refine ⟨fun pins s σ H Q I h => ?_⟩
  rw [arm_eval_Dict]
  refine wpAny_bind (wpAny_standAt ?_)
  show wpAny _ _ (dictDisplay [(none, do let x ← eval d X.env; standAt pos; pure x), (some (eval k X.env), do let x ← eval v X.env; standAt pos; pure x)]) _ _ _
  rw [dictDisplay_star]
  refine wpAny_bind (wpAny_alloc ?_)
  have hn := I.hok.fresh (Nat.le_refl s.heap.objs.size)
  have I1 := I.laid (a := s.heap.objs.size) (o := .dK []) (h' := s.heap.push { cls := .type "dict", data := .dict #[] }) (t' := s.toks) (fun _ _ q => Heap.get?_push_of_some _ q) (Nat.le_refl _) (dk_empty s.heap I.big)
  refine wpAny_bind (wpAny_holding (wpAny_bind (thn (hd.run pins _ σ _ _ I1 (h _ hn)) fun xv s1 hh => ?_)))
  obtain ⟨x, H1, J1, rx, a, kvs, ex, nap, ea, ep, hl, hq⟩ := hh
  subst ex
  obtain rfl : xv = Value.ref a := rx
  refine wpAny_bind (wpAny_standAt (wpAny_pure ?_))
  obtain ⟨_, ma, va, ra, da⟩ := dk_rd J1.hok ea
  obtain ⟨_, mp, vp, rp, dp⟩ := dk_of J1.hok ep
  cases rp
  have lva : va.length ≤ 1000 := by rw [← ra.length]; exact hl
  have ndv : (va.map (·.1)).Nodup := by
    obtain ⟨_, _, _, _, _, _, _, _, nd⟩ := da
    exact nd
  refine wpAny_bind (wpAny_onRaise (wpAny_tryCatch (wpAny_onRaise (wpAny_holding (mergeMap_ok (Ne.symm nap) ma dp da (by rw [sizeLine_eq, List.length_nil]; omega) fun h2 d2 s2 => ?_)))))
  rw [stored_nodup ndv] at d2
  have kz : kvs.length ≤ sizeLine := by rw [sizeLine_eq]; omega
  have J2 : Inv X pins σ (upd H1 s.heap.objs.size (.dK kvs)) { s1 with heap := h2, toks := s1.toks } :=
    d_write J1 (by rw [ep]; exact True.intro) s2 (let ⟨q, _, _, hq, _⟩ := d2; ⟨q, hq⟩) (dk_new kz mp ra d2)
  have hq2 : H1 h2.objs.size = none := by
    have f2 := J2.hok.fresh (Nat.le_refl h2.objs.size)
    have ne : h2.objs.size ≠ s.heap.objs.size := fun z => by
      rw [z, upd_same] at f2
      cases f2
    rw [upd_ne ne] at f2
    exact f2
  have J3 := J2.laid (a := h2.objs.size) (o := .dK []) (h' := h2.push { cls := .type "dict", data := .dict #[] }) (t' := s1.toks) (fun _ _ q => Heap.get?_push_of_some _ q) (Nat.le_refl _) (dk_empty h2 J2.big)
  refine wpAny_bind (wpAny_holding (wpAny_subDict (knd := mixKind X.prog X.w) (show 1 ≤ 15 by decide) ?_))
  unfold evalPairs
  refine wpAny_bind (thn (hk.run pins _ σ _ _ J3 (hq _ hq2)) fun kv s4 hh => ?_)
  obtain ⟨y, H4, J4, ry, hv4⟩ := hh
  refine wpAny_bind (wpAny_holding (wpAny_bind (thn (hv.run pins s4 σ H4 _ J4 hv4) fun vv s5 hh => ?_)))
  obtain ⟨z, H5, J5, rz, ky, ey, e5p, e5q, fin⟩ := hh
  subst ey
  refine wpAny_bind (wpAny_standAt (wpAny_pure (wpAny_bind ?_)))
  unfold evalPairs
  refine wpAny_holding (wpAny_pure (wpAny_pure ?_))
  obtain ⟨_, mq, vq, rq, dq⟩ := dk_of J5.hok e5q
  cases rq
  refine ⟨[(ky, vv)], ⟨kV_is ry, rfl, trivial⟩, dq, fun h6 d6 s6 => ?_⟩
  have d6' : h6.DictOf (mixKind X.prog X.w) h2.objs.size [(ky, vv)] := d6
  have J6 : Inv X pins σ (upd H5 h2.objs.size (.dK [(ky, z)])) { s5 with heap := h6, toks := s5.toks + 1 } :=
    d_write J5 (by rw [e5q]; exact True.intro) s6 (let ⟨q, _, _, hq, _⟩ := d6; ⟨q, hq⟩) (dk_new (by show 1 ≤ sizeLine; decide) mq (Paired.cons ⟨rfl, rz⟩ Paired.nil) d6')
  have npq : s.heap.objs.size ≠ h2.objs.size := fun z => by
    rw [z] at e5p
    have q := e5p.symm.trans e5q
    have f2 := J2.hok.fresh (Nat.le_refl h2.objs.size)
    rw [z, upd_same] at f2
    cases f2
  have e6p : upd H5 h2.objs.size (.dK [(ky, z)]) s.heap.objs.size = some (.dK kvs) := by rw [upd_ne npq]; exact e5p
  obtain ⟨_, mp6, v6, r6, d6p⟩ := dk_of J6.hok e6p
  refine wpAny_bind (wpAny_onRaise (wpAny_holding (mergeMap_ok npq mq d6p d6' (by rw [← r6.length, sizeLine_eq]; show kvs.length + 1 ≤ _; omega) fun h7 d7 s7 => ?_)))
  have pl : (putK kvs ky z).length ≤ sizeLine := by
    have := length_putK kvs ky z
    rw [sizeLine_eq]
    omega
  have J7 : Inv X pins σ (upd (upd H5 h2.objs.size (.dK [(ky, z)])) s.heap.objs.size (.dK (putK kvs ky z))) { s5 with heap := h7, toks := s5.toks + 1 } :=
    d_write (s := { s5 with heap := h6, toks := s5.toks + 1 }) (t' := s5.toks + 1) J6 (by rw [e6p]; exact True.intro) s7 (let ⟨q, _, _, hq, _⟩ := d7; ⟨q, hq⟩) (dk_new pl mp6 (kv_put r6 ky rz) d7)
  exact wpAny_pure ⟨.ref s.heap.objs.size, _, J7, rfl, fin⟩
theorem call_dictOf : CallR X (.type "dict") (fun xs H Q => ∃ (a : Addr) (kvs : List (Key × V)), xs = [.ref a] ∧ Rd H a (.dK kvs) ∧ ∀ p, H p = none → Q (.ref p) (upd H p (.dK kvs))) := by
  intro pins s σ H xs us Q I r h
  obtain ⟨a, kvs, rfl, ea, q⟩ := h
  obtain ⟨u, rfl, ru⟩ := vals1 r
  obtain rfl : u = Value.ref a := ru
  exact d_copyOf I ea fun p s' hp I' => ⟨.ref p, _, I', rfl, q p hp⟩
end

/-! ### match: texts, None, names, sequences (of tuples) -/
abbrev BS := List (Nat × V)
abbrev TPat := V → Hp → (Option BS → Hp → Prop) → Prop
abbrev TPats := List V → Hp → (Option BS → Hp → Prop) → Prop
section
variable {X : Cx}
/-- the slots and what they are to hold -/
def BindR (X : Cx) : BS → List (Str × Value) → Prop := Paired fun (a : Nat × V) (b : Str × Value) => X.N[a.1]? = some b.1 ∧ Loc X.env.scope b.1 ∧ (X.fn b.1 = true ∨ X.env.scope.names.lookup b.1 = some .local) ∧ RelV a.2 b.2
def OptR (X : Cx) : Option BS → Option (List (Str × Value)) → Prop
  | none, none => True
  | some a, some b => BindR X a b
  | _, _ => False
def MP (X : Cx) (pins : List (Addr × Obj)) (σ : L2.St) (Q : Option BS → Hp → Prop) (r : Option (List (Str × Value))) (s' : Shared) : Prop := ∃ r' H', Inv X pins σ H' s' ∧ OptR X r' r ∧ Q r' H'
structure PPat (X : Cx) (p : Pattern) (t : TPat) : Prop where
  run : ∀ (pins : List (Addr × Obj)) (s : Shared) (σ : L2.St) (H : Hp) (x : V) (u : Value) (Q : Option BS → Hp → Prop), Inv X pins σ H s → RelV x u → t x H Q → wpAny (model X.prog X.w) X.A (matchPattern p X.env u) (MP X pins σ Q) X.xe s
structure PPats (X : Cx) (ps : List Pattern) (t : TPats) : Prop where
  run : ∀ (pins : List (Addr × Obj)) (s : Shared) (σ : L2.St) (H : Hp) (xs : List V) (us : List Value) (Q : Option BS → Hp → Prop), Inv X pins σ H s → Vals xs us → t xs H Q → wpAny (model X.prog X.w) X.A (matchEach ps X.env us) (MP X pins σ Q) X.xe s
/-- a written text -/
def mStr (z : Str) : TPat := fun x H Q => scal x (.str z) = true ∧ Q (if x = .str z then some [] else none) H
theorem pm_str {z : Str} {j : Nat} {p pos : Pos} : PPat X (.MatchValue (.Constant (.str z) j p) pos) (mStr z) := by
  refine ⟨fun pins s σ H x u Q I rx h => ?_⟩
  obtain ⟨hs, q⟩ := h
  refine wpAny_matchPattern_Value (Calls.Constant_str ?_)
  refine wpAny_mono (op_eq pins _ σ H x (.str z) u _ (fun v H' => v = .bl (decide (x = .str z)) ∧ H' = H) (I.tok _) rx ⟨_, rfl⟩ ⟨hs, rfl, rfl⟩) (fun c s2 hc => ?_) fun _ _ z => z
  obtain ⟨v, H', I2, r2, rfl, rfl⟩ := hc
  cases r2
  refine wpAny_truthy_bool ?_
  by_cases e : x = .str z
  · rw [if_pos e] at q
    rw [decide_eq_true e, if_pos rfl]
    exact ⟨some [], H', I2, .nil, q⟩
  · rw [if_neg e] at q
    rw [decide_eq_false e, if_neg (by decide)]
    exact ⟨none, H', I2, trivial, q⟩
def mNon : TPat := fun x H Q => Q (if x = .non then some [] else none) H
theorem pm_non {pos : Pos} : PPat X (.MatchSingleton .none pos) mNon := by
  refine ⟨fun pins s σ H x u Q I rx h => ?_⟩
  show wpAny _ _ (pure (match Const.none, u with | .none, .none => some [] | .bool a, .bool b => if a == b then some [] else none | _, _ => none)) _ _ _
  refine wpAny_pure ?_
  have h : Q (if x = .non then some [] else none) H := h
  cases x with
  | non =>
    cases rx
    rw [if_pos rfl] at h
    exact ⟨some [], H, I, .nil, h⟩
  | _ =>
    rw [if_neg (by intro z; cases z)] at h
    refine ⟨none, H, I, ?_, h⟩
    first
      | (cases rx; trivial)
      | (obtain ⟨_, rfl⟩ := rx; trivial)
/-- a name, in slot i -/
def mAs (i : Nat) : TPat := fun x H Q => Q (some [(i, x)]) H
theorem pm_as {i : Nat} {n : Str} {pos : Pos} (hi : X.N[i]? = some n) (hl : Loc X.env.scope n) (hf : X.fn n = true ∨ X.env.scope.names.lookup n = some .local := by first | exact .inl rfl | exact .inr rfl) : PPat X (.MatchAs none (some n) pos) (mAs i) := by
  refine ⟨fun pins s σ H x u Q I rx h => wpAny_matchPattern_Capture ?_⟩
  exact ⟨some [(i, x)], H, I, .cons ⟨hi, hl, hf, rx⟩ .nil, h⟩
def mWild : TPat := fun _ H Q => Q (some []) H
theorem pm_wild {pos : Pos} : PPat X (.MatchAs none none pos) mWild := ⟨fun pins s σ H x u Q I rx h => wpAny_matchPattern_Capture ⟨some [], H, I, .nil, h⟩⟩
def mNil : TPats := fun _ H Q => Q (some []) H
def mCons (t : TPat) (ts : TPats) : TPats := fun xs H Q => ∃ x r, xs = x :: r ∧ t x H fun b H1 => match b with
  | none => Q none H1
  | some bs => ts r H1 fun b2 H2 => match b2 with
    | none => Q none H2
    | some more => Q (some (bs ++ more)) H2
theorem pms_nil : PPats X [] mNil := ⟨fun pins s σ H xs us Q I r h => wpAny_matchEach_nil ⟨some [], H, I, .nil, h⟩⟩
theorem bindR_app {a b : BS} {c d : List (Str × Value)} (h : BindR X a c) (k : BindR X b d) : BindR X (a ++ b) (c ++ d) := by
  induction h with
  | nil => exact k
  | cons r _ ih => exact .cons r ih
theorem pms_cons {p : Pattern} {ps : List Pattern} {t : TPat} {ts : TPats} (h1 : PPat X p t) (h2 : PPats X ps ts) (hs : p.isStar = false := by rfl) : PPats X (p :: ps) (mCons t ts) := by
  refine ⟨fun pins s σ H xs us Q I r h => ?_⟩
  obtain ⟨x, xr, rfl, h⟩ := h
  cases r with
  | cons rx rr =>
    refine wpAny_matchEach_cons (wpAny_mono (h1.run pins s σ H x _ _ I rx h) (fun b s1 q => ?_) fun _ _ z => z) hs
    obtain ⟨b', H1, I1, rb, q⟩ := q
    cases b' with
    | none =>
      cases b with
      | none => exact ⟨none, H1, I1, trivial, q⟩
      | some _ => exact False.elim rb
    | some bs =>
      cases b with
      | none => exact False.elim rb
      | some bv =>
        refine wpAny_mono (h2.run pins s1 σ H1 xr _ _ I1 rr q) (fun b2 s2 q2 => ?_) fun _ _ z => z
        obtain ⟨c', H2, I2, rc, q2⟩ := q2
        cases c' with
        | none =>
          cases b2 with
          | none => exact ⟨none, H2, I2, trivial, q2⟩
          | some _ => exact False.elim rc
        | some cs =>
          cases b2 with
          | none => exact False.elim rc
          | some cv => exact ⟨some (bs ++ cs), H2, I2, bindR_app rb rc, q2⟩
/-- a sequence of n patterns, of a tuple -/
def mSeq (K : PySem.W.Frag) (n : Nat) (ts : TPats) : TPat := fun x H Q => ∃ a xs, x = .ref a ∧ SqT K H a xs ∧ if xs.length = n then ts xs H Q else Q none H
theorem pm_seq {ps : List Pattern} {ts : TPats} {n : Nat} {pos : Pos} (hc : X.calm = true) (h : PPats X ps ts) (hn : ps.length = n := by rfl) (hstar : ps.findIdx? (·.isStar) = none := by rfl) (hwild : (ps.all fun p => p.isWildcard || (p.isStar && p.names.isEmpty)) = false := by rfl) : PPat X (.MatchSequence ps pos) (mSeq X.K n ts) := by
  refine ⟨fun pins s σ H x u Q I rx h' => ?_⟩
  obtain ⟨a, xs, rfl, hq, h'⟩ := h'
  obtain rfl : u = Value.ref a := rx
  obtain ⟨its, rv, ht, hz⟩ := I.tuple hq
  have lx : its.toArray.size = xs.length := by simpa using rv.length.symm
  have fit : ((its.toArray.size : Nat) : Int) < 2 ^ 63 := by
    have e : (2 : Int) ^ 63 = 9223372036854775808 := by decide
    have : sizeLine < 1000000000 := by decide
    rw [e]
    omega
  by_cases hl : xs.length = n
  · rw [if_pos hl] at h'
    refine PyProof.Rows.matchSeq_tuple_hit ht fit (by omega) ?_ hstar hwild
    have e : ps.length = its.toArray.size := by omega
    rw [e]
    refine PyProof.Rows.unpackItems_tuple (s := { s with toks := s.toks + 1 + 1 }) (I.ok.hd hc) ht fun h2 he => ?_
    have I2 : Inv X pins σ H { s with heap := h2, toks := s.toks + 1 + 1 } := I.kept (t' := s.toks + 1 + 1) fun b o q => he b o (Nat.ne_of_lt (Heap.lt_size q)) q
    exact h.run pins _ σ H xs _ Q I2 (by simpa using rv) h'
  · rw [if_neg hl] at h'
    exact PyProof.Rows.matchSeq_tuple_miss ht fit (by omega) ⟨none, H, I.tok _, trivial, h'⟩ hstar hwild
/-! the cases -/
def setAll (σ : L2.St) : BS → L2.St
  | [] => σ
  | (i, v) :: r => setAll (σ.set i (some v)) r
abbrev TCs := V → TS
structure PCs (X : Cx) (cs : List MatchCase) (t : TCs) : Prop where
  run : ∀ (pins : List (Addr × Obj)) (s : Shared) (σ : L2.St) (H : Hp) (x : V) (u : Value) (b : Bool) (D : Ends), Inv X pins σ H s → RelV x u → t x D σ H → wpAny (model X.prog X.w) X.A (matchCases cs X.env u b) (SP X pins D) X.xe s
theorem bind_all (hN : X.N.Nodup) {pins : List (Addr × Obj)} {H : Hp} {bs : BS} {vs : List (Str × Value)} (r : BindR X bs vs) : ∀ {σ : L2.St} {s : Shared} {Q : Unit → Shared → Prop}, Inv X pins σ H s → (∀ s', Inv X pins (setAll σ bs) H s' → Q () s') → wpAny (model X.prog X.w) X.A (assignInOrder (vs.map fun (n, _) => bindName X.env n) (vs.map (·.2))) Q X.xe s := by
  unfold BindR at r
  induction r with
  | nil => intro σ s Q I h; exact wpAny_assignInOrder_none (h s I)
  | cons r rr ih =>
    rename_i a b bs vs
    intro σ s Q I h
    obtain ⟨i, v⟩ := a
    obtain ⟨n, u⟩ := b
    obtain ⟨r1, r2, r3, r4⟩ := r
    exact wpAny_assignInOrder_more (wpAny_bindName (store_ok I hN r1 r2 r4 (fun s' I' => ih I' h) r3))
def tCs0 : TCs := fun _ D σ H => D.nx σ H
theorem pcs_nil : PCs X [] tCs0 := ⟨fun pins s σ H x u b D I r h => wpAny_matchCases_nil ⟨σ, H, I, h⟩⟩
def tCsC (tp : TPat) (tb : TS) (tr : TCs) : TCs := fun x D σ H => tp x H fun r H1 => match r with
  | none => tr x D σ H1
  | some bs => tb D (setAll σ bs) H1
theorem pcs_cons {p : Pattern} {body : List Stmt} {rest : List MatchCase} {tp : TPat} {tb : TS} {tr : TCs} (hN : X.N.Nodup) (hp : PPat X p tp) (hb : PSs X body tb) (hr : PCs X rest tr) : PCs X (⟨p, none, body⟩ :: rest) (tCsC tp tb tr) := by
  refine ⟨fun pins s σ H x u b D I r h => ?_⟩
  refine wpAny_matchCases_cons (wpAny_mono (hp.run pins s σ H x u _ I r h) (fun c s1 q => ?_) fun _ _ z => z)
  obtain ⟨c', H1, I1, rc, q⟩ := q
  cases c' with
  | none =>
    cases c with
    | none => exact hr.run pins s1 σ H1 x u false D I1 r q
    | some _ => exact False.elim rc
  | some bs =>
    cases c with
    | none => exact False.elim rc
    | some vs => exact bind_all hN rc I1 fun s2 I2 => hb.run pins s2 _ H1 D I2 q
def tMatch (te : TE) (tc : TCs) : TS := fun D σ H => te σ H fun x H1 => tc x D σ H1
theorem ps_match {e : Expr} {cs : List MatchCase} {te : TE} {tc : TCs} {pos : Pos} (he : PE X e te) (hc : PCs X cs tc) : PS X (.Match e cs pos) (tMatch te tc) := by
  refine ⟨fun pins s σ H D I h => ?_⟩
  exact wpAny_Match (thn (he.run pins s σ H _ I h) fun u s1 ⟨x, H1, I1, rx, q⟩ => hc.run pins s1 σ H1 x u true D I1 rx q)
end

/-! ### the pool: _law_pool, _law_mixed, _law_draw -/
abbrev sMixed : Stmt := topS 31
abbrev NMixed : List Str := ["_law_number", "_law_count", "_law_many"]
abbrev PMixed : List Str := ["_law_number", "_law_count", "_law_many"]
theorem scMixed : FnScope NMixed PMixed (defScope sMixed) := ⟨rfl, rfl, rfl, by decide +kernel, rfl, by decide +kernel, by decide +kernel⟩
abbrev sDraw : Stmt := topS 32
abbrev NDraw : List Str := ["_law_pool_here", "_law_many", "_law_at", "_law_cells", "_law_cell"]
abbrev PDraw : List Str := ["_law_pool_here", "_law_many"]
theorem scDraw : FnScope NDraw PDraw (defScope sDraw) := ⟨rfl, rfl, rfl, by decide +kernel, rfl, by decide +kernel, by decide +kernel⟩
abbrev sPool : Stmt := topS 30
abbrev NPool : List Str := ["_law_script", "_law_cells", "_law_cell", "_law_seed"]
abbrev PPool : List Str := ["_law_script"]
theorem scPool : FnScope NPool PPool (defScope sPool) := ⟨rfl, rfl, rfl, by decide +kernel, rfl, by decide +kernel, by decide +kernel⟩
/-- the pool at p, its cells at c; lim is its last item; at most n draws so far -/
def PoolAt (H : Hp) (p c : Addr) (lim : V) (n : Nat) : Prop :=
  ∃ (i : Nat) (cells : List Int) (cnt seed mode : Int), H p = some (.lst [.ref c, .int (i : Int), .int cnt, .int seed, .int mode, lim]) ∧ H c = some (.lst (cells.map V.int)) ∧
    i ≤ cells.length ∧ 0 ≤ cnt ∧ cnt ≤ (n : Int) ∧ 0 ≤ seed ∧ seed < 2147483647
def spMixed : Sp := fun vs H Q _ => ∃ (n c m : Int), vs = [.int n, .int c, .int m] ∧ 0 ≤ n ∧ n < 2147483647 ∧ 0 ≤ c ∧ c ≤ 1000000000000 ∧ 0 < m ∧ ∀ r : Int, 0 ≤ r → r < m → Q (.int r) H
def spDraw : Sp := fun vs H Q _ => ∃ (p c : Addr) (lim : V) (n : Nat) (m : Int), vs = [.ref p, .int m] ∧ PoolAt H p c lim n ∧ n < 1000000000000 ∧ 0 < m ∧ m ≤ 1000000000000000000 ∧
  ∀ (r : Int) (H' : Hp), 0 ≤ r → r < m → PoolAt H' p c lim (n + 1) → But p c H H' → Q (.int r) H'
def spPool (K : PySem.W.Frag) : Sp := fun vs H Q _ => ∃ (a : Addr) (ns : List Int), vs = [.ref a] ∧ SqL K H a (ns.map V.int) ∧ ns.length ≤ 63 ∧
  ∀ (p c : Addr) (H' : Hp), Same H H' → H p = none → H c = none → PoolAt H' p c (.int 30) 0 → Q (.ref p) H'
structure TxPool (mg : Str → Option Value) : Prop where
  n_int : mg "int" = none
  n_len : mg "len" = none
theorem pool_ne {H : Hp} {p c : Addr} {xs : List V} {cells : List Int} (hp : H p = some (.lst (.ref c :: xs))) (hc : H c = some (.lst (cells.map V.int))) : p ≠ c := ne_of hp hc (by
  intro z
  injection z with z
  cases cells with
  | nil => cases z
  | cons a r => injection z with z _; cases z)
theorem pow_lt {n c : Int} (h1 : 0 ≤ n) (h2 : n < 2147483647) (h3 : 0 ≤ c) (h4 : c ≤ 1000000000000) : (n + 7919 * c).natAbs < 2 ^ 64 := by
  have : (2 : Nat) ^ 64 = 18446744073709551616 := by decide
  omega
theorem m63 {m : Int} (h0 : 0 < m) (h1 : m ≤ 1000000000000000000) : m.natAbs < 2 ^ 63 := by
  have : (2 : Nat) ^ 63 = 9223372036854775808 := by decide
  omega
theorem set_ints (cells : List Int) (j : Nat) (z : Int) : (cells.map V.int).set j (V.int z) = (cells.set j z).map V.int := by
  rw [List.map_set]
theorem same_new {H : Hp} {p : Addr} {o : HO} (h : H p = none) : Same H (upd H p o) := fun b x e => by
  rw [upd_ne (ne_of_none e h)]
  exact e
theorem atI_in {α : Type} {xs : List α} {i : Int} (h0 : 0 ≤ i) (h1 : i < xs.length) : ∃ v, atI xs i = some v ∧ v ∈ xs := by
  have h : i.toNat < xs.length := by omega
  refine ⟨xs[i.toNat], ?_, List.getElem_mem h⟩
  have e : i = ((i.toNat : Nat) : Int) := by omega
  have q := atI_nat (xs := xs) (j := i.toNat) (v := xs[i.toNat]) (by simp [h])
  rw [← e] at q
  exact q
theorem PoolAt.same {H H' : Hp} {p c : Addr} {lim : V} {n : Nat} (h : PoolAt H p c lim n) (s : Same H H') : PoolAt H' p c lim n := by
  obtain ⟨i, cs, cn, sd, md, e1, e2, e⟩ := h
  exact ⟨i, cs, cn, sd, md, s _ _ e1, s _ _ e2, e⟩
theorem PoolAt.ne1 {H : Hp} {p c q : Addr} {lim : V} {n : Nat} (h : PoolAt H p c lim n) (hq : H q = none) : q ≠ p := fun z => by
  obtain ⟨_, _, _, _, _, e, _⟩ := h
  rw [z, e] at hq
  cases hq
theorem PoolAt.ne2 {H : Hp} {p c q : Addr} {lim : V} {n : Nat} (h : PoolAt H p c lim n) (hq : H q = none) : q ≠ c := fun z => by
  obtain ⟨_, _, _, _, _, _, e, _⟩ := h
  rw [z, e] at hq
  cases hq
theorem str_app_len (a b : Str) : (a ++ b : Str).length = a.length + b.length := by
  show (a.cps ++ b.cps).size = a.cps.size + b.cps.size
  exact Array.size_append
theorem PoolAt.mono {H : Hp} {p c : Addr} {lim : V} {n m : Nat} (h : PoolAt H p c lim n) (hm : n ≤ m) : PoolAt H p c lim m := by
  obtain ⟨i, cs, cn, sd, md, e1, e2, e3, e4, e5, e⟩ := h
  exact ⟨i, cs, cn, sd, md, e1, e2, e3, e4, by omega, e⟩
theorem PoolAt.upd {H : Hp} {p c q : Addr} {lim : V} {n : Nat} {o : HO} (h : PoolAt H p c lim n) (h1 : q ≠ p) (h2 : q ≠ c) : PoolAt (upd H q o) p c lim n := by
  obtain ⟨i, cs, cn, sd, md, e1, e2, e⟩ := h
  exact ⟨i, cs, cn, sd, md, by rw [upd_ne h1.symm]; exact e1, by rw [upd_ne h2.symm]; exact e2, e⟩
section
variable {P : Program} {w : World} {K : PySem.W.Frag} {mg : Str → Option Value} {base : Heap}
theorem ok_Mixed {f : Addr} {fd : FuncData} (F : Fun K "_law_mixed" "_law_mixed" sMixed f fd) (T : TxPool mg) : FnOk P w K mg base CX0 1 f fd PMixed spMixed := by
  refine F.ok scMixed (fun vs H Q E h => ?_) (fun cdv A outer s H vs Q E hr h => ?_)
  · obtain ⟨n, c, m, rfl, _⟩ := h
    rfl
  · obtain ⟨n, c, m, rfl, n0, n1, c0, c1, m0, k⟩ := h
    refine ⟨_, (pss_one (ps_ret (pe_op op_mod (pe_op op_fdiv (pe_callTy call_int1 (by rfl) T.n_int bb_int (pa_cons (pe_op op_mod (pe_op op_pow (pe_callTy call_int1 (by rfl) T.n_int bb_int (pa_cons (pe_op op_add (pv 0) (pe_op op_mul pe_int (pv 1))) pa_nil)) pe_int) pe_int) pa_nil)) pe_int) (pv 2)))), ?_⟩
    refine ⟨_, rfl, _, rfl, _, _, rfl, rfl, .inl ⟨by decide, by decide⟩, _, _, rfl, rfl, .inl ⟨_, rfl, ?_⟩⟩
    refine ⟨_, _, rfl, rfl, ⟨by decide, by decide, pow_lt n0 n1 c0 c1⟩, _, _, rfl, rfl, (show (0 : Int) < 2147483647 by decide), .inl ⟨_, rfl, ?_⟩⟩
    refine ⟨_, _, rfl, rfl, ⟨by decide, by decide⟩, _, rfl, _, _, rfl, rfl, m0, ?_⟩
    exact k _ (Int.emod_nonneg _ (by omega)) (Int.emod_lt_of_pos _ m0)
theorem ok_Draw {f : Addr} {fd : FuncData} (F : Fun K "_law_draw" "_law_draw" sDraw f fd) (T : TxPool mg) (GM : Has P w K mg base CX0 1 "_law_mixed" PMixed spMixed) :
    FnOk P w K mg base CX0 2 f fd PDraw spDraw := by
  refine F.ok scDraw (fun vs H Q E h => ?_) (fun cdv A outer s H vs Q E hr h => ?_)
  · obtain ⟨p, c, lim, n, m, rfl, _⟩ := h
    rfl
  · obtain ⟨p, c, lim, n, m, rfl, ⟨i, cells, cnt, seed, mode, hp, hc, hi, c0, c1, s0, s1⟩, hn, m0, m1, k⟩ := h
    have npc : p ≠ c := pool_ne hp hc
    refine ⟨_, (pss_cons (ps_asg (pe_op op_add (pe_ix (r := rIxL K) ix_list (pv 0) pe_int (fun _ _ => rfl)) pe_int) (pg_sub (pv 0) pe_int set_list))
  (pss_cons (ps_if (pt_cmpR op_ge (pe_ix (r := rIxL K) ix_list (pv 0) pe_int (fun _ _ => rfl)) (pe_callB call_len_seq (by rfl) T.n_len bb_len (pa_cons (pe_ix (r := rIxL K) ix_list (pv 0) pe_int (fun _ _ => rfl)) pa_nil)) (nomark _))
  (pss_one (ps_ret (pe_callH GM hr rfl pass0 (pa_cons (pe_ix (r := rIxL K) ix_list (pv 0) pe_int (fun _ _ => rfl)) (pa_cons (pe_ix (r := rIxL K) ix_list (pv 0) pe_int (fun _ _ => rfl)) (pa_cons (pv 1) pa_nil))))))
  pss_nil)
  (pss_cons (ps_set (i := 2) scDraw.nd rfl (Or.inl rfl) (pe_ix (r := rIxL K) ix_list (pv 0) pe_int (fun _ _ => rfl)))
  (pss_cons (ps_set (i := 3) scDraw.nd rfl (Or.inl rfl) (pe_ix (r := rIxL K) ix_list (pv 0) pe_int (fun _ _ => rfl)))
  (pss_cons (ps_set (i := 4) scDraw.nd rfl (Or.inl rfl) (pe_ix (r := rIxL K) ix_list (pv 3) (pv 2) (fun _ _ => rfl)))
  (pss_cons (ps_if (PW.pt (pw_and (pt_cmpR op_ne (pe_ix (r := rIxL K) ix_list (pv 0) pe_int (fun _ _ => rfl)) pe_int (nomark _)) (pw_and1 (pt_cmpR op_lt (pv 4) (pe_op op_pow pe_int pe_int) (nomark _)))))
  (pss_cons (ps_asg (pe_op op_add (pe_ix (r := rIxL K) ix_list (pv 0) pe_int (fun _ _ => rfl)) pe_int) (pg_sub (pv 0) pe_int set_list))
  (pss_cons (ps_if (pt_cmpR op_eq (pe_ix (r := rIxL K) ix_list (pv 0) pe_int (fun _ _ => rfl)) pe_int (nomark _))
  (pss_cons (ps_asg (pe_op op_add (pv 2) pe_int) (pg_sub (pv 0) pe_int set_list))
  (pss_one (ps_asg pe_int (pg_sub (pv 0) pe_int set_list))))
  pss_nil)
  (pss_one (ps_ret (pe_callH GM hr rfl pass0 (pa_cons (pe_op op_mod (pe_callTy call_int1 (by rfl) T.n_int bb_int (pa_cons (pv 4) pa_nil)) pe_int) (pa_cons (pe_ix (r := rIxL K) ix_list (pv 0) pe_int (fun _ _ => rfl)) (pa_cons (pv 1) pa_nil))))))))
  pss_nil)
  (pss_cons (ps_asg pe_int (pg_sub (pv 0) pe_int set_list))
  (pss_cons (ps_asg (pe_op op_fdivW (pe_callTy call_int1 (by rfl) T.n_int bb_int (pa_cons (pv 4) pa_nil)) (pv 1)) (pg_sub (pv 3) (pv 2) set_list))
  (pss_cons (ps_if (pt_cmpR op_eq (pe_ix (r := rIxL K) ix_list (pv 3) (pv 2) (fun _ _ => rfl)) pe_int (nomark _))
  (pss_cons (ps_asg (pe_op op_add (pv 2) pe_int) (pg_sub (pv 0) pe_int set_list))
  (pss_one (ps_asg pe_int (pg_sub (pv 0) pe_int set_list))))
  pss_nil)
  (pss_one (ps_ret (pe_op op_mod (pe_callTy call_int1 (by rfl) T.n_int bb_int (pa_cons (pv 4) pa_nil)) (pv 1))))))))))))), ?_⟩
    -- pool[2] = pool[2] + 1
    refine ⟨_, rfl, p, _, _, _, rfl, rfl, SqL.of hp, rfl, _, _, rfl, rfl, _, rfl, p, _, _, _, rfl, rfl, hp, rfl, ?_⟩
    have st : ∀ (i' : Nat) (md : Int) (cs : List Int), i' ≤ cs.length → ∀ H' : Hp, H' p = some (.lst [.ref c, .int (i' : Int), .int (cnt + 1), .int seed, .int md, lim]) → H' c = some (.lst (cs.map V.int)) → PoolAt H' p c lim (n + 1) :=
      fun i' md cs hl H' a b => ⟨i', cs, cnt + 1, seed, md, a, b, hl, by omega, by omega, s0, s1⟩
    have ac : ∀ {H' : Hp} {o : HO} {x : HO}, H' c = some x → upd H' p o c = some x := fun e => by rw [upd_ne npc.symm]; exact e
    have ap : ∀ {H' : Hp} {o : HO} {x : HO}, H' p = some x → upd H' c o p = some x := fun e => by rw [upd_ne npc]; exact e
    have kq : ∀ {H' : Hp} {o : HO}, But p c H H' → But p c H (upd H' p o) := fun b x o e hb hx => by rw [upd_ne hb]; exact b x o e hb hx
    have kc : ∀ {H' : Hp} {o : HO}, But p c H H' → But p c H (upd H' c o) := fun b x o e hb hx => by rw [upd_ne hx]; exact b x o e hb hx
    -- if pool[1] >= len(pool[0])
    refine ⟨_, rfl, p, _, _, _, rfl, rfl, SqL.of upd_same, rfl, _, rfl, p, _, _, _, rfl, rfl, SqL.of upd_same, rfl, c, _, rfl, .inl (SqL.of (ac hc)), _, _, rfl, rfl, _, rfl, ?_⟩
    refine ite2 (fun hge => ?_) (fun hlt => ?_)
    · refine ⟨_, rfl, p, _, _, _, rfl, rfl, SqL.of upd_same, rfl, _, rfl, p, _, _, _, rfl, rfl, SqL.of upd_same, rfl, _, rfl, seed, cnt + 1, m, rfl, s0, s1, by omega, by omega, m0, fun r r0 r1 => ?_⟩
      exact k r _ r0 r1 (st i mode cells hi _ upd_same (ac hc)) (kq But.refl)
    · have hil : i < cells.length := by
        have z : ¬ ((cells.map V.int).length : Int) ≤ (i : Int) := fun z => hlt (decide_eq_true z)
        rw [List.length_map] at z
        omega
      obtain ⟨cell, hcell⟩ : ∃ z, cells[i]? = some z := ⟨cells[i], by simp [hil]⟩
      have hcV : (cells.map V.int)[i]? = some (V.int cell) := by rw [List.getElem?_map, hcell]; rfl
      -- at, cells, cell
      refine ⟨_, rfl, p, _, _, _, rfl, rfl, SqL.of upd_same, rfl, ?_⟩
      refine ⟨_, rfl, p, _, _, _, rfl, rfl, SqL.of upd_same, rfl, ?_⟩
      refine ⟨_, rfl, _, rfl, c, _, _, _, rfl, rfl, SqL.of (ac hc), atI_nat hcV, ?_⟩
      -- if pool[4] != 2 and cell < 10 ** 18
      refine ⟨_, rfl, p, _, _, _, rfl, rfl, SqL.of upd_same, rfl, rfl, _, rfl, ?_⟩
      refine ite2 (fun h2 => ?gA) (fun h2 => iteF ?gB)
      case' gA => refine ⟨_, rfl, _, _, rfl, rfl, ⟨by decide, by decide, by decide⟩, _, _, rfl, rfl, _, rfl, ite2 (fun h3 => ?gD) (fun h3 => ?gC)⟩
      case gD =>
        refine ⟨_, rfl, p, _, _, _, rfl, rfl, SqL.of upd_same, rfl, _, _, rfl, rfl, _, rfl, p, _, _, _, rfl, rfl, upd_same, rfl, ?_⟩
        refine ⟨_, rfl, p, _, _, _, rfl, rfl, SqL.of upd_same, rfl, rfl, _, rfl, ite2 (fun h4 => ?_) (fun h4 => ?_)⟩
        · refine ⟨_, rfl, _, _, rfl, rfl, _, rfl, p, _, _, _, rfl, rfl, upd_same, rfl, ?_⟩
          refine ⟨_, rfl, p, _, _, _, rfl, rfl, upd_same, rfl, ?_⟩
          refine ⟨_, rfl, .inl ⟨_, rfl, _, _, rfl, rfl, (show (0 : Int) < 2147483647 by decide), _, rfl, p, _, _, _, rfl, rfl, SqL.of upd_same, rfl, _, rfl, _, cnt + 1, m, rfl, Int.emod_nonneg _ (by decide), Int.emod_lt_of_pos _ (by decide), by omega, by omega, m0, fun r r0 r1 => ?_⟩⟩
          exact k r _ r0 r1 (st (i + 1) 0 cells (by omega) _ upd_same (ac (ac (ac (ac hc))))) (kq (kq (kq (kq But.refl))))
        · refine ⟨_, rfl, .inl ⟨_, rfl, _, _, rfl, rfl, (show (0 : Int) < 2147483647 by decide), _, rfl, p, _, _, _, rfl, rfl, SqL.of upd_same, rfl, _, rfl, _, cnt + 1, m, rfl, Int.emod_nonneg _ (by decide), Int.emod_lt_of_pos _ (by decide), by omega, by omega, m0, fun r r0 r1 => ?_⟩⟩
          exact k r _ r0 r1 (st i (mode + 1) cells (by omega) _ upd_same (ac (ac hc))) (kq (kq But.refl))
      all_goals
        -- pool[4] = 2; cells[at] = int(cell) // many
        refine ⟨_, rfl, p, _, _, _, rfl, rfl, upd_same, rfl, ?_⟩
        have hix : ixN (cells.map V.int).length (i : Int) = some i := by
          unfold ixN
          rw [List.length_map, if_pos (by omega), if_pos (by omega), Int.toNat_natCast]
        refine ⟨_, rfl, .inl ⟨_, rfl, _, rfl, _, _, rfl, rfl, wide_div m0 (m63 m0 m1) (by decide) (by decide), _, rfl, _, rfl, c, _, _, i, rfl, rfl, ac (ac hc), hix, ?_⟩⟩
        rw [set_ints]
        have hcW : ((cells.set i (cell / m)).map V.int)[i]? = some (V.int (cell / m)) := by
          rw [List.getElem?_map, List.getElem?_set_self hil]; rfl
        have hlen : (cells.set i (cell / m)).length = cells.length := List.length_set
        refine ⟨_, rfl, _, rfl, c, _, _, _, rfl, rfl, SqL.of upd_same, atI_nat hcW, rfl, _, rfl, ite2 (fun h4 => ?_) (fun h4 => ?_)⟩
        · refine ⟨_, rfl, _, _, rfl, rfl, _, rfl, p, _, _, _, rfl, rfl, ap upd_same, rfl, ?_⟩
          refine ⟨_, rfl, p, _, _, _, rfl, rfl, upd_same, rfl, ?_⟩
          refine ⟨_, rfl, .inl ⟨_, rfl, _, rfl, _, _, rfl, rfl, m0, ?_⟩⟩
          exact k _ _ (Int.emod_nonneg _ (by omega)) (Int.emod_lt_of_pos _ m0) (st (i + 1) 0 _ (by omega) _ upd_same (ac (ac upd_same))) (kq (kq (kc (kq (kq But.refl)))))
        · refine ⟨_, rfl, .inl ⟨_, rfl, _, rfl, _, _, rfl, rfl, m0, ?_⟩⟩
          exact k _ _ (Int.emod_nonneg _ (by omega)) (Int.emod_lt_of_pos _ m0) (st i 2 _ (by omega) _ (ap upd_same) upd_same) (kc (kq (kq But.refl)))
/-! _law_pool -/
theorem cut63 {ns : List Int} (h : ns.length ≤ 63) : cutV (ns.map V.int) none (some 63) = ns.map V.int := by
  unfold cutV
  rw [HT.sIx_none, show HT.sIx (ns.map V.int).length (ns.map V.int).length (some 63) = min 63 (ns.map V.int).length from HT.sIx_nat _ _ 63]
  rw [List.length_map, List.drop_zero, List.take_of_length_le]
  rw [List.length_map]
  omega
theorem int_at {ns : List Int} {i : Nat} {x : V} (h : (ns.map V.int)[i]? = some x) : ∃ z, ns[i]? = some z ∧ x = V.int z := by
  rw [List.getElem?_map] at h
  cases e : ns[i]? with
  | none => rw [e] at h; cases h
  | some z => rw [e] at h; exact ⟨z, rfl, (Option.some.inj h).symm⟩
theorem take_snoc {α : Type} {l : List α} {i : Nat} {z : α} (h : l[i]? = some z) : l.take (i + 1) = l.take i ++ [z] := by
  rw [List.take_succ, h]; rfl
theorem ok_Pool {f : Addr} {fd : FuncData} (F : Fun K "_law_pool" "_law_pool" sPool f fd) (T : TxPool mg) : FnOk P w K mg base CX0 1 f fd PPool (spPool K) := by
  refine F.ok scPool (fun vs H Q E h => ?_) (fun cdv A outer s H vs Q E hr h => ?_)
  · obtain ⟨a, ns, rfl, _⟩ := h
    rfl
  · obtain ⟨a, ns, rfl, hS, hlen, k⟩ := h
    refine ⟨_, (pss_cons (ps_setLc (i := 1) (own := [("_law_cell", 2)]) (g := gName 2) (tt := tYes) rfl scPool.nd rfl rfl (sw_true rfl rfl rfl (by decide +kernel)) (pi_list (pe_slice sl_list (pv 0) po_none (po_some pe_int))) (blkOk_by (own := [("_law_cell", 2)]) (N := NPool) (sc := (defScope sPool)) (by decide +kernel)) (fun _ _ _ _ _ => (pg_name (i := 2) scPool.nd rfl (Or.inl rfl))) (fun _ _ _ _ _ => pts_nil) (fun _ _ _ _ _ => (pe_callTy call_int1 (by rfl) T.n_int bb_int (pa_cons (pv 2) pa_nil))))
  (pss_cons (ps_set (i := 3) scPool.nd rfl (Or.inl rfl) pe_int)
  (pss_cons (ps_for PassesOwn.never rfl (pi_list (pv 1)) (pg_name (i := 2) scPool.nd rfl (Or.inl rfl))
  (pss_one (ps_set (i := 3) scPool.nd rfl (Or.inl rfl) (pe_op op_mod (pe_callTy call_int1 (by rfl) T.n_int bb_int (pa_cons (pe_op op_add (pe_op op_mul (pv 3) pe_int) (pv 2)) pa_nil)) pe_int))))
  (pss_one (ps_ret (pe_lst (pa_cons (pv 1) (pa_cons pe_int (pa_cons pe_int (pa_cons (pv 3) (pa_cons pe_int (pa_cons pe_int pa_nil)))))))))))), ?_⟩
    refine ⟨_, rfl, 63, rfl, a, _, rfl, hS, fun q hq => ⟨q, rfl, ⟨_, SqL.of upd_same⟩, fun D hD => ?_⟩⟩
    rw [cut63 hlen] at *
    have nqD : q ≠ D := fun z => by rw [z, upd_same] at hD; cases hD
    have hD0 : H D = none := by rw [← hD, upd_ne (Ne.symm nqD)]
    refine lc_list (K := K) (a := q) (xs := ns.map V.int) (fun i H' => Same H H' ∧ H' q = some (.lst (ns.map V.int)) ∧ H' D = some (.lst ((ns.take i).map V.int))) ?_ ?_ ?_ ?_
    · exact ⟨fun b o e => by rw [upd_ne (ne_of_none e hD0), upd_ne (ne_of_none e hq)]; exact e, by rw [upd_ne nqD, upd_same], upd_same⟩
    · exact fun i H' _ h' => SqL.of h'.2.1
    · rintro i x H' hx ⟨s1, q1, d1⟩
      obtain ⟨z, hz, rfl⟩ := int_at hx
      refine ⟨rfl, _, rfl, .inl ⟨_, rfl, _, d1, ?_, ?_⟩⟩
      · exact small1000 (by rw [List.length_map, List.length_take]; omega)
      · refine ⟨fun b o e => by rw [upd_ne (ne_of_none e hD0)]; exact s1 b o e, by rw [upd_ne nqD]; exact q1, ?_⟩
        rw [upd_same, take_snoc hz, List.map_append]
        rfl
    · rintro H1 ⟨s1, q1, d1⟩
      rw [List.length_map, List.take_length] at d1
      -- seed = 11; the loop
      refine ⟨_, rfl, D, rfl, ⟨_, SqL.of d1⟩, for_list (K := K) (a := D) (xs := ns.map V.int) (fun i σ H' => ∃ (x : Option V) (z : Int), σ = [some (.ref a), some (.ref D), x, some (.int z)] ∧ 0 ≤ z ∧ z < 2147483647 ∧ H' = H1)
        ⟨none, 11, rfl, by decide, by decide, rfl⟩ (fun i σ H' _ ⟨_, _, _, _, _, e⟩ => by rw [e]; exact SqL.of d1) ?_ ?_⟩
      · rintro i x σ H' hx ⟨y, z, rfl, z0, z1, rfl⟩
        obtain ⟨u, hu, rfl⟩ := int_at hx
        refine ⟨_, rfl, _, _, rfl, rfl, .inr ⟨by decide, by decide⟩, _, rfl, _, _, rfl, rfl, .inl ⟨_, rfl, _, _, rfl, rfl, (show (0 : Int) < 2147483647 by decide), ?_⟩⟩
        exact ⟨_, _, rfl, Int.emod_nonneg _ (by decide), Int.emod_lt_of_pos _ (by decide), rfl⟩
      · rintro σ H' ⟨y, z, rfl, z0, z1, rfl⟩
        refine ⟨_, rfl, _, rfl, (by show 6 ≤ sizeLine; decide), fun p hp => ?_⟩
        have npD : D ≠ p := ne_of_none d1 hp
        refine k p D _ (s1.trans (same_new hp)) (s1.free hp) hD0 ⟨0, ns, 0, z, 0, upd_same, by rw [upd_ne npD]; exact d1, Nat.zero_le _, by decide, by decide, z0, z1⟩
end

def LET : Str := "abcdefghijklmnopqrstuvwxyz"
def DIG : Str := "0123456789"
def KWS : List Str := ["globals", "kinds", "keep", "def", "if", "else", "while", "risk", "raise", "try", "except", "finally", "undo", "with", "swallow", "return"]
def al (c : Nat) : Bool := decide (c ∈ LET.cps.toList) || decide (c ∈ DIG.cps.toList)

/-! ### what a name is -/
def isName (z : Str) : Bool := match z.cps.toList with
  | [] => false
  | c :: r => decide (c ∈ LET.cps.toList) && (c :: r).all al && !inV (.str z) (KWS.map V.str)
theorem isName_at {z : Str} {c : Nat} (h : z.cps.toList[0]? = some c) : isName z = (decide (c ∈ LET.cps.toList) && z.cps.toList.all al && !inV (.str z) (KWS.map V.str)) := by
  unfold isName
  cases e : z.cps.toList with
  | nil => rw [e] at h; simp at h
  | cons a r => rw [e] at h; simp at h; subst h; rfl

/-! of lcs.tpl: what the texts need -/
theorem Paired.snocP {α β : Type} {F : α → β → Prop} : ∀ {l₁ : List α} {l₂ : List β} {a : α} {b : β}, Paired F l₁ l₂ → F a b → Paired F (l₁ ++ [a]) (l₂ ++ [b])
  | _, _, _, _, .nil, h => .cons h .nil
  | _, _, _, _, .cons r t, h => .cons r (Paired.snocP t h)
theorem Paired.at {α β : Type} {F : α → β → Prop} {xs : List α} {ys : List β} (hp : Paired F xs ys) : ∀ {i : Nat} {x : α}, xs[i]? = some x → ∃ y, ys[i]? = some y ∧ F x y := by
  induction hp with
  | nil => intro i x h; simp at h
  | cons r t ih =>
    intro i x h
    cases i with
    | zero => cases h; exact ⟨_, rfl, r⟩
    | succ j => exact ih h
/-- tuples stay -/
def TSame (H H' : Hp) : Prop := ∀ b xs, H b = some (.tup xs) → H' b = some (.tup xs)
theorem TSame.of {H H' : Hp} (s : Same H H') : TSame H H' := fun b xs e => s b _ e
theorem TSame.trans {H H1 H2 : Hp} (a : TSame H H1) (b : TSame H1 H2) : TSame H H2 := fun x xs e => b x xs (a x xs e)
/-- each step gives some y with P i y; the steps lay new objects down -/
theorem lc_rel {J : It} {n : Nat} {G : Hp → Prop} {Y : Nat → Hp → V → Hp → Prop} (w : Walk J n G Y) {g : TG} {te : TE} {vs : List Nat} {σ : L2.St} {H1 : Hp} {D : Addr} {Qd : Hp → Prop} (P : Nat → V → Hp → Prop) (hP : ∀ i y H H', TSame H H' → P i y H → P i y H') (hD : H1 D = none) (hn : n ≤ 1000) (hG : ∀ H, Same H1 H → G H)
    (hs : ∀ i x H H' (k : VK), i < n → Same H1 H → Y i H x H' → (∀ y H4, Same H H4 → P i y H4 → k y H4) → g x (wipe σ vs) H' fun σ2 H2 => wipe σ2 vs = wipe σ vs ∧ te σ2 H2 k)
    (hd : ∀ ys H, Same H1 H → H D = some (.lst ys) → ys.length = n → (∀ i y, ys[i]? = some y → P i y H) → Qd H) :
    ∃ W : Nat → Nat → Hp → Prop, (∃ m, W 0 m (upd H1 D (.lst []))) ∧ ∀ i m H, W i m H →
      (J.stop i H ∧ Qd H) ∨ (J.go i H ∧ ∃ Nx : Hp → Prop, (∀ H', Nx H' → ∃ m', m' < m ∧ W (i + 1) m' H') ∧ ∀ x H', J.yld i H x H' → g x (wipe σ vs) H' fun σ2 H2 => wipe σ2 vs = wipe σ vs ∧ tYes σ2 H2 fun b H3 =>
        if b = true then te σ2 H3 fun y H4 => ∃ acc, H4 D = some (.lst acc) ∧ acc.length < sizeLine ∧ Nx (upd H4 D (.lst (acc ++ [y]))) else Nx H3) := by
  refine lc_it w (fun i H => Same H1 H ∧ ∃ ys, H D = some (.lst ys) ∧ ys.length = i ∧ ∀ j y, ys[j]? = some y → P j y H) ⟨same_new hD, [], upd_same, rfl, fun j y z => by simp at z⟩ (fun i H _ h => hG H h.1) (fun i x H H' hi ⟨s1, ys, e1, l1, p1⟩ y => ?_) (fun H ⟨s1, ys, e1, l1, p1⟩ => hd ys H s1 e1 l1 p1)
  refine hs i x H H' _ hi s1 y fun y H4 s4 p4 => ?_
  have t4 : TSame H4 (upd H4 D (.lst (ys ++ [y]))) := fun b xs z => by
    rw [upd_ne (ne_of z (s4 _ _ e1) (fun q => by cases q))]
    exact z
  refine ⟨ys, s4 _ _ e1, small1000 (by omega), fun b o z => ?_, ys ++ [y], upd_same, by rw [List.length_append, l1]; rfl, fun j z hz => ?_⟩
  · rw [upd_ne (ne_of_none z hD)]
    exact s4 b o (s1 b o z)
  · by_cases hj : j < ys.length
    · rw [List.getElem?_append_left hj] at hz
      exact hP _ _ _ _ ((TSame.of s4).trans t4) (p1 j z hz)
    · rw [List.getElem?_append_right (by omega)] at hz
      have hj' : j - ys.length = 0 := by
        have q := (List.getElem?_eq_some_iff.mp hz).1
        simp at q
        omega
      rw [hj'] at hz
      cases hz
      obtain rfl : j = i := by omega
      exact hP _ _ _ _ t4 p4
/-- each step gives f i -/
theorem lc_map {J : It} {n : Nat} {G : Hp → Prop} {Y : Nat → Hp → V → Hp → Prop} (w : Walk J n G Y) {g : TG} {te : TE} {vs : List Nat} {σ : L2.St} {H1 : Hp} {D : Addr} {Qd : Hp → Prop} (f : Nat → V) (hD : H1 D = none) (hn : n ≤ 1000) (hG : ∀ H, Same H1 H → G H)
    (hs : ∀ i x H H' (k : VK), i < n → Same H1 H → Y i H x H' → (∀ H4, Same H H4 → k (f i) H4) → g x (wipe σ vs) H' fun σ2 H2 => wipe σ2 vs = wipe σ vs ∧ te σ2 H2 k)
    (hd : ∀ H, Same H1 H → H D = some (.lst ((List.range n).map f)) → Qd H) :
    ∃ W : Nat → Nat → Hp → Prop, (∃ m, W 0 m (upd H1 D (.lst []))) ∧ ∀ i m H, W i m H →
      (J.stop i H ∧ Qd H) ∨ (J.go i H ∧ ∃ Nx : Hp → Prop, (∀ H', Nx H' → ∃ m', m' < m ∧ W (i + 1) m' H') ∧ ∀ x H', J.yld i H x H' → g x (wipe σ vs) H' fun σ2 H2 => wipe σ2 vs = wipe σ vs ∧ tYes σ2 H2 fun b H3 =>
        if b = true then te σ2 H3 fun y H4 => ∃ acc, H4 D = some (.lst acc) ∧ acc.length < sizeLine ∧ Nx (upd H4 D (.lst (acc ++ [y]))) else Nx H3) := by
  refine lc_rel w (fun i y _ => y = f i) (fun _ _ _ _ _ h => h) hD hn hG (fun i x H H' k hi s1 y kk => hs i x H H' k hi s1 y fun H4 s4 => kk _ H4 s4 rfl) fun ys H s1 e1 l1 p1 => hd H s1 ?_
  rw [e1]
  congr 2
  refine List.ext_getElem? fun j => ?_
  by_cases hj : j < n
  · rw [List.getElem?_map, List.getElem?_range hj]
    obtain ⟨y, hy⟩ : ∃ y, ys[j]? = some y := ⟨ys[j], by simp [l1, hj]⟩
    rw [hy, p1 j y hy]
    rfl
  · rw [List.getElem?_eq_none (by omega), List.getElem?_eq_none (by rw [List.length_map, List.length_range]; omega)]
theorem range_map {α β : Type} (l : List α) (F : α → β) (f : Nat → β) (h : ∀ (i : Nat) (x : α), l[i]? = some x → f i = F x) : (List.range l.length).map f = l.map F := by
  refine List.ext_getElem? fun j => ?_
  by_cases hj : j < l.length
  · rw [List.getElem?_map, List.getElem?_range hj, List.getElem?_map, List.getElem?_eq_getElem hj]
    exact congrArg some (h j _ (List.getElem?_eq_getElem hj))
  · rw [List.getElem?_eq_none (by rw [List.length_map, List.length_range]; omega), List.getElem?_eq_none (by rw [List.length_map]; omega)]

/-! ### trees -/
theorem Paired.snoc {α β : Type} {F : α → β → Prop} : ∀ {l₁ : List α} {l₂ : List β} {a : α} {b : β}, Paired F l₁ l₂ → F a b → Paired F (l₁ ++ [a]) (l₂ ++ [b])
  | _, _, _, _, .nil, h => .cons h .nil
  | _, _, _, _, .cons r t, h => .cons r (Paired.snoc t h)
theorem Paired.app {α β : Type} {F : α → β → Prop} : ∀ {l₁ l₃ : List α} {l₂ l₄ : List β}, Paired F l₁ l₂ → Paired F l₃ l₄ → Paired F (l₁ ++ l₃) (l₂ ++ l₄)
  | _, _, _, _, .nil, h => h
  | _, _, _, _, .cons r t, h => .cons r (Paired.app t h)
structure Ex where
  c : Int
  ts : List (Str × Int)
inductive Arg where
  | place (n : Str) | value (e : Ex)
abbrev Cal := Str × List Arg
mutual
inductive St where
  | set (t : Str) (e : Ex) | input (t : Str) | call (t : Option Str) (f : Str) (as : List Arg)
  | risk (ks : List Str) | raise (k : Str) | ret (e : Ex)
  | ite (a b : List St) | whl (b : List St) | try_ (b : List St) (hs : List Hd) (f : List St)
  | undo (ns : List Str) (b : List St) | with_ (e l : Cal) (ks : List Str) (b : List St)
inductive Hd where
  | mk (ks : List Str) (b : List St)
end
def Hd.ks : Hd → List Str
  | .mk ks _ => ks
def Hd.b : Hd → List St
  | .mk _ b => b
def exD (e : Ex) : PyData := .tuple [.int e.c, .tuple (e.ts.map fun p => .tuple [.str p.1, .int p.2])]
def nmD (ns : List Str) : PyData := .tuple (ns.map .str)
def argD : Arg → PyData
  | .place n => .tuple [.str "place", .str n]
  | .value e => .tuple [.str "value", exD e]
def calD (c : Cal) : PyData := .tuple [.str c.1, .tuple (c.2.map argD)]
def optD : Option Str → PyData
  | none => .none
  | some t => .str t
mutual
def stD : St → PyData
  | .set t e => .tuple [.str "set", .str t, exD e]
  | .input t => .tuple [.str "input", .str t]
  | .call t f as => .tuple [.str "call", optD t, .str f, .tuple (as.map argD)]
  | .risk ks => .tuple [.str "risk", nmD ks]
  | .raise k => .tuple [.str "raise", .str k]
  | .ret e => .tuple [.str "return", exD e]
  | .ite a b => .tuple [.str "if", .tuple (stsD a), .tuple (stsD b)]
  | .whl b => .tuple [.str "while", .tuple (stsD b)]
  | .try_ b hs f => .tuple [.str "try", .tuple (stsD b), .tuple (hdsD hs), .tuple (stsD f)]
  | .undo ns b => .tuple [.str "undo", nmD ns, .tuple (stsD b)]
  | .with_ e l ks b => .tuple [.str "with", calD e, calD l, nmD ks, .tuple (stsD b)]
def stsD : List St → List PyData
  | [] => []
  | s :: r => stD s :: stsD r
def hdD : Hd → PyData
  | .mk ks b => .tuple [nmD ks, .tuple (stsD b)]
def hdsD : List Hd → List PyData
  | [] => []
  | h :: r => hdD h :: hdsD r
end
def blD (b : List St) : PyData := .tuple (stsD b)
theorem stsD_map : ∀ b : List St, stsD b = b.map stD
  | [] => rfl
  | s :: r => by show stD s :: stsD r = _; rw [stsD_map r]; rfl
theorem hdsD_map : ∀ b : List Hd, hdsD b = b.map hdD
  | [] => rfl
  | s :: r => by show hdD s :: hdsD r = _; rw [hdsD_map r]; rfl
def parts : St → List (List St)
  | .ite a b => [a, b]
  | .whl b => [b]
  | .try_ b hs f => b :: (hs.map Hd.b ++ [f])
  | .undo _ b => [b]
  | .with_ _ _ _ b => [b]
  | _ => []
mutual
/-- how many statements stand within a statement -/
def szS : St → Nat
  | .ite a b => szB a + szB b
  | .whl b => szB b
  | .try_ b hs f => szB b + (szHs hs + szB f)
  | .undo _ b => szB b
  | .with_ _ _ _ b => szB b
  | .set _ _ => 0 | .input _ => 0 | .call _ _ _ => 0 | .risk _ => 0 | .raise _ => 0 | .ret _ => 0
def szB : List St → Nat
  | [] => 0
  | s :: r => 1 + szS s + szB r
def szH : Hd → Nat
  | .mk _ b => szB b
def szHs : List Hd → Nat
  | [] => 0
  | h :: r => szH h + szHs r
end
mutual
/-- how deep blocks stand within a statement -/
def dpS : St → Nat
  | .ite a b => max (dpB a) (dpB b)
  | .whl b => dpB b
  | .try_ b hs f => max (dpB b) (max (dpHs hs) (dpB f))
  | .undo _ b => dpB b
  | .with_ _ _ _ b => dpB b
  | .set _ _ => 0 | .input _ => 0 | .call _ _ _ => 0 | .risk _ => 0 | .raise _ => 0 | .ret _ => 0
def dpIn : List St → Nat
  | [] => 0
  | s :: r => max (dpS s) (dpIn r)
def dpB : List St → Nat
  | [] => 1
  | s :: r => 1 + max (dpS s) (dpIn r)
def dpH : Hd → Nat
  | .mk _ b => dpB b
def dpHs : List Hd → Nat
  | [] => 0
  | h :: r => max (dpH h) (dpHs r)
end
theorem dpB_eq : ∀ b, dpB b = 1 + dpIn b
  | [] => rfl
  | _ :: _ => rfl
theorem dp_hs : ∀ {hs : List Hd} {p : List St}, p ∈ hs.map Hd.b → dpB p ≤ dpHs hs
  | .mk ks b :: r, p, h => by
    show dpB p ≤ max (dpB b) (dpHs r)
    rcases List.mem_cons.mp h with z | z
    · rw [z]; exact Nat.le_max_left _ _
    · exact Nat.le_trans (dp_hs z) (Nat.le_max_right _ _)
theorem dp_part {s : St} {p : List St} (h : p ∈ parts s) : dpB p ≤ dpS s := by
  cases s with
  | ite a b =>
    simp only [parts, List.mem_cons, List.not_mem_nil, or_false] at h
    show _ ≤ max _ _
    rcases h with rfl | rfl
    · exact Nat.le_max_left _ _
    · exact Nat.le_max_right _ _
  | whl b => simp only [parts, List.mem_cons, List.not_mem_nil, or_false] at h; subst h; exact Nat.le_refl _
  | undo _ b => simp only [parts, List.mem_cons, List.not_mem_nil, or_false] at h; subst h; exact Nat.le_refl _
  | with_ _ _ _ b => simp only [parts, List.mem_cons, List.not_mem_nil, or_false] at h; subst h; exact Nat.le_refl _
  | try_ b hs f =>
    show _ ≤ max _ (max _ _)
    rcases List.mem_cons.mp h with z | z
    · rw [z]; exact Nat.le_max_left _ _
    · rcases List.mem_append.mp z with z | z
      · exact Nat.le_trans (dp_hs z) (Nat.le_trans (Nat.le_max_left _ _) (Nat.le_max_right _ _))
      · rw [List.mem_singleton.mp z]; exact Nat.le_trans (Nat.le_max_right _ _) (Nat.le_max_right _ _)
  | _ => simp [parts] at h
theorem dp_mem : ∀ {b : List St} {s : St}, s ∈ b → dpS s ≤ dpIn b
  | x :: r, s, h => by
    show _ ≤ max _ _
    rcases List.mem_cons.mp h with z | z
    · rw [z]; exact Nat.le_max_left _ _
    · exact Nat.le_trans (dp_mem z) (Nat.le_max_right _ _)
theorem dp_lt {b : List St} {s : St} {p : List St} (hs : s ∈ b) (hp : p ∈ parts s) : dpB p < dpB b := by
  have h1 := dp_part hp
  have h2 := dp_mem hs
  have h3 := dpB_eq b
  omega
theorem sz_hs : ∀ hs : List Hd, ((hs.map Hd.b).map szB).sum = szHs hs
  | [] => rfl
  | .mk ks b :: r => by
    show szB b + ((r.map Hd.b).map szB).sum = szB b + szHs r
    rw [sz_hs r]
theorem sz_parts (s : St) : ((parts s).map szB).sum = szS s := by
  cases s with
  | try_ b hs f =>
    show szB b + (((hs.map Hd.b) ++ [f]).map szB).sum = szB b + (szHs hs + szB f)
    rw [List.map_append, List.sum_append, sz_hs]
    rfl
  | ite a b => show szB a + (szB b + 0) = _; rfl
  | _ => rfl
end Aon
namespace L2
open PySem
/-! reading data -/
theorem SqT.same {K : PySem.W.Frag} {H H' : Hp} {a : Addr} {xs : List V} (e : Same H H') (h : SqT K H a xs) : SqT K H' a xs :=
  h.elim (fun h => .inl (h.elim (fun h => .inl (e _ _ h)) fun ⟨o, h⟩ => .inr ⟨o, e _ _ h⟩)) fun h => .inr h
mutual
theorem Dp.same {K : PySem.W.Frag} {H H' : Hp} (e : Same H H') {v : V} {d : PyData} (h : Dp K H v d) : Dp K H' v d :=
  match h with
  | .non => .non
  | .bl b => .bl b
  | .int i => .int i
  | .str x => .str x
  | .lst a b => .lst (e.seq a) (DpAll.same e b)
  | .tup a b => .tup (SqT.same e a) (DpAll.same e b)
theorem DpAll.same {K : PySem.W.Frag} {H H' : Hp} (e : Same H H') {vs : List V} {ds : List PyData} (h : DpAll K H vs ds) : DpAll K H' vs ds :=
  match h with
  | .nil => .nil
  | .cons a b => .cons (Dp.same e a) (DpAll.same e b)
end
theorem Dp.tupInv {K : PySem.W.Frag} {H : Hp} {v : V} {ds : List PyData} (h : Dp K H v (.tuple ds)) : ∃ a xs, v = .ref a ∧ SqT K H a xs ∧ DpAll K H xs ds := by
  cases h with
  | tup a b => exact ⟨_, _, rfl, a, b⟩
theorem Dp.strInv {K : PySem.W.Frag} {H : Hp} {v : V} {z : Str} (h : Dp K H v (.str z)) : v = .str z := by cases h; rfl
theorem Dp.intInv {K : PySem.W.Frag} {H : Hp} {v : V} {z : Int} (h : Dp K H v (.int z)) : v = .int z := by cases h; rfl
theorem DpAll.consInv {K : PySem.W.Frag} {H : Hp} {vs : List V} {d : PyData} {ds : List PyData} (h : DpAll K H vs (d :: ds)) : ∃ v r, vs = v :: r ∧ Dp K H v d ∧ DpAll K H r ds := by
  cases h with
  | cons a b => exact ⟨_, _, rfl, a, b⟩
theorem DpAll.nilInv {K : PySem.W.Frag} {H : Hp} {vs : List V} (h : DpAll K H vs []) : vs = [] := by cases h; rfl
theorem DpAll.len {K : PySem.W.Frag} {H : Hp} : ∀ {vs : List V} {ds : List PyData}, DpAll K H vs ds → vs.length = ds.length
  | _, _, .nil => rfl
  | _, _, .cons _ b => by rw [List.length_cons, List.length_cons, DpAll.len b]
theorem DpAll.at {K : PySem.W.Frag} {H : Hp} : ∀ {vs : List V} {ds : List PyData}, DpAll K H vs ds → ∀ {i : Nat} {v : V}, vs[i]? = some v → ∃ d, ds[i]? = some d ∧ Dp K H v d
  | _, _, .cons a b, 0, v, h => by simp at h; subst h; exact ⟨_, rfl, a⟩
  | _, _, .cons a b, i + 1, v, h => by simp at h ⊢; exact DpAll.at b h
theorem DpAll.map {K : PySem.W.Frag} {H : Hp} {α : Type} {f : α → PyData} : ∀ {vs : List V} {l : List α}, DpAll K H vs (l.map f) → Paired (fun v x => Dp K H v (f x)) vs l
  | _, [], h => by cases h; exact .nil
  | _, x :: r, h => by
    obtain ⟨v, vr, rfl, h1, h2⟩ := DpAll.consInv h
    exact .cons h1 (DpAll.map h2)
theorem DpAll.ofPaired {K : PySem.W.Frag} {H : Hp} {α : Type} {f : α → PyData} : ∀ {vs : List V} {l : List α}, Paired (fun v x => Dp K H v (f x)) vs l → DpAll K H vs (l.map f)
  | _, _, .nil => .nil
  | _, _, .cons a b => .cons a (DpAll.ofPaired b)
theorem DpAll.one {K : PySem.W.Frag} {H : Hp} {vs : List V} {d : PyData} (h : DpAll K H vs [d]) : ∃ v, vs = [v] ∧ Dp K H v d := by
  obtain ⟨v, r, rfl, h1, h2⟩ := DpAll.consInv h
  exact ⟨v, by rw [DpAll.nilInv h2], h1⟩
theorem DpAll.two {K : PySem.W.Frag} {H : Hp} {vs : List V} {d e : PyData} (h : DpAll K H vs [d, e]) : ∃ v w, vs = [v, w] ∧ Dp K H v d ∧ Dp K H w e := by
  obtain ⟨v, r, rfl, h1, h2⟩ := DpAll.consInv h
  obtain ⟨w, rfl, h3⟩ := DpAll.one h2
  exact ⟨v, w, rfl, h1, h3⟩
theorem DpAll.three {K : PySem.W.Frag} {H : Hp} {vs : List V} {d e f : PyData} (h : DpAll K H vs [d, e, f]) : ∃ v w x, vs = [v, w, x] ∧ Dp K H v d ∧ Dp K H w e ∧ Dp K H x f := by
  obtain ⟨v, r, rfl, h1, h2⟩ := DpAll.consInv h
  obtain ⟨w, x, rfl, h3, h4⟩ := DpAll.two h2
  exact ⟨v, w, x, rfl, h1, h3, h4⟩
theorem DpAll.four {K : PySem.W.Frag} {H : Hp} {vs : List V} {d e f g : PyData} (h : DpAll K H vs [d, e, f, g]) : ∃ v w x y, vs = [v, w, x, y] ∧ Dp K H v d ∧ Dp K H w e ∧ Dp K H x f ∧ Dp K H y g := by
  obtain ⟨v, r, rfl, h1, h2⟩ := DpAll.consInv h
  obtain ⟨w, x, y, rfl, h3, h4, h5⟩ := DpAll.three h2
  exact ⟨v, w, x, y, rfl, h1, h3, h4, h5⟩
end L2
namespace Aon
open PySem L2
theorem ty_tup {K : PySem.W.Frag} {H : Hp} {a : Addr} {xs : List V} (h : SqT K H a xs) : TyX K H (.ref a) (.type "tuple") := by
  rcases h with (h | ⟨o, h⟩) | h
  · exact .base (.tup h)
  · exact .fTuple h
  · obtain ⟨o, _, _, h1, h2, _⟩ := h
    exact .kTuple h1 h2

/-! ### wider bounds -/
theorem smallX {n : Nat} (h : n ≤ 100000) : n < sizeLine := Nat.lt_of_le_of_lt h (by decide)

/-! ### tokens -/
abbrev sKindOf : Stmt := topS 23
abbrev NKindOf : List Str := ["word", "char"]
abbrev PKindOf : List Str := ["word"]
theorem scKindOf : FnScope NKindOf PKindOf (defScope sKindOf) := ⟨rfl, rfl, rfl, by decide +kernel, rfl, by decide +kernel, by decide +kernel⟩
abbrev sEndRun : Stmt := topS 24
abbrev NEndRun : List Str := ["text", "start", "at"]
abbrev PEndRun : List Str := ["text", "start"]
theorem scEndRun : FnScope NEndRun PEndRun (defScope sEndRun) := ⟨rfl, rfl, rfl, by decide +kernel, rfl, by decide +kernel, by decide +kernel⟩
abbrev sToksOf : Stmt := topS 25
abbrev NToksOf : List Str := ["text", "found", "at", "stop"]
abbrev PToksOf : List Str := ["text"]
theorem scToksOf : FnScope NToksOf PToksOf (defScope sToksOf) := ⟨rfl, rfl, rfl, by decide +kernel, rfl, by decide +kernel, by decide +kernel⟩
def SIG : Str := "=+-*&?(){},"
structure TxTok (K : PySem.W.Frag) (mg : Str → Option Value) (kw : Addr) : Prop where
  n_len : mg "len" = none
  c_LETTERS : ∃ u, mg "LETTERS" = some u ∧ RelV (.str LET) u
  c_DIGITS : ∃ u, mg "DIGITS" = some u ∧ RelV (.str DIG) u
  c_SIGNS : ∃ u, mg "SIGNS" = some u ∧ RelV (.str SIG) u
  c_KEYWORDS : ∃ u, mg "KEYWORDS" = some u ∧ RelV (.ref kw) u
  kws : ∀ H, SqT K H kw (KWS.map V.str)
def dg (c : Nat) : Bool := decide (c ∈ DIG.cps.toList)
def kindOf (z : Str) : Str := if inV (.str z) (KWS.map V.str) = true then "mark" else match z.cps.toList with
  | [] => "bad"
  | c :: r => if c ∈ LET.cps.toList then "name" else if (c :: r).all dg = false then "bad" else if c = 48 ∧ 1 < (c :: r).length then "bad" else "number"
theorem eq_sign (c d : Nat) : decide (V.str (⟨#[c]⟩ : Str) = V.str ⟨#[d]⟩) = decide (c = d) := decide_eq_decide.mpr ⟨fun h => by
  injection h with h
  injection h with h
  injection h with h
  exact List.head_eq_of_cons_eq h, fun h => by rw [h]⟩
section
variable {P : Program} {w : World} {K : PySem.W.Frag} {mg : Str → Option Value} {base : Heap} {kw : Addr}
def spKind : Sp := fun vs H Q _ => ∃ z : Str, vs = [.str z] ∧ z.cps.toList ≠ [] ∧ z.length ≤ 1000000 ∧ Q (.str (kindOf z)) H
theorem ok_KindOf {f : Addr} {fd : FuncData} (F : Fun K "kind_of" "kind_of" sKindOf f fd) (T : TxTok K mg kw) : FnOk P w K mg base CX0 1 f fd PKindOf spKind := by
  refine F.ok scKindOf (fun vs H Q E h => ?_) (fun cdv A outer s H vs Q E hr h => ?_)
  · obtain ⟨z, rfl, _⟩ := h
    rfl
  · obtain ⟨z, rfl, hne, hz, k⟩ := h
    have hz' : z.length ≤ sizeLine := Nat.le_trans hz (by decide)
    obtain ⟨c, r, ec⟩ : ∃ c r, z.cps.toList = c :: r := by
      cases e : z.cps.toList with
      | nil => exact absurd e hne
      | cons a r => exact ⟨a, r, rfl⟩
    have h0 : z.cps.toList[0]? = some c := by rw [ec]; rfl
    have zl : z.length = (c :: r).length := by rw [← ec]; exact Array.length_toList.symm
    unfold kindOf at k
    rw [ec] at k
    simp only at k
    refine ⟨_, (pss_cons (ps_if (pt_cmpR op_in_seq (pv 0) (pe_globE rfl T.c_KEYWORDS) (by rfl))
  (pss_one (ps_ret pe_str))
  pss_nil)
  (pss_cons (ps_if (pt_cmpR op_in_sign (pe_ix ix_str (pv 0) pe_int (fun _ _ => rfl)) (pe_globE rfl T.c_LETTERS) (by rfl))
  (pss_one (ps_ret pe_str))
  pss_nil)
  (pss_cons (ps_for PassesOwn.never rfl (pi_str (pv 0)) (pg_name (i := 1) scKindOf.nd rfl (Or.inl rfl))
  (pss_one (ps_if (pt_cmpR op_notIn_sign (pv 1) (pe_globE rfl T.c_DIGITS) (by rfl))
  (pss_one (ps_ret pe_str))
  pss_nil)))
  (pss_cons (ps_if (PW.pt (pw_and (pt_cmpR op_eq (pe_ix ix_str (pv 0) pe_int (fun _ _ => rfl)) pe_str (nomark _)) (pw_and1 (pt_cmpR op_gt (pe_callB call_len_str (by rfl) T.n_len bb_len (pa_cons (pv 0) pa_nil)) pe_int (nomark _)))))
  (pss_one (ps_ret pe_str))
  pss_nil)
  (pss_one (ps_ret pe_str)))))), ?_⟩
    refine ⟨_, rfl, kw, _, rfl, .inr (T.kws _), rfl, by decide +kernel, _, rfl, ite2 (fun h1 => ?_) (fun h1 => ?_)⟩
    · have h1 : inV (.str z) (KWS.map V.str) = true := h1
      rw [if_pos h1] at k
      exact k
    · have h1 : ¬ inV (.str z) (KWS.map V.str) = true := h1
      rw [if_neg h1] at k
      refine ⟨_, rfl, z, 0, c, rfl, rfl, hz', atI_nat (j := 0) h0, c, _, rfl, rfl, _, rfl, ite2 (fun h2 => ?_) (fun h2 => ?_)⟩
      · rw [if_pos (of_decide_eq_true h2)] at k
        exact k
      · rw [if_neg (fun q => h2 (decide_eq_true q))] at k
        refine ⟨_, rfl, z, rfl, for_it (walk_str (z := z)) (fun i σ H' => H' = H ∧ (z.cps.toList.take i).all dg = true ∧ ∃ x, σ = [some (.str z), x]) ⟨rfl, rfl, none, rfl⟩ (fun _ _ _ _ _ => trivial) ?_ ?_⟩
        · rintro i x σ H1 H2 hi ⟨rfl, ha, y, rfl⟩ ⟨rfl, d, hd, rfl⟩
          have hd' : z.cps.toList[i]? = some d := by rw [Array.getElem?_toList]; exact hd
          refine ⟨_, rfl, d, _, rfl, rfl, _, rfl, ite2 (fun h3 => ?_) (fun h3 => ?_)⟩
          · have h3 : decide (d ∈ DIG.cps.toList) = false := by simpa using h3
            have : (c :: r).all dg = false := by
              rw [← ec, List.all_eq_false]
              exact ⟨d, List.mem_of_getElem? hd', by unfold dg; rw [h3]; decide⟩
            rw [if_pos this] at k
            exact k
          · have h3 : decide (d ∈ DIG.cps.toList) = true := by simpa using h3
            refine ⟨rfl, ?_, _, rfl⟩
            rw [take_snoc hd', List.all_append, ha, Bool.true_and, List.all_cons, List.all_nil, Bool.and_true]
            exact h3
        · rintro σ H1 ⟨rfl, ha, y, rfl⟩
          rw [show z.cps.size = z.cps.toList.length from Array.length_toList.symm, List.take_length, ec] at ha
          rw [if_neg (by rw [ha]; decide)] at k
          have e48 : ("0" : Str) = ⟨#[48]⟩ := by decide +kernel
          refine ⟨_, rfl, z, 0, c, rfl, rfl, hz', atI_nat (j := 0) h0, rfl, _, rfl, ite2 (fun h4 => ?_) (fun h4 => ?_)⟩
          · have h4 : decide (V.str (⟨#[c]⟩ : Str) = V.str ("0" : Str)) = true := h4
            rw [e48, eq_sign] at h4
            have h4 := of_decide_eq_true h4
            refine ⟨_, rfl, z, rfl, hz', _, _, rfl, rfl, _, rfl, ite2 (fun h5 => ?_) (fun h5 => ?_)⟩
            · have h5 := of_decide_eq_true h5
              rw [if_pos ⟨h4, by rw [← zl]; omega⟩] at k
              exact k
            · rw [if_neg (fun q => h5 (decide_eq_true (by rw [zl]; have := q.2; omega)))] at k
              exact k
          · have h4 : ¬ decide (V.str (⟨#[c]⟩ : Str) = V.str ("0" : Str)) = true := h4
            rw [e48, eq_sign] at h4
            rw [if_neg (fun q => h4 (decide_eq_true q.1))] at k
            exact k
/-! end_of_run -/
/-- the index behind the letters and digits that begin at i -/
def Run (t : List Nat) (i j : Nat) : Prop := i ≤ j ∧ j ≤ t.length ∧ (∀ x, i ≤ x → x < j → ∃ c, t[x]? = some c ∧ al c = true) ∧ ∀ c, t[j]? = some c → al c = false
def spEnd : Sp := fun vs H Q _ => ∃ (z : Str) (i j : Nat), vs = [.str z, .int (i : Nat)] ∧ z.length ≤ 1000000 ∧ Run z.cps.toList i j ∧ Q (.int (j : Nat)) H
theorem ok_EndRun {f : Addr} {fd : FuncData} (F : Fun K "end_of_run" "end_of_run" sEndRun f fd) (T : TxTok K mg kw) : FnOk P w K mg base CX0 1 f fd PEndRun spEnd := by
  refine F.ok scEndRun (fun vs H Q E h => ?_) (fun cdv A outer s H vs Q E hr h => ?_)
  · obtain ⟨z, i, j, rfl, _⟩ := h
    rfl
  · obtain ⟨z, i, j, rfl, hz, ⟨r1, r2, r3, r4⟩, k⟩ := h
    have hz' : z.length ≤ sizeLine := Nat.le_trans hz (by decide)
    have zl : z.length = z.cps.toList.length := Array.length_toList.symm
    refine ⟨_, (pss_cons (ps_set (i := 2) scEndRun.nd rfl (Or.inl rfl) (pv 1))
  (pss_cons (ps_while PassesOwn.never (PW.pt (pw_and (pt_cmpR op_lt (pv 2) (pe_callB call_len_str (by rfl) T.n_len bb_len (pa_cons (pv 0) pa_nil)) (nomark _)) (pw_and1 (PW.pt (pw_or (pt_cmpR op_in_sign (pe_ix ix_str (pv 0) (pv 2) (fun _ _ => rfl)) (pe_globE rfl T.c_LETTERS) (by rfl)) (pw_or1 (pt_cmpR op_in_sign (pe_ix ix_str (pv 0) (pv 2) (fun _ _ => rfl)) (pe_globE rfl T.c_DIGITS) (by rfl))))))))
  (pss_one (ps_aug (i := 2) scEndRun.nd rfl (Or.inl rfl) pe_int ip_add)))
  (pss_one (ps_ret (pv 2))))), ?_⟩
    refine ⟨_, rfl, fun m σ H' => ∃ a : Nat, m = j - a ∧ i ≤ a ∧ a ≤ j ∧ σ = [some (.str z), some (.int (i : Nat)), some (.int (a : Nat))] ∧ H' = H, ⟨_, i, rfl, Nat.le_refl _, r1, rfl, rfl⟩, ?_⟩
    rintro m σ H1 ⟨a, rfl, a1, a2, rfl, eH⟩
    have stop : a = j → Q (.int (a : Nat)) H1 := fun e => by rw [e, eH]; exact k
    refine ⟨_, rfl, _, rfl, z, rfl, hz', _, _, rfl, rfl, _, rfl, ite2 (fun h1 => ?_) (fun h1 => iteE rfl ⟨_, rfl, stop ?_⟩)⟩
    · have h1 : a < z.cps.toList.length := by have := of_decide_eq_true h1; omega
      obtain ⟨c, hc⟩ : ∃ c, z.cps.toList[a]? = some c := ⟨_, List.getElem?_eq_getElem h1⟩
      have atc : atI z.cps.toList ((a : Nat) : Int) = some c := atI_nat hc
      have go : al c = true → a < j := fun h => by
        rcases Nat.lt_or_ge a j with q | q
        · exact q
        · have e : a = j := by omega
          rw [e] at hc
          rw [r4 c hc] at h
          cases h
      have no : al c = false → a = j := fun h => by
        rcases Nat.lt_or_ge a j with q | q
        · obtain ⟨d, h1, h2⟩ := r3 a a1 q
          rw [hc] at h1
          cases h1
          rw [h] at h2
          cases h2
        · omega
      refine ⟨_, rfl, _, rfl, z, _, c, rfl, rfl, hz', atc, c, _, rfl, rfl, _, rfl, ite2 (fun h2 => iteS rfl ?_) (fun h2 => ?_)⟩
      · have q := go (by unfold al; rw [show decide (c ∈ LET.cps.toList) = true from h2]; rfl)
        refine ⟨fun σ' H' => σ' = [some (.str z), some (.int (i : Nat)), some (.int ((a + 1 : Nat) : Int))] ∧ H' = H, fun σ' H' ⟨e1, e2⟩ => ⟨j - (a + 1), by omega, a + 1, rfl, by omega, by omega, e1, e2⟩, ?_⟩
        exact ⟨_, rfl, _, _, rfl, rfl, rfl, eH⟩
      · have h2 : decide (c ∈ LET.cps.toList) = false := by simpa using h2
        refine ⟨_, rfl, _, rfl, z, _, c, rfl, rfl, hz', atc, c, _, rfl, rfl, _, rfl, ite2 (fun h3 => ?_) (fun h3 => ?_)⟩
        · have q := go (by unfold al; rw [h2, show decide (c ∈ DIG.cps.toList) = true from h3]; rfl)
          refine ⟨fun σ' H' => σ' = [some (.str z), some (.int (i : Nat)), some (.int ((a + 1 : Nat) : Int))] ∧ H' = H, fun σ' H' ⟨e1, e2⟩ => ⟨j - (a + 1), by omega, a + 1, rfl, by omega, by omega, e1, e2⟩, ?_⟩
          exact ⟨_, rfl, _, _, rfl, rfl, rfl, eH⟩
        · have h3 : decide (c ∈ DIG.cps.toList) = false := by simpa using h3
          exact ⟨_, rfl, stop (no (by unfold al; rw [h2, h3]; rfl))⟩
    · have h1 : ¬ a < z.length := fun q => h1 (decide_eq_true (by omega))
      omega
end


/-! ### the head by kernel runs: the top is run once for each look at what it leaves; no state is written out -/
section
open PySem.W
theorem split3 {S A B : Type} {o : Option S} {f : S → Bool} {g : S → A} {h : S → B} {a : A} {b : B} (h1 : o.map f = some true) (h2 : o.map g = some a) (h3 : o.map h = some b) : o.map (fun s => (f s, g s, h s)) = some (true, a, b) := by
  cases o with
  | none => cases h1
  | some s =>
    have e1 : f s = true := Option.some.inj h1
    have e2 : g s = a := Option.some.inj h2
    have e3 : h s = b := Option.some.inj h3
    show some (f s, g s, h s) = _
    rw [e1, e2, e3]
theorem split2 {S A B : Type} {o : Option S} {g : S → A} {h : S → B} {a : A} {b : B} (h2 : o.map g = some a) (h3 : o.map h = some b) : o.map (fun s => (g s, h s)) = some (a, b) := by
  cases o with
  | none => cases h2
  | some s =>
    have e2 : g s = a := Option.some.inj h2
    have e3 : h s = b := Option.some.inj h3
    show some (g s, h s) = _
    rw [e2, e3]
/-- the addresses that the module's names reach: functions, classes, their codes and methods -/
def refA : Value → List Addr
  | .ref a => [a]
  | _ => []
def refsA : Option Obj → List Addr
  | some ⟨_, _, .dict es _, _⟩ => es.toList.flatMap fun e => refA e.val
  | some ⟨_, _, .func fd, _⟩ => refA fd.code ++ refA fd.defaults
  | some ⟨_, _, .cls cd, _⟩ => [cd.ns]
  | _ => []
def nextA (g : Addr → Option Obj) (as : List Addr) : List Addr := as.flatMap fun a => refsA (g a)
def forceA {α : Type} : List Addr → (List Addr → α) → α
  | [], k => k []
  | a :: r, k => HandSHeadRun.frNat a fun a => forceA r fun r => k (a :: r)
theorem forceA_eq {α : Type} : ∀ (l : List Addr) (k : List Addr → α), forceA l k = k l
  | [], k => rfl
  | a :: r, k => by
    show HandSHeadRun.frNat a (fun a => forceA r fun r => k (a :: r)) = _
    rw [HandSHeadRun.frNat_eq, forceA_eq r]
def withA {α : Type} (g : Addr → Option Obj) (k : Frag → α) : α :=
  forceA (nextA g [mainGlobals]) fun f1 => forceA (nextA g f1) fun f2 => forceA (nextA g f2) fun f3 => forceA (nextA g f3) fun f4 => k (He.frG g (mainGlobals :: (f1 ++ (f2 ++ (f3 ++ f4)))))
theorem withA_eq {α : Type} (g : Addr → Option Obj) (k : Frag → α) : ∃ as, withA g k = k (He.frG g as) := by
  unfold withA
  simp only [forceA_eq]
  exact ⟨_, rfl⟩
abbrev AlA : Type := Bool × He.Al × List He.FnW
def obsA (fx : List (Frag → Bool)) (fa : List He.Fa) (fn : List He.FnD) (fw : List He.DefD) (K : Frag) : AlA := ((fx.all fun f => f K) && fw.all fun d => d.ok K, He.obsE fa fn K, fw.map fun d => He.fnW K d.at_)
def valA (fn : List He.FnD) (fw : List He.DefD) : AlA := (true, He.valE fn, fw.map He.DefD.val)
def SaysA (fx : List (Frag → Bool)) (fa : List He.Fa) (fn : List He.FnD) (fw : List He.DefD) (K : Frag) : Prop := obsA fx fa fn fw K = valA fn fw
def obsAG (fx : List (Frag → Bool)) (fa : List He.Fa) (fn : List He.FnD) (fw : List He.DefD) (g : Addr → Option Obj) : AlA := withA g (obsA fx fa fn fw)
def hookA (fx : List (Frag → Bool)) (fa : List He.Fa) (fn : List He.FnD) (fw : List He.DefD) : Hook where
  α := AlA
  obs := fun s => obsAG fx fa fn fw s.heap.get?
  val := fun _ => valA fn fw
  says := fun _ h => ∃ K : Frag, K.In h ∧ SaysA fx fa fn fw K
  of := fun _ s e => by
    obtain ⟨as, q⟩ := withA_eq s.heap.get? (obsA fx fa fn fw)
    exact ⟨_, He.frG_in, q.symm.trans e⟩
  keeps := fun _ _ _ ⟨K, hK, c⟩ k => ⟨K, Frag.In.keeps hK k, c⟩
theorem obsAG_eq {fx : List (Frag → Bool)} {fa : List He.Fa} {fn : List He.FnD} {fw : List He.DefD} {g : Addr → Option Obj} {s : Shared} (h : ∀ a, g a = s.heap.get? a) : obsAG fx fa fn fw g = (hookA fx fa fn fw).obs s := by
  have e : g = s.heap.get? := funext h
  rw [e] <;> rfl
/-- a def as a datum -/
def khDef (at_ : Str × Option Str) (name qual : Str) (st : Stmt) : He.FnD := ⟨at_, name, qual, defArgs st, defBody st, defScope st⟩
section
variable {fx : List (Frag → Bool)} {fa : List He.Fa} {fn : List He.FnD} {fw : List He.DefD} {K : Frag}
theorem SaysA.x (c : SaysA fx fa fn fw K) (i : Nat) {f : Frag → Bool} (h : fx[i]? = some f) : f K = true :=
  List.all_eq_true.mp (He.ba (show ((fx.all fun f => f K) && fw.all fun d => d.ok K) = true from congrArg (fun z : AlA => z.1) c)).1 f (List.mem_of_getElem? h)
theorem SaysA.says (c : SaysA fx fa fn fw K) : He.SaysE fa fn K := congrArg (fun z : AlA => z.2.1) c
theorem SaysA.dfl_ (c : SaysA fx fa fn fw K) (i : Nat) {d : He.DefD} (h : fw[i]? = some d) : ∃ fd, FunD K d.name d.qual d.params d.body d.scope (d.dvs K) (d.kws K) (He.fAd K d.at_) fd := by
  have c2 := (He.ba (show ((fx.all fun f => f K) && fw.all fun d => d.ok K) = true from congrArg (fun z : AlA => z.1) c)).2
  have e : fw.map (fun d => He.fnW K d.at_) = fw.map He.DefD.val := congrArg (fun z : AlA => z.2.2) c
  have e2 : (fw.map fun d => He.fnW K d.at_)[i]? = (fw.map He.DefD.val)[i]? := by rw [e]
  rw [List.getElem?_map, List.getElem?_map, h] at e2
  exact He.DefD.funD (Option.some.inj e2) (List.all_eq_true.mp c2 d (List.mem_of_getElem? h))
theorem SaysA.fact (c : SaysA fx fa fn fw K) (i : Nat) {f : He.Fa} (h : fa[i]? = some f) : f.ok K = true := c.says.fact i h
theorem SaysA.def_ (c : SaysA fx fa fn fw K) (i : Nat) {a : Str × Option Str} {x q : Str} {st : Stmt} (h : fn[i]? = some (khDef a x q st)) : ∃ fd, Fun K x q st (He.fAd K a) fd := by
  obtain ⟨oc, od, osl, kV, doc, pm, an, cdv, ct, l, cd⟩ := c.says.def_ i h
  exact ⟨_, fun_mk (st := st) l cd (by
    show (match K.lookup (He.fAd K a) with
      | some ⟨_, _, .func _, _⟩ => true
      | some ⟨_, _, .cls _, _⟩ => PySem.W.specialIn K (.ref (He.fAd K a)) "__call__" == some (some (.builtin "type.__call__"))
      | _ => false) = true
    rw [show K.lookup (He.fAd K a) = _ from l])⟩
end
end

/-! ### the end -/
abbrev khR : PySem.W.OpenRow := PySem.W.OpenLaw.row PySem.Challenge.rw_allornothing_k03_texts_and_trees
abbrev khQ : Program := PySem.W.view khR.prog [51]
def khN0 : List PySem.Str := ["__name__", "shown_term", "show_expression", "show_arg", "show_call", "simple_line", "headed_blocks", "statement_lines", "block_lines", "function_lines", "show", "ProgramError", "InvalidText", "InvalidSyntax", "TooLarge", "LETTERS", "DIGITS", "SIGNS", "KEYWORDS", "LONGEST", "DEEPEST", "kind_of", "end_of_run", "tokens_of", "expression_of", "Reader", "parse", "_law_pool", "_law_mixed", "_law_draw"]
def khN1 : List PySem.Str := ["_law_names", "_law_expression", "_law_args", "_law_call", "_law_some", "_law_piece", "_law_block", "_law_tree", "_law_parts", "_law_size", "_law_expression_text", "_law_call_text", "_law_heads", "_law_line", "_law_lines", "_law_text", "_law_same", "_law_wide"]
def khN : List PySem.Str := khN0 ++ khN1
def khX0 : List (PySem.W.Frag → Bool) := [fun K => He.tupB K "KEYWORDS" [.str "globals", .str "kinds", .str "keep", .str "def", .str "if", .str "else", .str "while", .str "risk", .str "raise", .str "try", .str "except", .str "finally", .str "undo", .str "with", .str "swallow", .str "return"]]
def khX : List (PySem.W.Frag → Bool) := khX0
def khF0 : List He.Fa := [.glo "_law_mixed",
    .glo "_law_draw",
    .glo "_law_pool",
    .glo "kind_of",
    .glo "end_of_run",
    .glo "tokens_of",
    .glo "expression_of",
    .glo "_law_names",
    .glo "shown_term",
    .glo "show_expression",
    .glo "show",
    .glo "_law_expression",
    .glo "_law_args",
    .glo "_law_call",
    .glo "parse",
    .glo "show_arg",
    .glo "show_call",
    .glo "simple_line",
    .glo "headed_blocks",
    .glo "statement_lines",
    .glo "block_lines",
    .glo "function_lines",
    .glo "show",
    .glo "_law_some",
    .glo "_law_piece"]
def khF1 : List He.Fa := [.glo "_law_block",
    .glo "_law_tree",
    .glo "_law_parts",
    .glo "_law_expression_text",
    .glo "_law_call_text",
    .glo "_law_line",
    .glo "_law_heads",
    .glo "_law_lines",
    .glo "_law_text",
    .glo "_law_wide",
    .glo "_law_same",
    .glo "law",
    .glo "Reader",
    .cls "Reader",
    .mkr "Reader",
    .noat "Reader" "tokens",
    .noat "Reader" "index_of_token",
    .noat "Reader" "depth",
    .meth "Reader" "__init__",
    .meth "Reader" "current",
    .meth "Reader" "is_next",
    .meth "Reader" "accept",
    .meth "Reader" "expect",
    .meth "Reader" "read_name",
    .meth "Reader" "read_names"]
def khF2 : List He.Fa := [.meth "Reader" "read_row",
    .meth "Reader" "read_term",
    .meth "Reader" "read_expression",
    .meth "Reader" "read_arg",
    .meth "Reader" "read_args",
    .meth "Reader" "read_block",
    .meth "Reader" "read_statement",
    .meth "Reader" "read_action",
    .meth "Reader" "read_try",
    .meth "Reader" "read_with",
    .meth "Reader" "read_param",
    .meth "Reader" "read_function",
    .meth "Reader" "read_program",
    .free "int",
    .free "len",
    .free "isinstance",
    .free "str",
    .free "enumerate",
    .free "range",
    .free "bool",
    .free "all",
    .free "tuple",
    .free "list",
    .free "abs",
    .free "sorted"]
def khF3 : List He.Fa := [.str "LETTERS" LET,
    .str "DIGITS" DIG,
    .str "SIGNS" SIG,
    .int "LONGEST" 12,
    .int "DEEPEST" 30,
    .glo "KEYWORDS"]
def khF : List He.Fa := khF0 ++ khF1 ++ khF2 ++ khF3
def khD0 : List He.FnD := [khDef ("_law_mixed", none) "_law_mixed" "_law_mixed" (topS 31),
    khDef ("_law_draw", none) "_law_draw" "_law_draw" (topS 32),
    khDef ("_law_pool", none) "_law_pool" "_law_pool" (topS 30),
    khDef ("kind_of", none) "kind_of" "kind_of" (topS 23),
    khDef ("end_of_run", none) "end_of_run" "end_of_run" (topS 24),
    khDef ("tokens_of", none) "tokens_of" "tokens_of" (topS 25),
    khDef ("expression_of", none) "expression_of" "expression_of" (topS 26),
    khDef ("_law_names", none) "_law_names" "_law_names" (topS 33),
    khDef ("shown_term", none) "shown_term" "shown_term" (topS 1),
    khDef ("show_expression", none) "show_expression" "show_expression" (topS 2),
    khDef ("show", none) "show" "show" (topS 10),
    khDef ("_law_expression", none) "_law_expression" "_law_expression" (topS 34),
    khDef ("_law_args", none) "_law_args" "_law_args" (topS 35),
    khDef ("_law_call", none) "_law_call" "_law_call" (topS 36),
    khDef ("parse", none) "parse" "parse" (topS 28),
    khDef ("show_arg", none) "show_arg" "show_arg" (topS 3),
    khDef ("show_call", none) "show_call" "show_call" (topS 4),
    khDef ("simple_line", none) "simple_line" "simple_line" (topS 5),
    khDef ("headed_blocks", none) "headed_blocks" "headed_blocks" (topS 6),
    khDef ("statement_lines", none) "statement_lines" "statement_lines" (topS 7),
    khDef ("block_lines", none) "block_lines" "block_lines" (topS 8),
    khDef ("function_lines", none) "function_lines" "function_lines" (topS 9),
    khDef ("show", none) "show" "show" (topS 10),
    khDef ("_law_some", none) "_law_some" "_law_some" (topS 37),
    khDef ("_law_piece", none) "_law_piece" "_law_piece" (topS 38)]
def khD1 : List He.FnD := [khDef ("_law_block", none) "_law_block" "_law_block" (topS 39),
    khDef ("_law_tree", none) "_law_tree" "_law_tree" (topS 40),
    khDef ("_law_parts", none) "_law_parts" "_law_parts" (topS 41),
    khDef ("_law_expression_text", none) "_law_expression_text" "_law_expression_text" (topS 43),
    khDef ("_law_call_text", none) "_law_call_text" "_law_call_text" (topS 44),
    khDef ("_law_line", none) "_law_line" "_law_line" (topS 46),
    khDef ("_law_heads", none) "_law_heads" "_law_heads" (topS 45),
    khDef ("_law_lines", none) "_law_lines" "_law_lines" (topS 47),
    khDef ("_law_text", none) "_law_text" "_law_text" (topS 48),
    khDef ("_law_wide", none) "_law_wide" "_law_wide" (topS 50),
    khDef ("_law_same", none) "_law_same" "_law_same" (topS 49),
    khDef ("law", none) "law" "law" (topS 51),
    khDef ("Reader", some "__init__") "__init__" "Reader.__init__" (inClass (topS 27) 0),
    khDef ("Reader", some "current") "current" "Reader.current" (inClass (topS 27) 1),
    khDef ("Reader", some "is_next") "is_next" "Reader.is_next" (inClass (topS 27) 2),
    khDef ("Reader", some "accept") "accept" "Reader.accept" (inClass (topS 27) 3),
    khDef ("Reader", some "expect") "expect" "Reader.expect" (inClass (topS 27) 4),
    khDef ("Reader", some "read_name") "read_name" "Reader.read_name" (inClass (topS 27) 5),
    khDef ("Reader", some "read_names") "read_names" "Reader.read_names" (inClass (topS 27) 6),
    khDef ("Reader", some "read_row") "read_row" "Reader.read_row" (inClass (topS 27) 7),
    khDef ("Reader", some "read_term") "read_term" "Reader.read_term" (inClass (topS 27) 8),
    khDef ("Reader", some "read_expression") "read_expression" "Reader.read_expression" (inClass (topS 27) 9),
    khDef ("Reader", some "read_arg") "read_arg" "Reader.read_arg" (inClass (topS 27) 10),
    khDef ("Reader", some "read_args") "read_args" "Reader.read_args" (inClass (topS 27) 11),
    khDef ("Reader", some "read_block") "read_block" "Reader.read_block" (inClass (topS 27) 12)]
def khD2 : List He.FnD := [khDef ("Reader", some "read_statement") "read_statement" "Reader.read_statement" (inClass (topS 27) 13),
    khDef ("Reader", some "read_action") "read_action" "Reader.read_action" (inClass (topS 27) 14),
    khDef ("Reader", some "read_try") "read_try" "Reader.read_try" (inClass (topS 27) 15),
    khDef ("Reader", some "read_with") "read_with" "Reader.read_with" (inClass (topS 27) 16),
    khDef ("Reader", some "read_param") "read_param" "Reader.read_param" (inClass (topS 27) 17),
    khDef ("Reader", some "read_function") "read_function" "Reader.read_function" (inClass (topS 27) 18),
    khDef ("Reader", some "read_program") "read_program" "Reader.read_program" (inClass (topS 27) 19)]
def khD : List He.FnD := khD0 ++ khD1 ++ khD2
def khW : List He.DefD := []
abbrev khH : PySem.W.Hook := hookA khX khF khD khW
def khO (s : PySem.W.SharedT) : AlA := obsAG khX khF khD khW (HandSHeadRun.getT s)
theorem khO_eq (s : PySem.W.SharedT) : khO s = khH.obs s.abs := obsAG_eq (HandSHeadRun.getT_eq s)
section
open PySem.W PySem.Calls PyProof.Rows HandSHeadRun
theorem khRun1 (w : World) (os : OsState) : (endF (stepQ (denQ tabQ) khR.prog w) 60000 khR.prog w os).map (fun s => looksF khR.prog (boot_heap w.params) s.abs) = some true := by kernel_rfl
theorem khRun2 (w : World) (os : OsState) : (endF (stepQ (denQ tabQ) khR.prog w) 60000 khR.prog w os).map (fun s => seenQ khQ khN (importedModules khR.prog.main.body) (fun s => xlAt khQ [] s && recOk khR.toRowW.records s) s.abs) = some (openGood khQ khN) := by kernel_rfl
theorem khRun3 (w : World) (os : OsState) : (endF (stepQ (denQ tabQ) khR.prog w) 60000 khR.prog w os).map khO = some (valA khD khW) := by kernel_rfl
theorem khRun (w : World) : RunEq khR khQ khH khO 60000 khN w := fun os => split3 (khRun1 w os) (khRun2 w os) (khRun3 w os)
end
/-! tokens_of -/
abbrev TK := Str × Str × Nat
def TkAt (H : Hp) (v : V) (tk : TK) : Prop := ∃ p, v = .ref p ∧ H p = some (.tup [.str tk.1, .str tk.2.1, .int (tk.2.2 : Nat)])
theorem TkAt.same {H H' : Hp} {v : V} {tk : TK} (h : TkAt H v tk) (s : ∀ b xs, H b = some (.tup xs) → H' b = some (.tup xs)) : TkAt H' v tk := let ⟨p, e, q⟩ := h; ⟨p, e, s _ _ q⟩
def cutT (t : List Nat) (i j : Nat) : Str := ⟨((t.drop i).take (j - i)).toArray⟩
def Plain (c : Nat) : Prop := c ≠ 32 ∧ c ≠ 10 ∧ c ∉ SIG.cps.toList
inductive Tkz (t : List Nat) : Nat → List TK → Prop
  | fin {a : Nat} (h : a = t.length) : Tkz t a [("end", "", a)]
  | gap {a c : Nat} {ts : List TK} (h : t[a]? = some c) (hc : c = 32 ∨ c = 10) (r : Tkz t (a + 1) ts) : Tkz t a ts
  | sign {a c : Nat} {ts : List TK} (h : t[a]? = some c) (hc : c ∈ SIG.cps.toList) (r : Tkz t (a + 1) ts) : Tkz t a (("mark", ⟨#[c]⟩, a) :: ts)
  | word {a j c : Nat} {ts : List TK} (h : t[a]? = some c) (hg : Plain c) (run : Run t a j) (lt : a < j) (k : kindOf (cutT t a j) ≠ "bad") (r : Tkz t j ts) : Tkz t a ((kindOf (cutT t a j), cutT t a j, a) :: ts)
  | bad {a j c : Nat} (h : t[a]? = some c) (hg : Plain c) (run : Run t a j) (b : j = a ∨ kindOf (cutT t a j) = "bad") : Tkz t a [("bad", "", a)]
theorem sig_gap : ∀ c ∈ SIG.cps.toList, c ≠ 32 ∧ c ≠ 10 := by decide +kernel
theorem e32 : (" " : Str) = ⟨#[32]⟩ := by decide +kernel
theorem e10 : ("\n" : Str) = ⟨#[10]⟩ := by decide +kernel
theorem cutS_nat {z : Str} {i j : Nat} (h1 : i ≤ j) (h2 : j ≤ z.cps.toList.length) : cutS z (some ((i : Nat) : Int)) (some ((j : Nat) : Int)) = cutT z.cps.toList i j := by
  have zl : z.length = z.cps.toList.length := Array.length_toList.symm
  unfold cutS cutT
  rw [HT.sIx_nat, HT.sIx_nat, Nat.min_eq_left (by omega), Nat.min_eq_left (by omega)]
theorem tkz_le {t : List Nat} {a : Nat} {ts : List TK} (h : Tkz t a ts) : a ≤ t.length := by
  cases h with
  | fin h => omega
  | gap h _ _ => exact Nat.le_of_lt (List.getElem?_eq_some_iff.mp h).1
  | sign h _ _ => exact Nat.le_of_lt (List.getElem?_eq_some_iff.mp h).1
  | word h _ _ _ _ _ => exact Nat.le_of_lt (List.getElem?_eq_some_iff.mp h).1
  | bad h _ _ _ => exact Nat.le_of_lt (List.getElem?_eq_some_iff.mp h).1
section
variable {P : Program} {w : World} {K : PySem.W.Frag} {mg : Str → Option Value} {base : Heap} {kw : Addr}
def spToks : Sp := fun vs H Q _ => ∃ (z : Str) (ts : List TK), vs = [.str z] ∧ z.length ≤ 1000000 ∧ Tkz z.cps.toList 0 ts ∧ ts.length ≤ 1000001 ∧ ∀ (L : Addr) (xs : List V) (H' : Hp), Same H H' → H L = none → H' L = some (.lst xs) → Paired (TkAt H') xs ts → Q (.ref L) H'
theorem ok_ToksOf {f : Addr} {fd : FuncData} (F : Fun K "tokens_of" "tokens_of" sToksOf f fd) (T : TxTok K mg kw) (GK : Has P w K mg base CX0 1 "kind_of" PKindOf spKind) (GE : Has P w K mg base CX0 1 "end_of_run" PEndRun spEnd) : FnOk P w K mg base CX0 2 f fd PToksOf spToks := by
  refine F.ok scToksOf (fun vs H Q E h => ?_) (fun cdv A outer s H vs Q E hr h => ?_)
  · obtain ⟨z, ts, rfl, _⟩ := h
    rfl
  · obtain ⟨z, ts, rfl, hz, ht, lts, k⟩ := h
    have hz' : z.length ≤ sizeLine := Nat.le_trans hz (by decide)
    have zl : z.length = z.cps.toList.length := Array.length_toList.symm
    refine ⟨_, (pss_cons (ps_set (i := 1) scToksOf.nd rfl (Or.inl rfl) (pe_lst pa_nil))
  (pss_cons (ps_set (i := 2) scToksOf.nd rfl (Or.inl rfl) pe_int)
  (pss_cons (ps_while PassesOwn.never (pt_cmpR op_lt (pv 2) (pe_callB call_len_str (by rfl) T.n_len bb_len (pa_cons (pv 0) pa_nil)) (nomark _))
  (pss_cons (ps_if (PW.pt (pw_or (pt_cmpR op_eq (pe_ix ix_str (pv 0) (pv 2) (fun _ _ => rfl)) pe_str (nomark _)) (pw_or1 (pt_cmpR op_eq (pe_ix ix_str (pv 0) (pv 2) (fun _ _ => rfl)) pe_str (nomark _)))))
  (pss_cons (ps_aug (i := 2) scToksOf.nd rfl (Or.inl rfl) pe_int ip_add)
  (pss_one ps_continue))
  pss_nil)
  (pss_cons (ps_if (pt_cmpR op_in_sign (pe_ix ix_str (pv 0) (pv 2) (fun _ _ => rfl)) (pe_globE rfl T.c_SIGNS) (by rfl))
  (pss_cons (ps_expr (pe_bm PySem.F.plainAttrs_list PySem.F.slot_list_append PySem.F.type_list_append mt_append (pv 1) (pa_cons (pe_tup (pa_cons pe_str (pa_cons (pe_ix ix_str (pv 0) (pv 2) (fun _ _ => rfl)) (pa_cons (pv 2) pa_nil)))) pa_nil)))
  (pss_cons (ps_aug (i := 2) scToksOf.nd rfl (Or.inl rfl) pe_int ip_add)
  (pss_one ps_continue)))
  pss_nil)
  (pss_cons (ps_set (i := 3) scToksOf.nd rfl (Or.inl rfl) (pe_callH GE hr rfl pass0 (pa_cons (pv 0) (pa_cons (pv 2) pa_nil))))
  (pss_cons (ps_if (PW.pt (pw_or (pt_cmpR op_eq (pv 3) (pv 2) (nomark _)) (pw_or1 (pt_cmpR op_eq (pe_callH GK hr rfl pass0 (pa_cons (pe_slice sl_str (pv 0) (po_some (pv 2)) (po_some (pv 3))) pa_nil)) pe_str (nomark _)))))
  (pss_cons (ps_expr (pe_bm PySem.F.plainAttrs_list PySem.F.slot_list_append PySem.F.type_list_append mt_append (pv 1) (pa_cons (pe_tup (pa_cons pe_str (pa_cons pe_str (pa_cons (pv 2) pa_nil)))) pa_nil)))
  (pss_one (ps_ret (pv 1))))
  pss_nil)
  (pss_cons (ps_expr (pe_bm PySem.F.plainAttrs_list PySem.F.slot_list_append PySem.F.type_list_append mt_append (pv 1) (pa_cons (pe_tup (pa_cons (pe_callH GK hr rfl pass0 (pa_cons (pe_slice sl_str (pv 0) (po_some (pv 2)) (po_some (pv 3))) pa_nil)) (pa_cons (pe_slice sl_str (pv 0) (po_some (pv 2)) (po_some (pv 3))) (pa_cons (pv 2) pa_nil)))) pa_nil)))
  (pss_one (ps_set (i := 2) scToksOf.nd rfl (Or.inl rfl) (pv 3)))))))))
  (pss_cons (ps_expr (pe_bm PySem.F.plainAttrs_list PySem.F.slot_list_append PySem.F.type_list_append mt_append (pv 1) (pa_cons (pe_tup (pa_cons pe_str (pa_cons pe_str (pa_cons (pe_callB call_len_str (by rfl) T.n_len bb_len (pa_cons (pv 0) pa_nil)) pa_nil)))) pa_nil)))
  (pss_one (ps_ret (pv 1))))))), ?_⟩
    refine ⟨(by show 0 ≤ sizeLine; decide), fun L hL => ?_⟩
    refine ⟨fun m σ H' => ∃ (a : Nat) (ts1 ts2 : List TK) (xs : List V) (x3 : Option V), m = z.length - a ∧ ts = ts1 ++ ts2 ∧ Tkz z.cps.toList a ts2 ∧ σ = [some (.str z), some (.ref L), some (.int (a : Nat)), x3] ∧ Same H H' ∧ H' L = some (.lst xs) ∧ Paired (TkAt H') xs ts1, ⟨_, 0, [], ts, [], _, rfl, rfl, ht, rfl, same_new hL, upd_same, .nil⟩, ?_⟩
    rintro m σ H1 ⟨a, ts1, ts2, xs, x3, rfl, ets, hz2, rfl, s1, eL, hp⟩
    have lx : xs.length = ts1.length := Paired.length hp
    have lt1 : ts1.length + ts2.length = ts.length := by rw [ets, List.length_append]
    -- one more token, whatever it is
    have more : ∀ {H2 : Hp} {p : Addr} {tk : TK}, Same H1 H2 → H2 p = none → Paired (TkAt (upd (upd H2 p (.tup [.str tk.1, .str tk.2.1, .int (tk.2.2 : Nat)])) L (.lst (xs ++ [.ref p])))) (xs ++ [.ref p]) (ts1 ++ [tk]) ∧ Same H (upd (upd H2 p (.tup [.str tk.1, .str tk.2.1, .int (tk.2.2 : Nat)])) L (.lst (xs ++ [.ref p]))) := fun {H2 p tk} s2 hp2 => by
      have s3 := same_new (o := .tup [.str tk.1, .str tk.2.1, .int (tk.2.2 : Nat)]) hp2
      have eL2 := s2 _ _ eL
      have pL : p ≠ L := fun z => by rw [z, eL2] at hp2; cases hp2
      refine ⟨Paired.snocP (Paired.mapP hp fun _ _ q => q.same fun b ys e => ?_) ⟨p, rfl, ?_⟩, fun b o e => ?_⟩
      · rw [upd_ne (ne_of (s2 _ _ e) eL2 fun z => by cases z)]
        exact s3 _ _ (s2 _ _ e)
      · rw [upd_ne pL, upd_same]
      · rw [upd_ne (ne_of_none e hL)]
        exact s3 _ _ (s2 _ _ (s1 _ _ e))
    refine ⟨_, rfl, _, rfl, z, rfl, hz', _, _, rfl, rfl, _, rfl, ite2 (fun h1 => ?_) (fun h1 => ?_)⟩
    · have h1 : a < z.cps.toList.length := by have := of_decide_eq_true h1; omega
      obtain ⟨c, hc⟩ : ∃ c, z.cps.toList[a]? = some c := ⟨_, List.getElem?_eq_getElem h1⟩
      have atc : atI z.cps.toList ((a : Nat) : Int) = some c := atI_nat hc
      refine ⟨fun σ' H' => ∃ (a' : Nat) (ts1 ts2 : List TK) (xs : List V) (x3 : Option V), a < a' ∧ a' ≤ z.cps.toList.length ∧ ts = ts1 ++ ts2 ∧ Tkz z.cps.toList a' ts2 ∧ σ' = [some (.str z), some (.ref L), some (.int (a' : Nat)), x3] ∧ Same H H' ∧ H' L = some (.lst xs) ∧ Paired (TkAt H') xs ts1, fun σ' H' ⟨a', u1, u2, us, ux, q1, q2, q3⟩ => ⟨z.length - a', by omega, a', u1, u2, us, ux, rfl, q3⟩, ?_⟩
      cases hz2 with
      | fin h => omega
      | @gap _ c' _ h hcc r =>
        rw [hc] at h
        cases h
        refine ⟨_, rfl, _, rfl, z, _, c, rfl, rfl, hz', atc, rfl, _, rfl, ?_⟩
        have le := tkz_le r
        rw [e32, eq_sign]
        refine ite2 (fun q => iteS rfl ?_) (fun q => ?_)
        · exact ⟨_, rfl, _, _, rfl, rfl, a + 1, ts1, ts2, xs, _, by omega, le, ets, r, rfl, s1, eL, hp⟩
        · have c10 : c = 10 := hcc.resolve_left fun e => q (decide_eq_true e)
          refine ⟨_, rfl, _, rfl, z, _, c, rfl, rfl, hz', atc, rfl, _, rfl, iteS (by rw [e10, eq_sign, decide_eq_true c10]) ?_⟩
          exact ⟨_, rfl, _, _, rfl, rfl, a + 1, ts1, ts2, xs, _, by omega, le, ets, r, rfl, s1, eL, hp⟩
      | @sign _ c' ts' h hcc r =>
        rw [hc] at h
        cases h
        obtain ⟨n1, n2⟩ := sig_gap c hcc
        refine ⟨_, rfl, _, rfl, z, _, c, rfl, rfl, hz', atc, rfl, _, rfl, iteE (by rw [e32, eq_sign, decide_eq_false n1]) ?_⟩
        refine ⟨_, rfl, _, rfl, z, _, c, rfl, rfl, hz', atc, rfl, _, rfl, iteE (by rw [e10, eq_sign, decide_eq_false n2]) ?_⟩
        refine ⟨_, rfl, _, rfl, z, _, c, rfl, rfl, hz', atc, c, _, rfl, rfl, _, rfl, iteS (decide_eq_true hcc) ?_⟩
        refine ⟨_, rfl, .inl ⟨rfl, _, SqL.of eL⟩, _, rfl, _, rfl, z, _, c, rfl, rfl, hz', atc, _, rfl, (by show 3 ≤ sizeLine; decide), fun p hp2 => ?_⟩
        obtain ⟨m1, m2⟩ := more (tk := ("mark", ⟨#[c]⟩, a)) (Same.refl _) hp2
        rw [List.length_cons] at lt1
        refine ⟨L, xs, _, rfl, rfl, same_new hp2 _ _ eL, Nat.lt_of_le_of_lt (show xs.length ≤ 1000001 by omega) (by decide), ?_⟩
        exact ⟨_, rfl, _, _, rfl, rfl, a + 1, ts1 ++ [(("mark", ⟨#[c]⟩, a) : TK)], ts', xs ++ [.ref p], _, by omega, tkz_le r, by rw [ets, List.append_assoc]; rfl, r, rfl, m2, upd_same, m1⟩
      | @word _ j c' ts' h hg run lt kb r =>
        rw [hc] at h
        cases h
        obtain ⟨n1, n2, n3⟩ := hg
        refine ⟨_, rfl, _, rfl, z, _, c, rfl, rfl, hz', atc, rfl, _, rfl, iteE (by rw [e32, eq_sign, decide_eq_false n1]) ?_⟩
        refine ⟨_, rfl, _, rfl, z, _, c, rfl, rfl, hz', atc, rfl, _, rfl, iteE (by rw [e10, eq_sign, decide_eq_false n2]) ?_⟩
        refine ⟨_, rfl, _, rfl, z, _, c, rfl, rfl, hz', atc, c, _, rfl, rfl, _, rfl, iteE (decide_eq_false n3) ?_⟩
        have j2 := run.2.1
        have cw : cutS z (some ((a : Nat) : Int)) (some ((j : Nat) : Int)) = cutT z.cps.toList a j := cutS_nat (by omega) j2
        have cl : (cutT z.cps.toList a j).cps.toList.length = j - a := by
          unfold cutT
          rw [List.toList_toArray, List.length_take, List.length_drop]
          omega
        have cne : (cutT z.cps.toList a j).cps.toList ≠ [] := fun e => by rw [e] at cl; simp at cl; omega
        have cle : (cutT z.cps.toList a j).length ≤ 1000000 := by
          have : (cutT z.cps.toList a j).length = (cutT z.cps.toList a j).cps.toList.length := Array.length_toList.symm
          omega
        refine ⟨_, rfl, _, rfl, z, a, j, rfl, hz, run, ?_⟩
        refine ⟨_, rfl, _, rfl, rfl, _, rfl, iteE (decide_eq_false fun q => by injection q with q; omega) ?_⟩
        refine ⟨_, rfl, _, rfl, _, rfl, _, rfl, _, rfl, z, rfl, hz', ?_⟩
        rw [cw]
        refine ⟨_, rfl, cne, cle, rfl, _, rfl, iteE (decide_eq_false fun q => kb (by injection q)) ?_⟩
        refine ⟨_, rfl, .inl ⟨rfl, _, SqL.of eL⟩, _, rfl, _, rfl, _, rfl, _, rfl, _, rfl, z, rfl, hz', ?_⟩
        rw [cw]
        refine ⟨_, rfl, cne, cle, ?_⟩
        refine ⟨_, rfl, _, rfl, _, rfl, _, rfl, _, rfl, z, rfl, hz', ?_⟩
        rw [cw]
        refine ⟨_, rfl, (by show 3 ≤ sizeLine; decide), fun p hp2 => ?_⟩
        obtain ⟨m1, m2⟩ := more (tk := (kindOf (cutT z.cps.toList a j), cutT z.cps.toList a j, a)) (Same.refl _) hp2
        rw [List.length_cons] at lt1
        refine ⟨L, xs, _, rfl, rfl, same_new hp2 _ _ eL, Nat.lt_of_le_of_lt (show xs.length ≤ 1000001 by omega) (by decide), ?_⟩
        exact ⟨_, rfl, j, ts1 ++ [(kindOf (cutT z.cps.toList a j), cutT z.cps.toList a j, a)], ts', xs ++ [.ref p], _, lt, tkz_le r, by rw [ets, List.append_assoc]; rfl, r, rfl, m2, upd_same, m1⟩
      | @bad _ j c' h hg run b =>
        rw [hc] at h
        cases h
        obtain ⟨n1, n2, n3⟩ := hg
        have fin : ∀ {p : Addr}, H1 p = none → Q (.ref L) (upd (upd H1 p (.tup [.str "bad", .str "", .int (a : Nat)])) L (.lst (xs ++ [.ref p]))) := fun {p} hp2 => by
          obtain ⟨m1, m2⟩ := more (tk := ("bad", "", a)) (Same.refl _) hp2
          exact k L _ _ m2 hL upd_same (by rw [ets]; exact m1)
        have sml : xs.length < sizeLine := Nat.lt_of_le_of_lt (show xs.length ≤ 1000001 by omega) (by decide)
        refine ⟨_, rfl, _, rfl, z, _, c, rfl, rfl, hz', atc, rfl, _, rfl, iteE (by rw [e32, eq_sign, decide_eq_false n1]) ?_⟩
        refine ⟨_, rfl, _, rfl, z, _, c, rfl, rfl, hz', atc, rfl, _, rfl, iteE (by rw [e10, eq_sign, decide_eq_false n2]) ?_⟩
        refine ⟨_, rfl, _, rfl, z, _, c, rfl, rfl, hz', atc, c, _, rfl, rfl, _, rfl, iteE (decide_eq_false n3) ?_⟩
        have j2 := run.2.1
        refine ⟨_, rfl, _, rfl, z, a, j, rfl, hz, run, ?_⟩
        by_cases ja : j = a
        · refine ⟨_, rfl, _, rfl, rfl, _, rfl, iteS (decide_eq_true (by rw [ja])) (iteS rfl ?_)⟩
          exact ⟨_, rfl, .inl ⟨rfl, _, SqL.of eL⟩, _, rfl, (by show 3 ≤ sizeLine; decide), fun p hp2 => ⟨L, xs, _, rfl, rfl, same_new hp2 _ _ eL, sml, _, rfl, fin hp2⟩⟩
        · have kb := b.resolve_left ja
          have r1 := run.1
          have cw : cutS z (some ((a : Nat) : Int)) (some ((j : Nat) : Int)) = cutT z.cps.toList a j := cutS_nat (by omega) j2
          have cl : (cutT z.cps.toList a j).cps.toList.length = j - a := by
            unfold cutT
            rw [List.toList_toArray, List.length_take, List.length_drop]
            omega
          have cne : (cutT z.cps.toList a j).cps.toList ≠ [] := fun e => by rw [e] at cl; simp at cl; omega
          have cle : (cutT z.cps.toList a j).length ≤ 1000000 := by
            have : (cutT z.cps.toList a j).length = (cutT z.cps.toList a j).cps.toList.length := Array.length_toList.symm
            omega
          refine ⟨_, rfl, _, rfl, rfl, _, rfl, iteE (decide_eq_false fun q => by injection q with q; omega) ?_⟩
          refine ⟨_, rfl, _, rfl, _, rfl, _, rfl, _, rfl, z, rfl, hz', ?_⟩
          rw [cw]
          refine ⟨_, rfl, cne, cle, rfl, _, rfl, iteS (decide_eq_true (by rw [kb])) ?_⟩
          exact ⟨_, rfl, .inl ⟨rfl, _, SqL.of eL⟩, _, rfl, (by show 3 ≤ sizeLine; decide), fun p hp2 => ⟨L, xs, _, rfl, rfl, same_new hp2 _ _ eL, sml, _, rfl, fin hp2⟩⟩
    · have h1 : ¬ a < z.length := fun q => h1 (decide_eq_true (by omega))
      cases hz2 with
      | fin h =>
        refine ⟨_, rfl, .inl ⟨rfl, _, SqL.of eL⟩, _, rfl, z, rfl, hz', (by show 3 ≤ sizeLine; decide), fun p hp2 => ?_⟩
        obtain ⟨m1, m2⟩ := more (tk := ("end", "", z.length)) (Same.refl _) hp2
        have ea : a = z.length := by omega
        exact ⟨L, xs, _, rfl, rfl, same_new hp2 _ _ eL, Nat.lt_of_le_of_lt (show xs.length ≤ 1000001 by omega) (by decide), _, rfl, k L _ _ m2 hL upd_same (by rw [ets, ea]; exact m1)⟩
      | gap h _ _ => exact absurd (List.getElem?_eq_some_iff.mp h).1 (by omega)
      | sign h _ _ => exact absurd (List.getElem?_eq_some_iff.mp h).1 (by omega)
      | word h _ _ _ _ _ => exact absurd (List.getElem?_eq_some_iff.mp h).1 (by omega)
      | bad h _ _ _ => exact absurd (List.getElem?_eq_some_iff.mp h).1 (by omega)
end


/-! ### the class Reader -/
abbrev sRIni : Stmt := inClass (topS 27) 0
abbrev NRIni : List Str := ["self", "text"]
abbrev PRIni : List Str := ["self", "text"]
theorem scRIni : FnScope NRIni PRIni (defScope sRIni) := ⟨rfl, rfl, rfl, by decide +kernel, rfl, by decide +kernel, by decide +kernel⟩
abbrev sRCur : Stmt := inClass (topS 27) 1
abbrev NRCur : List Str := ["self"]
abbrev PRCur : List Str := ["self"]
theorem scRCur : FnScope NRCur PRCur (defScope sRCur) := ⟨rfl, rfl, rfl, by decide +kernel, rfl, by decide +kernel, by decide +kernel⟩
abbrev sRNext : Stmt := inClass (topS 27) 2
abbrev NRNext : List Str := ["self", "word"]
abbrev PRNext : List Str := ["self", "word"]
theorem scRNext : FnScope NRNext PRNext (defScope sRNext) := ⟨rfl, rfl, rfl, by decide +kernel, rfl, by decide +kernel, by decide +kernel⟩
abbrev sRAcc : Stmt := inClass (topS 27) 3
abbrev NRAcc : List Str := ["self", "word"]
abbrev PRAcc : List Str := ["self", "word"]
theorem scRAcc : FnScope NRAcc PRAcc (defScope sRAcc) := ⟨rfl, rfl, rfl, by decide +kernel, rfl, by decide +kernel, by decide +kernel⟩
abbrev sRName : Stmt := inClass (topS 27) 5
abbrev NRName : List Str := ["self", "token"]
abbrev PRName : List Str := ["self"]
theorem scRName : FnScope NRName PRName (defScope sRName) := ⟨rfl, rfl, rfl, by decide +kernel, rfl, by decide +kernel, by decide +kernel⟩
abbrev sRRow : Stmt := inClass (topS 27) 7
abbrev NRRow : List Str := ["self", "names"]
abbrev PRRow : List Str := ["self"]
theorem scRRow : FnScope NRRow PRRow (defScope sRRow) := ⟨rfl, rfl, rfl, by decide +kernel, rfl, by decide +kernel, by decide +kernel⟩
abbrev sRTerm : Stmt := inClass (topS 27) 8
abbrev NRTerm : List Str := ["self", "token"]
abbrev PRTerm : List Str := ["self"]
theorem scRTerm : FnScope NRTerm PRTerm (defScope sRTerm) := ⟨rfl, rfl, rfl, by decide +kernel, rfl, by decide +kernel, by decide +kernel⟩
def rdF (L : Addr) (i d : Nat) : List (Str × V) := [("tokens", .ref L), ("index_of_token", .int (i : Nat)), ("depth", .int (d : Nat))]
structure TxR (K : PySem.W.Frag) (C : Addr) : Prop where
  cl : Cls K C
  nT : NoAttr K C "tokens"
  nI : NoAttr K C "index_of_token"
  nD : NoAttr K C "depth"
def RdAt (C : Addr) (H : Hp) (S L : Addr) (i d : Nat) (ts : List TK) : Prop := ∃ (dx : Addr) (xs : List V), H S = some (.ins C dx (rdF L i d)) ∧ H L = some (.lst xs) ∧ Paired (TkAt H) xs ts
/-- all but S stays -/
def Bt (S : Addr) (H H' : Hp) : Prop := ∀ b o, H b = some o → b ≠ S → H' b = some o
theorem Bt.refl {S : Addr} {H : Hp} : Bt S H H := fun _ _ e _ => e
theorem Bt.trans {S : Addr} {H H1 H2 : Hp} (a : Bt S H H1) (b : Bt S H1 H2) : Bt S H H2 := fun c o e h => b c o (a c o e h) h
theorem Bt.of {S : Addr} {H H' : Hp} (s : Same H H') : Bt S H H' := fun b o e _ => s b o e
theorem RdAt.same {C : Addr} {H H' : Hp} {S L : Addr} {i d : Nat} {ts : List TK} (h : RdAt C H S L i d ts) (s : Same H H') : RdAt C H' S L i d ts := let ⟨dx, xs, e1, e2, e3⟩ := h; ⟨dx, xs, s _ _ e1, s _ _ e2, Paired.mapP e3 fun _ _ q => q.same fun _ _ e => s _ _ e⟩
theorem RdAt.step {C : Addr} {H : Hp} {S L dx : Addr} {i j d : Nat} {ts : List TK} (h : RdAt C H S L i d ts) : RdAt C (upd H S (.ins C dx (rdF L j d))) S L j d ts := by
  obtain ⟨dy, xs, e1, e2, e3⟩ := h
  refine ⟨dx, xs, upd_same, by rw [upd_ne (ne_of e2 e1 fun z => by cases z)]; exact e2, Paired.mapP e3 fun _ _ q => q.same fun b ys e => ?_⟩
  rw [upd_ne (ne_of e e1 fun z => by cases z)]
  exact e
theorem bt_upd {H : Hp} {S : Addr} {o : HO} : Bt S H (upd H S o) := fun b x e h => by rw [upd_ne h]; exact e
theorem ti_ne : ¬ (("tokens" : Str) = "index_of_token") := by decide +kernel
theorem td_ne : ¬ (("tokens" : Str) = "depth") := by decide +kernel
theorem id_ne : ¬ (("index_of_token" : Str) = "depth") := by decide +kernel
theorem putF_ix (L : Addr) (i j d : Nat) : putF "index_of_token" (.int (j : Nat)) (rdF L i d) = rdF L j d := by
  show (if ("tokens" : Str) = "index_of_token" then _ else (("tokens" : Str), V.ref L) :: (if ("index_of_token" : Str) = "index_of_token" then _ else _)) = _
  rw [if_neg ti_ne, if_pos rfl]
  rfl
theorem putF_rd (L : Addr) : putF "depth" (.int 0) (putF "index_of_token" (.int 0) (putF "tokens" (.ref L) [])) = rdF L 0 0 := by
  show putF "depth" (.int 0) (if ("tokens" : Str) = "index_of_token" then _ else (("tokens" : Str), V.ref L) :: [(("index_of_token" : Str), V.int 0)]) = _
  rw [if_neg ti_ne]
  show (if ("tokens" : Str) = "depth" then _ else (("tokens" : Str), V.ref L) :: (if ("index_of_token" : Str) = "depth" then _ else (("index_of_token" : Str), V.int 0) :: [(("depth" : Str), V.int 0)])) = _
  rw [if_neg td_ne, if_neg id_ne]
  rfl
section
variable {P : Program} {w : World} {K : PySem.W.Frag} {mg : Str → Option Value} {base : Heap} {kw C : Addr}
def spRIni (C : Addr) : Sp := fun vs H Q _ => ∃ (S dx : Addr) (z : Str) (ts : List TK), vs = [.ref S, .str z] ∧ H S = some (.ins C dx []) ∧ z.length ≤ 1000000 ∧ Tkz z.cps.toList 0 ts ∧ ts.length ≤ 1000001 ∧ ∀ (L : Addr) (H' : Hp), Bt S H H' → RdAt C H' S L 0 0 ts → Q .non H'
theorem ok_RIni {f : Addr} {fd : FuncData} (F : Fun K "__init__" "Reader.__init__" sRIni f fd) (TR : TxR K C) (GT : Has P w K mg base CX0 2 "tokens_of" PToksOf spToks) : FnOk P w K mg base CX0 3 f fd PRIni (spRIni C) := by
  refine F.ok scRIni (fun vs H Q E h => ?_) (fun cdv A outer s H vs Q E hr h => ?_)
  · obtain ⟨S, dx, z, ts, rfl, _⟩ := h
    rfl
  · obtain ⟨S, dx, z, ts, rfl, eS, hz, ht, lt, k⟩ := h
    refine ⟨_, (pss_cons (ps_fld (pv 0) (pe_callH GT hr rfl pass0 (pa_cons (pv 1) pa_nil)) rfl)
  (pss_cons (ps_fld (pv 0) pe_int rfl)
  (pss_one (ps_fld (pv 0) pe_int rfl)))), ?_⟩
    refine ⟨_, rfl, z, ts, rfl, hz, ht, lt, fun L xs H1 s1 fL eL hp => ?_⟩
    have eS1 := s1 _ _ eS
    have LS : L ≠ S := ne_of eL eS1 fun z => by cases z
    refine ⟨_, rfl, S, C, dx, [], rfl, eS1, TR.cl, TR.nT, (by show 0 < 1000; decide), ?_⟩
    refine ⟨_, rfl, S, C, dx, _, rfl, upd_same, TR.cl, TR.nI, (by show 1 < 1000; decide), ?_⟩
    refine ⟨_, rfl, S, C, dx, _, rfl, upd_same, TR.cl, TR.nD, (by show 2 < 1000; decide), ?_⟩
    refine k L _ (fun b o e hb => by rw [upd_ne hb, upd_ne hb, upd_ne hb]; exact s1 _ _ e) ⟨dx, xs, by rw [upd_same, putF_rd], by rw [upd_ne LS, upd_ne LS, upd_ne LS]; exact eL, Paired.mapP hp fun _ _ q => q.same fun b ys e => ?_⟩
    have bS : b ≠ S := ne_of e eS1 fun z => by cases z
    rw [upd_ne bS, upd_ne bS, upd_ne bS]
    exact e
def spCurr (C : Addr) : Sp := fun vs H Q _ => ∃ (S L : Addr) (i d : Nat) (ts : List TK) (tk : TK), vs = [.ref S] ∧ RdAt C H S L i d ts ∧ ts[i]? = some tk ∧ ∀ p, H p = some (.tup [.str tk.1, .str tk.2.1, .int (tk.2.2 : Nat)]) → Q (.ref p) H
theorem ok_RCur {f : Addr} {fd : FuncData} (F : Fun K "current" "Reader.current" sRCur f fd) (TR : TxR K C) : FnOk P w K mg base CX0 1 f fd PRCur (spCurr C) := by
  refine F.ok scRCur (fun vs H Q E h => ?_) (fun cdv A outer s H vs Q E hr h => ?_)
  · obtain ⟨S, L, i, d, ts, tk, rfl, _⟩ := h
    rfl
  · obtain ⟨S, L, i, d, ts, tk, rfl, ⟨dx, xs, e1, e2, e3⟩, ht, k⟩ := h
    refine ⟨_, (pss_one (ps_ret (pe_ix (r := rIxL K) ix_list (pe_fld (pv 0) rfl) (pe_fld (pv 0) rfl) (fun _ _ => rfl)))), ?_⟩
    have hi : i < xs.length := by rw [Paired.length e3]; exact (List.getElem?_eq_some_iff.mp ht).1
    obtain ⟨tk', h1, p, h2, h3⟩ := Paired.at e3 (List.getElem?_eq_getElem hi)
    rw [ht] at h1
    cases h1
    refine ⟨_, rfl, S, C, dx, _, _, rfl, e1, TR.cl, TR.nT, rfl, _, rfl, S, C, dx, _, _, rfl, e1, TR.cl, TR.nI, rfl, L, _, _, _, rfl, rfl, SqL.of e2, atI_nat (by rw [List.getElem?_eq_getElem hi, h2]), k p h3⟩
def isMark (tk : TK) (wd : Str) : Bool := decide (tk.1 = "mark") && decide (tk.2.1 = wd)
def spNext (C : Addr) : Sp := fun vs H Q _ => ∃ (S L : Addr) (i d : Nat) (ts : List TK) (tk : TK) (wd : Str), vs = [.ref S, .str wd] ∧ RdAt C H S L i d ts ∧ ts[i]? = some tk ∧ Q (.bl (isMark tk wd)) H
theorem dec_str (a b : Str) : decide (V.str a = V.str b) = decide (a = b) := decide_eq_decide.mpr ⟨fun h => by injection h, fun h => by rw [h]⟩
theorem ok_RNext {f : Addr} {fd : FuncData} (F : Fun K "is_next" "Reader.is_next" sRNext f fd) (TR : TxR K C) (MC : HasM P w K mg base CX0 1 C "current" PRCur (spCurr C)) : FnOk P w K mg base CX0 2 f fd PRNext (spNext C) := by
  refine F.ok scRNext (fun vs H Q E h => ?_) (fun cdv A outer s H vs Q E hr h => ?_)
  · obtain ⟨S, L, i, d, ts, tk, wd, rfl, _⟩ := h
    rfl
  · obtain ⟨S, L, i, d, ts, tk, wd, rfl, ra, ht, k⟩ := h
    obtain ⟨dx, xs, e1, _⟩ := id ra
    refine ⟨_, (pss_one (ps_ret (pe_and (pe_cmpR op_eq (pe_ix (r := rIxT K) ix_tup (pe_methH0 (pv 0) TR.cl MC hr pass0) pe_int (fun _ _ => rfl)) pe_str (nomark _)) (pe_one (pe_cmpR op_eq (pe_ix (r := rIxT K) ix_tup (pe_methH0 (pv 0) TR.cl MC hr pass0) pe_int (fun _ _ => rfl)) (pv 1) (nomark _)))))), ?_⟩
    refine ⟨_, rfl, S, dx, _, rfl, e1, rfl, S, L, i, d, ts, tk, rfl, ra, ht, fun p hp => ⟨p, _, _, _, rfl, rfl, SqT.of hp, rfl, rfl, decide (tk.1 = "mark"), by rw [dec_str], ?_⟩⟩
    unfold isMark at k
    by_cases e : tk.1 = "mark"
    · refine iteS (decide_eq_true e) ?_
      refine ⟨_, rfl, S, dx, _, rfl, e1, rfl, S, L, i, d, ts, tk, rfl, ra, ht, fun p hp => ⟨p, _, _, _, rfl, rfl, SqT.of hp, rfl, _, rfl, rfl, ?_⟩⟩
      rw [decide_eq_true e, Bool.true_and] at k
      rw [dec_str]
      exact k
    · refine iteE (decide_eq_false e) ?_
      rw [decide_eq_false e, Bool.false_and] at k
      exact k
def spAcc (C : Addr) : Sp := fun vs H Q _ => ∃ (S L : Addr) (i d : Nat) (ts : List TK) (tk : TK) (wd : Str), vs = [.ref S, .str wd] ∧ RdAt C H S L i d ts ∧ ts[i]? = some tk ∧
  ((isMark tk wd = false ∧ Q (.bl false) H) ∨ (isMark tk wd = true ∧ ∀ H', Bt S H H' → RdAt C H' S L (i + 1) d ts → Q (.bl true) H'))
theorem ok_RAcc {f : Addr} {fd : FuncData} (F : Fun K "accept" "Reader.accept" sRAcc f fd) (TR : TxR K C) (MN : HasM P w K mg base CX0 2 C "is_next" PRNext (spNext C)) : FnOk P w K mg base CX0 3 f fd PRAcc (spAcc C) := by
  refine F.ok scRAcc (fun vs H Q E h => ?_) (fun cdv A outer s H vs Q E hr h => ?_)
  · obtain ⟨S, L, i, d, ts, tk, wd, rfl, _⟩ := h
    rfl
  · obtain ⟨S, L, i, d, ts, tk, wd, rfl, ra, ht, h⟩ := h
    obtain ⟨dx, xs, e1, _⟩ := id ra
    refine ⟨_, (pss_cons (ps_if (pt_not (pt_val (pe_methH (pv 0) TR.cl MN hr pass0 (pa_cons (pv 1) pa_nil))))
  (pss_one (ps_ret pe_bl))
  pss_nil)
  (pss_cons (ps_fldaug (pv 0) pe_int in_add)
  (pss_one (ps_ret pe_bl)))), ?_⟩
    refine ⟨_, rfl, S, dx, _, rfl, e1, rfl, _, rfl, S, L, i, d, ts, tk, wd, rfl, ra, ht, isMark tk wd, rfl, ?_⟩
    rcases h with ⟨hm, k⟩ | ⟨hm, k⟩
    · refine iteS (by rw [hm]; rfl) ?_
      exact k
    · refine iteE (by rw [hm]; rfl) ?_
      refine ⟨_, rfl, S, C, dx, _, _, rfl, e1, TR.cl, TR.nI, rfl, _, _, rfl, rfl, dx, _, e1, (by show 3 < 1000; decide), ?_⟩
      have e : putF "index_of_token" (.int (((i : Nat) : Int) + 1)) (rdF L i d) = rdF L (i + 1) d := putF_ix L i (i + 1) d
      rw [e]
      exact k _ bt_upd ra.step
def spRName (C : Addr) : Sp := fun vs H Q _ => ∃ (S L : Addr) (i d : Nat) (ts : List TK) (tk : TK), vs = [.ref S] ∧ RdAt C H S L i d ts ∧ ts[i]? = some tk ∧ tk.1 = "name" ∧ ∀ H', Bt S H H' → RdAt C H' S L (i + 1) d ts → Q (.str tk.2.1) H'
theorem ok_RName {f : Addr} {fd : FuncData} (F : Fun K "read_name" "Reader.read_name" sRName f fd) (TR : TxR K C) (MC : HasM P w K mg base CX0 1 C "current" PRCur (spCurr C)) : FnOk P w K mg base CX0 2 f fd PRName (spRName C) := by
  refine F.ok scRName (fun vs H Q E h => ?_) (fun cdv A outer s H vs Q E hr h => ?_)
  · obtain ⟨S, L, i, d, ts, tk, rfl, _⟩ := h
    rfl
  · obtain ⟨S, L, i, d, ts, tk, rfl, ra, ht, hn, k⟩ := h
    obtain ⟨dx, xs, e1, _⟩ := id ra
    refine ⟨_, (pss_cons (ps_set (i := 1) scRName.nd rfl (Or.inl rfl) (pe_methH0 (pv 0) TR.cl MC hr pass0))
  (pss_cons (ps_if (pt_cmpR op_ne (pe_ix (r := rIxT K) ix_tup (pv 1) pe_int (fun _ _ => rfl)) pe_str (nomark _))
  (pss_one ps_never)
  pss_nil)
  (pss_cons (ps_fldaug (pv 0) pe_int in_add)
  (pss_one (ps_ret (pe_ix (r := rIxT K) ix_tup (pv 1) pe_int (fun _ _ => rfl))))))), ?_⟩
    refine ⟨_, rfl, S, dx, _, rfl, e1, rfl, S, L, i, d, ts, tk, rfl, ra, ht, fun p hp => ?_⟩
    refine ⟨_, rfl, p, _, _, _, rfl, rfl, SqT.of hp, rfl, rfl, _, rfl, iteE (by rw [dec_str, decide_eq_true hn]; rfl) ?_⟩
    refine ⟨_, rfl, S, C, dx, _, _, rfl, e1, TR.cl, TR.nI, rfl, _, _, rfl, rfl, dx, _, e1, (by show 3 < 1000; decide), ?_⟩
    have e : putF "index_of_token" (.int (((i : Nat) : Int) + 1)) (rdF L i d) = rdF L (i + 1) d := putF_ix L i (i + 1) d
    rw [e]
    exact ⟨_, rfl, p, _, _, _, rfl, rfl, SqT.of (by rw [upd_ne (ne_of hp e1 fun z => by cases z)]; exact hp), rfl, k _ bt_upd ra.step⟩
end


section
variable {P : Program} {w : World} {K : PySem.W.Frag} {mg : Str → Option Value} {base : Heap} {kw C : Addr}
/-! read_row -/
structure TxRd (mg : Str → Option Value) : Prop where
  n_tuple : mg "tuple" = none
  n_len : mg "len" = none
  n_int : mg "int" = none
  n_sorted : mg "sorted" = none
def NamesAt (ts : List TK) (i : Nat) (ns : List Str) : Prop := ∀ k nm, ns[k]? = some nm → ∃ a, ts[i + k]? = some (("name", nm, a) : TK)
def spRow (C : Addr) : Sp := fun vs H Q _ => ∃ (S L : Addr) (i d : Nat) (ts : List TK) (ns : List Str) (tk : TK), vs = [.ref S] ∧ RdAt C H S L i d ts ∧ NamesAt ts i ns ∧ 0 < ns.length ∧ ns.length ≤ 1000 ∧ ts[i + ns.length]? = some tk ∧ tk.1 ≠ "name" ∧
  ∀ (p : Addr) (H' : Hp), Bt S H H' → RdAt C H' S L (i + ns.length) d ts → H' p = some (.tup (ns.map V.str)) → Q (.ref p) H'
theorem ok_RRow {f : Addr} {fd : FuncData} (F : Fun K "read_row" "Reader.read_row" sRRow f fd) (T : TxRd mg) (TR : TxR K C) (MC : HasM P w K mg base CX0 1 C "current" PRCur (spCurr C)) (MN : HasM P w K mg base CX0 2 C "read_name" PRName (spRName C)) : FnOk P w K mg base CX0 3 f fd PRRow (spRow C) := by
  refine F.ok scRRow (fun vs H Q E h => ?_) (fun cdv A outer s H vs Q E hr h => ?_)
  · obtain ⟨S, L, i, d, ts, ns, tk, rfl, _⟩ := h
    rfl
  · obtain ⟨S, L, i, d, ts, ns, tk, rfl, ra, hn, n0, n1, ht, hk, k⟩ := h
    obtain ⟨dx, xs, e1, _⟩ := id ra
    have hr1 := hr.mono (j := 1) (by decide)
    obtain ⟨nm, hnm⟩ : ∃ nm, ns[0]? = some nm := ⟨_, List.getElem?_eq_getElem n0⟩
    obtain ⟨a0, h0⟩ := hn 0 nm hnm
    refine ⟨_, (pss_cons (ps_set (i := 1) scRRow.nd rfl (Or.inl rfl) (pe_lst (pa_cons (pe_methH0 (pv 0) TR.cl MN hr pass0) pa_nil)))
  (pss_cons (ps_while PassesOwn.never (pt_cmpR op_eq (pe_ix (r := rIxT K) ix_tup (pe_methH0 (pv 0) TR.cl MC hr1 pass0) pe_int (fun _ _ => rfl)) pe_str (nomark _))
  (pss_one (ps_expr (pe_bm PySem.F.plainAttrs_list PySem.F.slot_list_append PySem.F.type_list_append mt_append (pv 1) (pa_cons (pe_methH0 (pv 0) TR.cl MN hr pass0) pa_nil)))))
  (pss_one (ps_ret (pe_callTy call_tuple_of (by rfl) T.n_tuple bb_tuple (pa_cons (pv 1) pa_nil)))))), ?_⟩
    refine ⟨_, rfl, S, dx, _, rfl, e1, rfl, S, L, i, d, ts, _, rfl, ra, h0, rfl, fun H1 b1 ra1 => ⟨(by show 1 ≤ sizeLine; decide), fun X hX => ?_⟩⟩
    have s2 := same_new (o := .lst [.str nm]) hX
    have XS : X ≠ S := fun z => by
      obtain ⟨_, _, e, _⟩ := ra1
      rw [z, e] at hX
      cases hX
    refine ⟨fun m σ H' => ∃ j : Nat, m = ns.length - j ∧ 0 < j ∧ j ≤ ns.length ∧ σ = [some (.ref S), some (.ref X)] ∧ Bt S H H' ∧ RdAt C H' S L (i + j) d ts ∧ H' X = some (.lst ((ns.take j).map V.str)), ⟨_, 1, rfl, by decide, n0, rfl, b1.trans (.of s2), ra1.same s2, ?_⟩, ?_⟩
    · rw [upd_same, take_snoc hnm]
      rfl
    rintro m σ H3 ⟨j, rfl, j0, jl, rfl, b3, ra3, eX⟩
    obtain ⟨dx3, xs3, e3, _⟩ := id ra3
    rcases Nat.lt_or_ge j ns.length with q | q
    · obtain ⟨nj, hj⟩ : ∃ nj, ns[j]? = some nj := ⟨_, List.getElem?_eq_getElem q⟩
      obtain ⟨aj, h1⟩ := hn j nj hj
      refine ⟨_, rfl, S, dx3, _, rfl, e3, rfl, S, L, i + j, d, ts, _, rfl, ra3, h1, fun p hp => ⟨p, _, _, _, rfl, rfl, SqT.of hp, rfl, rfl, _, rfl, iteS (decide_eq_true rfl) ?_⟩⟩
      refine ⟨fun σ' H' => σ' = [some (.ref S), some (.ref X)] ∧ Bt S H H' ∧ RdAt C H' S L (i + (j + 1)) d ts ∧ H' X = some (.lst ((ns.take (j + 1)).map V.str)), fun σ' H' ⟨u1, u2, u3, u4⟩ => ⟨ns.length - (j + 1), by omega, j + 1, rfl, by omega, by omega, u1, u2, u3, u4⟩, ?_⟩
      refine ⟨_, rfl, .inl ⟨rfl, _, SqL.of eX⟩, _, rfl, S, dx3, _, rfl, e3, rfl, S, L, i + j, d, ts, _, rfl, ra3, h1, rfl, fun H4 b4 ra4 => ?_⟩
      have eX4 := b4 _ _ eX XS
      refine ⟨X, _, _, rfl, rfl, eX4, small1000 (by rw [List.length_map, List.length_take]; omega), rfl, ?_, ?_, ?_⟩
      · intro c o e hc
        have cX : c ≠ X := fun z => by
          have := b1 _ _ e hc
          rw [z, hX] at this
          cases this
        rw [upd_ne cX]
        exact b4 _ _ (b3 c o e hc) hc
      · obtain ⟨dy, ys, y1, y2, y3⟩ := ra4
        have XL : L ≠ X := fun z => by
          obtain ⟨_, zs, _, w2, _⟩ := ra1
          rw [z, hX] at w2
          cases w2
        exact ⟨dy, ys, by rw [upd_ne XS.symm]; exact y1, by rw [upd_ne XL]; exact y2, Paired.mapP y3 fun _ _ z => z.same fun b zs e => by rw [upd_ne (ne_of e eX4 fun z => by cases z)]; exact e⟩
      · rw [upd_same, take_snoc hj, List.map_append]
        rfl
    · have ej : j = ns.length := by omega
      subst ej
      refine ⟨_, rfl, S, dx3, _, rfl, e3, rfl, S, L, _, d, ts, _, rfl, ra3, ht, fun p hp => ⟨p, _, _, _, rfl, rfl, SqT.of hp, rfl, rfl, _, rfl, iteE (decide_eq_false fun z => hk (by injection z)) ?_⟩⟩
      rw [List.take_length] at eX
      refine ⟨_, rfl, X, _, rfl, .inl ⟨SqL.of eX, fun l hl => ?_⟩⟩
      have s4 := same_new (o := .tup (ns.map V.str)) hl
      exact k l _ (b3.trans (.of s4)) (ra3.same s4) upd_same
end

/-! ### terms and sums -/
abbrev sExprOf : Stmt := topS 26
abbrev NExprOf : List Str := ["constant", "factors", "name"]
abbrev PExprOf : List Str := ["constant", "factors"]
theorem scExprOf : FnScope NExprOf PExprOf (defScope sExprOf) := ⟨rfl, rfl, rfl, by decide +kernel, rfl, by decide +kernel, by decide +kernel⟩
abbrev sRExpr : Stmt := inClass (topS 27) 9
abbrev NRExpr : List Str := ["self", "constant", "factors", "sign", "name", "number"]
abbrev PRExpr : List Str := ["self"]
theorem scRExpr : FnScope NRExpr PRExpr (defScope sRExpr) := ⟨rfl, rfl, rfl, by decide +kernel, rfl, by decide +kernel, by decide +kernel⟩
def optS : Option Str → V
  | none => .non
  | some s => .str s
inductive TermAt (ts : List TK) : Nat → Option Str → Int → Nat → Prop
  | name {i a : Nat} {nm : Str} (h : ts[i]? = some (("name", nm, a) : TK)) : TermAt ts i (some nm) 1 (i + 1)
  | num {i a : Nat} {wd : Str} {n : Int} {tk : TK} (h : ts[i]? = some (("number", wd, a) : TK)) (hl : wd.length ≤ 12) (hn : PySem.intText? wd = some n) (h2 : ts[i + 1]? = some tk) (hm : isMark tk "*" = false) : TermAt ts i none n (i + 1)
  | mul {i a b : Nat} {wd nm : Str} {n : Int} {tk : TK} (h : ts[i]? = some (("number", wd, a) : TK)) (hl : wd.length ≤ 12) (hn : PySem.intText? wd = some n) (h2 : ts[i + 1]? = some tk) (hm : isMark tk "*" = true) (h3 : ts[i + 1 + 1]? = some (("name", nm, b) : TK)) : TermAt ts i (some nm) n (i + 1 + 1 + 1)
theorem nn_ne : ¬ (("number" : Str) = "name") := by decide +kernel
structure TxSum (mg : Str → Option Value) : Prop extends TxRd mg where
  c_LONGEST : ∃ u, mg "LONGEST" = some u ∧ RelV (.int 12) u
section
variable {P : Program} {w : World} {K : PySem.W.Frag} {mg : Str → Option Value} {base : Heap} {kw C : Addr}
def spTerm (C : Addr) : Sp := fun vs H Q _ => ∃ (S L : Addr) (i d : Nat) (ts : List TK) (nm : Option Str) (n : Int) (j : Nat), vs = [.ref S] ∧ RdAt C H S L i d ts ∧ TermAt ts i nm n j ∧
  ∀ (p : Addr) (H' : Hp), Bt S H H' → RdAt C H' S L j d ts → H' p = some (.tup [optS nm, .int n]) → Q (.ref p) H'
theorem ok_RTerm {f : Addr} {fd : FuncData} (F : Fun K "read_term" "Reader.read_term" sRTerm f fd) (T : TxSum mg) (TR : TxR K C) (MC : HasM P w K mg base CX0 1 C "current" PRCur (spCurr C)) (MN : HasM P w K mg base CX0 2 C "read_name" PRName (spRName C)) (MA : HasM P w K mg base CX0 3 C "accept" PRAcc (spAcc C)) :
    FnOk P w K mg base CX0 4 f fd PRTerm (spTerm C) := by
  refine F.ok scRTerm (fun vs H Q E h => ?_) (fun cdv A outer s H vs Q E hr h => ?_)
  · obtain ⟨S, L, i, d, ts, nm, n, j, rfl, _⟩ := h
    rfl
  · obtain ⟨S, L, i, d, ts, nm, n, j, rfl, ra, ht, k⟩ := h
    obtain ⟨dx, xs, e1, _⟩ := id ra
    have hr1 := hr.mono (j := 1) (by decide)
    have hr2 := hr.mono (j := 2) (by decide)
    refine ⟨_, (pss_cons (ps_set (i := 1) scRTerm.nd rfl (Or.inl rfl) (pe_methH0 (pv 0) TR.cl MC hr1 pass0))
  (pss_cons (ps_if (pt_cmpR op_eq (pe_ix (r := rIxT K) ix_tup (pv 1) pe_int (fun _ _ => rfl)) pe_str (nomark _))
  (pss_one (ps_ret (pe_tup (pa_cons (pe_methH0 (pv 0) TR.cl MN hr2 pass0) (pa_cons pe_int pa_nil)))))
  pss_nil)
  (pss_cons (ps_if (pt_cmpR op_ne (pe_ix (r := rIxT K) ix_tup (pv 1) pe_int (fun _ _ => rfl)) pe_str (nomark _))
  (pss_one ps_never)
  pss_nil)
  (pss_cons (ps_if (pt_cmpR op_gt (pe_callB call_len_str (by rfl) T.n_len bb_len (pa_cons (pe_ix (r := rIxT K) ix_tup (pv 1) pe_int (fun _ _ => rfl)) pa_nil)) (pe_globE rfl T.c_LONGEST) (nomark _))
  (pss_one ps_never)
  pss_nil)
  (pss_cons (ps_fldaug (pv 0) pe_int in_add)
  (pss_cons (ps_if (pt_val (pe_methH (pv 0) TR.cl MA hr pass0 (pa_cons pe_str pa_nil)))
  (pss_one (ps_ret (pe_tup (pa_cons (pe_methH0 (pv 0) TR.cl MN hr2 pass0) (pa_cons (pe_callTy call_int_str (by rfl) T.n_int bb_int (pa_cons (pe_ix (r := rIxT K) ix_tup (pv 1) pe_int (fun _ _ => rfl)) pa_nil)) pa_nil)))))
  pss_nil)
  (pss_one (ps_ret (pe_tup (pa_cons pe_non (pa_cons (pe_callTy call_int_str (by rfl) T.n_int bb_int (pa_cons (pe_ix (r := rIxT K) ix_tup (pv 1) pe_int (fun _ _ => rfl)) pa_nil)) pa_nil))))))))))), ?_⟩
    cases ht with
    | name h =>
      refine ⟨_, rfl, S, dx, _, rfl, e1, rfl, S, L, i, d, ts, _, rfl, ra, h, fun p hp => ?_⟩
      refine ⟨_, rfl, p, _, _, _, rfl, rfl, SqT.of hp, rfl, rfl, _, rfl, iteS (decide_eq_true rfl) ?_⟩
      refine ⟨_, rfl, S, dx, _, rfl, e1, rfl, S, L, i, d, ts, _, rfl, ra, h, rfl, fun H1 b1 ra1 => ⟨(by show 2 ≤ sizeLine; decide), fun q hq => ?_⟩⟩
      exact k q _ (b1.trans (.of (same_new hq))) (ra1.same (same_new hq)) upd_same
    | num h hl hn h2 hm =>
      refine ⟨_, rfl, S, dx, _, rfl, e1, rfl, S, L, i, d, ts, _, rfl, ra, h, fun p hp => ?_⟩
      refine ⟨_, rfl, p, _, _, _, rfl, rfl, SqT.of hp, rfl, rfl, _, rfl, iteE (by rw [dec_str]; exact decide_eq_false nn_ne) ?_⟩
      refine ⟨_, rfl, p, _, _, _, rfl, rfl, SqT.of hp, rfl, rfl, _, rfl, iteE (by rw [decide_eq_true rfl]; rfl) ?_⟩
      refine ⟨_, rfl, p, _, _, _, rfl, rfl, SqT.of hp, rfl, _, rfl, Nat.le_trans hl (by decide), _, _, rfl, rfl, _, rfl, iteE (decide_eq_false (by simp only; omega)) ?_⟩
      refine ⟨_, rfl, S, C, dx, _, _, rfl, e1, TR.cl, TR.nI, rfl, _, _, rfl, rfl, dx, _, e1, (by show 3 < 1000; decide), ?_⟩
      have e : putF "index_of_token" (.int (((i : Nat) : Int) + 1)) (rdF L i d) = rdF L (i + 1) d := putF_ix L i (i + 1) d
      rw [e]
      have ra1 : RdAt C (upd H S (.ins C dx (rdF L (i + 1) d))) S L (i + 1) d ts := ra.step
      have hp1 := (upd_ne (H := H) (o := .ins C dx (rdF L (i + 1) d)) (ne_of hp e1 fun z => by cases z)).trans hp
      refine ⟨_, rfl, S, dx, _, rfl, upd_same, rfl, S, L, i + 1, d, ts, _, "*", rfl, ra1, h2, .inl ⟨hm, false, rfl, iteE rfl ?_⟩⟩
      refine ⟨_, rfl, p, _, _, _, rfl, rfl, SqT.of hp1, rfl, _, _, rfl, hn, Nat.le_trans hl (by decide), (by show 2 ≤ sizeLine; decide), fun q hq => ?_⟩
      have s2 := same_new (o := .tup [.non, .int n]) hq
      exact k q _ (bt_upd.trans (.of s2)) (ra1.same s2) upd_same
    | mul h hl hn h2 hm h3 =>
      refine ⟨_, rfl, S, dx, _, rfl, e1, rfl, S, L, i, d, ts, _, rfl, ra, h, fun p hp => ?_⟩
      refine ⟨_, rfl, p, _, _, _, rfl, rfl, SqT.of hp, rfl, rfl, _, rfl, iteE (by rw [dec_str]; exact decide_eq_false nn_ne) ?_⟩
      refine ⟨_, rfl, p, _, _, _, rfl, rfl, SqT.of hp, rfl, rfl, _, rfl, iteE (by rw [decide_eq_true rfl]; rfl) ?_⟩
      refine ⟨_, rfl, p, _, _, _, rfl, rfl, SqT.of hp, rfl, _, rfl, Nat.le_trans hl (by decide), _, _, rfl, rfl, _, rfl, iteE (decide_eq_false (by simp only; omega)) ?_⟩
      refine ⟨_, rfl, S, C, dx, _, _, rfl, e1, TR.cl, TR.nI, rfl, _, _, rfl, rfl, dx, _, e1, (by show 3 < 1000; decide), ?_⟩
      have e : putF "index_of_token" (.int (((i : Nat) : Int) + 1)) (rdF L i d) = rdF L (i + 1) d := putF_ix L i (i + 1) d
      rw [e]
      have ra1 : RdAt C (upd H S (.ins C dx (rdF L (i + 1) d))) S L (i + 1) d ts := ra.step
      have pS : p ≠ S := ne_of hp e1 fun z => by cases z
      have hp1 := (upd_ne (H := H) (o := .ins C dx (rdF L (i + 1) d)) pS).trans hp
      refine ⟨_, rfl, S, dx, _, rfl, upd_same, rfl, S, L, i + 1, d, ts, _, "*", rfl, ra1, h2, .inr ⟨hm, fun H2 b2 ra2 => ⟨true, rfl, iteS rfl ?_⟩⟩⟩
      obtain ⟨dx2, xs2, e2, _⟩ := id ra2
      refine ⟨_, rfl, S, dx2, _, rfl, e2, rfl, S, L, _, d, ts, _, rfl, ra2, h3, rfl, fun H3 b3 ra3 => ?_⟩
      have hp3 := b3 _ _ (b2 _ _ hp1 pS) pS
      refine ⟨_, rfl, p, _, _, _, rfl, rfl, SqT.of hp3, rfl, _, _, rfl, hn, Nat.le_trans hl (by decide), (by show 2 ≤ sizeLine; decide), fun q hq => ?_⟩
      exact k q _ (((bt_upd.trans b2).trans b3).trans (.of (same_new hq))) (ra3.same (same_new hq)) upd_same
end

/-! expression_of -/
theorem bb_sorted : bootBuiltins "sorted" = some (.builtin "sorted") := by decide +kernel
abbrev Fac := List (Str × Int)
def kvS (fs : Fac) : List (Key × V) := fs.map fun p => (Sum.inr p.1, V.int p.2)
def getF (fs : Fac) (nm : Str) : Int := ((fs.find? fun p => decide (p.1 = nm)).map (·.2)).getD 0
def addF (fs : Fac) (nm : Str) (v : Int) : Fac := if (fs.any fun p => decide (p.1 = nm)) = true then fs.map (fun p => if p.1 = nm then (p.1, p.2 + v) else p) else fs ++ [(nm, v)]
theorem dec_inr (a b : Str) : decide ((Sum.inr a : Key) = Sum.inr b) = decide (a = b) := decide_eq_decide.mpr ⟨fun h => Sum.inr.inj h, fun h => by rw [h]⟩
theorem val_kvS (fs : Fac) (nm : Str) : valV (kvS fs) (Sum.inr nm) = (fs.find? fun p => decide (p.1 = nm)).map fun p => V.int p.2 := by
  unfold valV kvS
  rw [List.find?_map, Option.map_map]
  congr 1
  congr 1
  funext p
  exact dec_inr p.1 nm
theorem val_getD (fs : Fac) (nm : Str) : (valV (kvS fs) (Sum.inr nm)).getD (.int 0) = .int (getF fs nm) := by
  rw [val_kvS]
  unfold getF
  cases fs.find? fun p => decide (p.1 = nm) <;> rfl
theorem any_kvS (fs : Fac) (nm : Str) : ((kvS fs).any fun kv => decide (kv.1 = (Sum.inr nm : Key))) = fs.any fun p => decide (p.1 = nm) := by
  unfold kvS
  rw [List.any_map]
  congr 1
  funext p
  exact dec_inr p.1 nm
def Uniq (fs : Fac) : Prop := (fs.map (·.1)).Nodup
theorem find_uniq {fs : Fac} (u : Uniq fs) {p : Str × Int} (h : p ∈ fs) : (fs.find? fun q => decide (q.1 = p.1)) = some p := by
  induction fs with
  | nil => cases h
  | cons q r ih =>
    have u2 : Uniq r := (List.nodup_cons.mp u).2
    rw [List.find?_cons]
    rcases List.mem_cons.mp h with rfl | h
    · rw [decide_eq_true rfl]
    · have ne : q.1 ≠ p.1 := fun e => (List.nodup_cons.mp u).1 (by show q.1 ∈ _; rw [e]; exact List.mem_map.mpr ⟨p, h, rfl⟩)
      rw [decide_eq_false ne]
      exact ih u2 h
theorem put_kvS {fs : Fac} (u : Uniq fs) (nm : Str) (v : Int) : putK (kvS fs) (Sum.inr nm) (V.int (getF fs nm + v)) = kvS (addF fs nm v) := by
  unfold putK addF
  rw [any_kvS]
  by_cases h : (fs.any fun p => decide (p.1 = nm)) = true
  · rw [if_pos h, if_pos h]
    unfold kvS
    rw [List.map_map, List.map_map]
    refine List.map_congr_left fun p hp => ?_
    show (if (Sum.inr p.1 : Key) = Sum.inr nm then ((Sum.inr p.1 : Key), V.int (getF fs nm + v)) else (Sum.inr p.1, V.int p.2)) = ((Sum.inr (if p.1 = nm then (p.1, p.2 + v) else p).1 : Key), V.int (if p.1 = nm then (p.1, p.2 + v) else p).2)
    by_cases e : p.1 = nm
    · rw [if_pos (by rw [e]), if_pos e]
      have g : getF fs nm = p.2 := by
        unfold getF
        rw [← e, find_uniq u hp]
        rfl
      rw [g]
    · rw [if_neg (fun z => e (Sum.inr.inj z)), if_neg e]
  · rw [if_neg h, if_neg h]
    have g : getF fs nm = 0 := by
      unfold getF
      have : (fs.find? fun p => decide (p.1 = nm)) = none := by
        rw [List.find?_eq_none]
        intro p hp e
        exact h (List.any_eq_true.mpr ⟨p, hp, e⟩)
      rw [this]
      rfl
    unfold kvS
    rw [List.map_append, g, Int.zero_add]
    rfl
theorem names_addF (fs : Fac) (nm : Str) (v : Int) : (addF fs nm v).map (·.1) = if (fs.any fun p => decide (p.1 = nm)) = true then fs.map (·.1) else fs.map (·.1) ++ [nm] := by
  unfold addF
  by_cases h : (fs.any fun p => decide (p.1 = nm)) = true
  · rw [if_pos h, if_pos h, List.map_map]
    refine List.map_congr_left fun p _ => ?_
    show (if p.1 = nm then (p.1, p.2 + v) else p).1 = p.1
    split <;> rfl
  · rw [if_neg h, if_neg h, List.map_append]
    rfl
theorem uniq_addF {fs : Fac} (u : Uniq fs) (nm : Str) (v : Int) : Uniq (addF fs nm v) := by
  unfold Uniq
  rw [names_addF]
  by_cases h : (fs.any fun p => decide (p.1 = nm)) = true
  · rw [if_pos h]
    exact u
  · rw [if_neg h, List.nodup_append]
    refine ⟨u, by simp, fun a ha b hb e => ?_⟩
    rw [List.mem_singleton.mp hb] at e
    obtain ⟨p, hp, rfl⟩ := List.mem_map.mp ha
    exact h (List.any_eq_true.mpr ⟨p, hp, decide_eq_true e⟩)
theorem len_addF (fs : Fac) (nm : Str) (v : Int) : (addF fs nm v).length ≤ fs.length + 1 := by
  unfold addF
  split
  · rw [List.length_map]
    omega
  · rw [List.length_append]
    exact Nat.le_refl _
def PairAt (H : Hp) (v : V) (r : Str × Int) : Prop := ∃ a, v = .ref a ∧ H a = some (.tup [.str r.1, .int r.2])
/-- a sum as a tuple -/
def ExprAt (H : Hp) (v : V) (c : Int) (l : Fac) : Prop := ∃ (p q : Addr) (ys : List V), v = .ref p ∧ H p = some (.tup [.int c, .ref q]) ∧ H q = some (.tup ys) ∧ Paired (PairAt H) ys l
theorem PairAt.same {H H' : Hp} (s : TSame H H') {v : V} {r : Str × Int} (h : PairAt H v r) : PairAt H' v r := let ⟨a, e, q⟩ := h; ⟨a, e, s _ _ q⟩
theorem ExprAt.same {H H' : Hp} (s : TSame H H') {v : V} {c : Int} {l : Fac} (h : ExprAt H v c l) : ExprAt H' v c l := let ⟨p, q, ys, e1, e2, e3, e4⟩ := h; ⟨p, q, ys, e1, s _ _ e2, s _ _ e3, Paired.mapP e4 fun _ _ z => z.same s⟩
/-- the sum with sorted names and without factors 0 -/
def OfF (fs l : Fac) : Prop := ∃ ys : List Str, ys.Perm (fs.map (·.1)) ∧ PyProof.Rows.sortedS ys = true ∧ l = (ys.map fun n => (n, getF fs n)).filter fun p => decide (p.2 ≠ 0)
section
variable {P : Program} {w : World} {K : PySem.W.Frag} {mg : Str → Option Value} {base : Heap} {kw C : Addr}
def spExprOf : Sp := fun vs H Q _ => ∃ (c : Int) (D : Addr) (fs : Fac), vs = [.int c, .ref D] ∧ H D = some (.dK (kvS fs)) ∧ Uniq fs ∧ fs.length < 60 ∧ ∀ (p : Addr) (l : Fac) (H' : Hp), Same H H' → OfF fs l → ExprAt H' (.ref p) c l → Q (.ref p) H'
theorem ok_ExprOf {f : Addr} {fd : FuncData} (F : Fun K "expression_of" "expression_of" sExprOf f fd) (T : TxSum mg) : FnOk P w K mg base CX0 1 f fd PExprOf spExprOf := by
  refine F.ok scExprOf (fun vs H Q E h => ?_) (fun cdv A outer s H vs Q E hr h => ?_)
  · obtain ⟨c, D, fs, rfl, _⟩ := h
    rfl
  · obtain ⟨c, D, fs, rfl, eD, u, lf, k⟩ := h
    have hu := hu_of hr
    refine ⟨_, (pss_one (ps_ret (pe_tup (pa_cons (pv 0) (pa_cons (pe_callTy call_tuple_of (by rfl) T.n_tuple bb_tuple (pa_cons (pe_lc (own := [("name", 2)]) (g := gName 2) rfl scExprOf.nd (pi_list (pe_callB (call_sortedD rfl) (by rfl) T.n_sorted bb_sorted (pa_cons (pv 1) pa_nil))) (blkOk_by (own := [("name", 2)]) (N := NExprOf) (sc := (defScope sExprOf)) (by decide +kernel)) (fun _ _ _ _ _ => (pg_name (i := 2) scExprOf.nd rfl (Or.inl rfl))) (fun _ _ _ _ _ => (pts_one (pt_cmpR op_ne (pe_dget hu (pv 1) (pv 2) (fun _ _ => rfl)) pe_int (nomark _)))) (fun _ _ _ _ _ => (pe_tup (pa_cons (pv 2) (pa_cons (pe_dget hu (pv 1) (pv 2) (fun _ _ => rfl)) pa_nil))))) pa_nil)) pa_nil))))), ?_⟩
    have mem : ∀ {n : Str}, n ∈ fs.map (·.1) → some (V.int (getF fs n)) = valV (kvS fs) (Sum.inr n) := fun {n} h => by
      obtain ⟨p, hp, rfl⟩ := List.mem_map.mp h
      rw [val_kvS]
      unfold getF
      rw [find_uniq u hp]
      rfl
    refine ⟨_, rfl, _, rfl, D, kvS fs, fs.map (·.1), rfl, .inl eD, by unfold kvS; rw [List.map_map, List.map_map]; rfl, by rw [List.length_map]; omega, fun ys p hperm hsort hp => ⟨p, rfl, ⟨_, SqL.of upd_same⟩, fun Z hZ => ?_⟩⟩
    have s1 := same_new (o := .lst (ys.map V.str)) hp
    obtain ⟨H1, eH1⟩ : ∃ H1, H1 = upd H p (.lst (ys.map V.str)) := ⟨_, rfl⟩
    have ep : H1 p = some (.lst (ys.map V.str)) := by rw [eH1, upd_same]
    rw [← eH1] at s1 hZ ⊢
    clear eH1 hp
    have eD1 := s1 _ _ eD
    have lys : ys.length = fs.length := by rw [hperm.length_eq, List.length_map]
    refine lc_it (walk_list (K := K) (a := p) (xs := ys.map V.str)) (fun i H' => Same H1 H' ∧ ∃ zs : List V, H' Z = some (.lst zs) ∧ zs.length ≤ i ∧ Paired (PairAt H') zs (((ys.take i).map fun n => (n, getF fs n)).filter fun p => decide (p.2 ≠ 0))) ⟨same_new hZ, [], upd_same, Nat.le_refl _, .nil⟩ (fun i H' _ h' => SqL.of (h'.1 _ _ ep)) ?_ ?_
    · rintro i x H2 H3 hi ⟨s2, zs, eZ, lz, hz⟩ ⟨rfl, hx⟩
      rw [List.getElem?_map] at hx
      obtain ⟨n, hn, rfl⟩ : ∃ n, ys[i]? = some n ∧ x = V.str n := by
        cases q : ys[i]? with
        | none => rw [q] at hx; cases hx
        | some n => rw [q] at hx; exact ⟨n, rfl, (Option.some.inj hx).symm⟩
      have hm := mem (hperm.mem_iff.mp (List.mem_of_getElem? hn))
      have ft : (((ys.take (i + 1)).map fun n => (n, getF fs n)).filter fun p => decide (p.2 ≠ 0)) = (((ys.take i).map fun n => (n, getF fs n)).filter fun p => decide (p.2 ≠ 0)) ++ (if getF fs n ≠ 0 then [(n, getF fs n)] else []) := by
        rw [take_snoc hn, List.map_append, List.filter_append]
        congr 1
        by_cases q : getF fs n = 0
        · simp [q]
        · simp [q]
      refine ⟨rfl, _, rfl, _, rfl, D, _, rfl, .inl ⟨kvS fs, Sum.inr n, .inl (s2 _ _ eD1), rfl, hm⟩, rfl, _, rfl, ite2 (fun hne => ?_) (fun hne => ?_)⟩
      · have gne : getF fs n ≠ 0 := fun q => by rw [q] at hne; exact absurd hne (by decide)
        refine ⟨_, rfl, _, rfl, _, rfl, D, _, rfl, .inl ⟨kvS fs, Sum.inr n, .inl (s2 _ _ eD1), rfl, hm⟩, (by show 2 ≤ sizeLine; decide), fun t ht => ?_⟩
        have s3 := same_new (o := .tup [.str n, .int (getF fs n)]) ht
        have eZ3 := s3 _ _ eZ
        rw [List.length_map] at hi
        refine ⟨zs, eZ3, small1000 (by omega), fun b o e => by rw [upd_ne (ne_of_none e hZ)]; exact s3 _ _ (s2 _ _ e), zs ++ [.ref t], upd_same, by rw [List.length_append]; show zs.length + 1 ≤ i + 1; omega, ?_⟩
        rw [ft, if_pos gne]
        have ts : TSame H3 (upd (upd H3 t (.tup [.str n, .int (getF fs n)])) Z (.lst (zs ++ [.ref t]))) := fun b xs e => by
          rw [upd_ne (ne_of (s3 _ _ e) eZ3 fun z => by cases z)]
          exact s3 _ _ e
        refine Paired.snocP (Paired.mapP hz fun _ _ q => q.same ts) ⟨t, rfl, ?_⟩
        show upd (upd H3 t _) Z _ t = _
        rw [upd_ne (fun z => by rw [z, eZ] at ht; cases ht), upd_same]
      · have ge : getF fs n = 0 := by
          by_cases q : getF fs n = 0
          · exact q
          · exact absurd (show (!decide (V.int (getF fs n) = V.int 0)) = true by rw [decide_eq_false (fun q' => by injection q' with q'; exact q q')]; rfl) hne
        refine ⟨s2, zs, eZ, by omega, ?_⟩
        rw [ft, if_neg (fun q => q ge), List.append_nil]
        exact hz
    · rintro H2 ⟨s2, zs, eZ, lz, hz⟩
      rw [List.length_map, List.take_length] at hz
      refine ⟨Z, _, rfl, .inl ⟨SqL.of eZ, fun q hq => ⟨(by show 2 ≤ sizeLine; decide), fun r hr' => ?_⟩⟩⟩
      have s3 := same_new (o := .tup zs) hq
      have s4 := same_new (o := .tup [.int c, .ref q]) hr'
      exact k r _ _ (((s1.trans s2).trans s3).trans s4) ⟨ys, hperm, hsort, rfl⟩ ⟨r, q, zs, rfl, upd_same, s4 _ _ upd_same, Paired.mapP hz fun _ _ z => z.same (TSame.of (s3.trans s4))⟩
end

/-! read_expression -/
abbrev Tm := Bool × Option Str × Int
def sgn (b : Bool) : Int := if b = true then -1 else 1
def accT (st : Int × Fac) (t : Tm) : Int × Fac := match t.2.1 with
  | none => (st.1 + sgn t.1 * t.2.2, st.2)
  | some x => (st.1, addF st.2 x (sgn t.1 * t.2.2))
inductive TmsAt (ts : List TK) : Nat → Bool → List Tm → Nat → Prop
  | last {i j : Nat} {sg : Bool} {nm : Option Str} {n : Int} {tk : TK} (t : TermAt ts i nm n j) (h : ts[j]? = some tk) (h1 : isMark tk "+" = false) (h2 : isMark tk "-" = false) : TmsAt ts i sg [(sg, nm, n)] j
  | plus {i j e : Nat} {sg : Bool} {nm : Option Str} {n : Int} {tk : TK} {rest : List Tm} (t : TermAt ts i nm n j) (h : ts[j]? = some tk) (h1 : isMark tk "+" = true) (r : TmsAt ts (j + 1) false rest e) : TmsAt ts i sg ((sg, nm, n) :: rest) e
  | minus {i j e : Nat} {sg : Bool} {nm : Option Str} {n : Int} {tk : TK} {rest : List Tm} (t : TermAt ts i nm n j) (h : ts[j]? = some tk) (h1 : isMark tk "+" = false) (h2 : isMark tk "-" = true) (r : TmsAt ts (j + 1) true rest e) : TmsAt ts i sg ((sg, nm, n) :: rest) e
def ExpAt (ts : List TK) (i : Nat) (tms : List Tm) (e : Nat) : Prop := ∃ tk, ts[i]? = some tk ∧ ((isMark tk "-" = true ∧ TmsAt ts (i + 1) true tms e) ∨ (isMark tk "-" = false ∧ TmsAt ts i false tms e))
theorem sgn_lt (b : Bool) : -(2 ^ 64) < sgn b ∧ sgn b < 2 ^ 64 := by cases b <;> decide
def TailAt (ts : List TK) (j : Nat) (rest : List Tm) (e : Nat) : Prop := ∃ tk, ts[j]? = some tk ∧ ((isMark tk "+" = false ∧ isMark tk "-" = false ∧ rest = [] ∧ e = j) ∨ (isMark tk "+" = true ∧ TmsAt ts (j + 1) false rest e) ∨ (isMark tk "+" = false ∧ isMark tk "-" = true ∧ TmsAt ts (j + 1) true rest e))
theorem TmsAt.inv {ts : List TK} {i e : Nat} {sg : Bool} {tms : List Tm} (h : TmsAt ts i sg tms e) : ∃ nm n j rest, tms = (sg, nm, n) :: rest ∧ TermAt ts i nm n j ∧ TailAt ts j rest e := by
  cases h with
  | last t h h1 h2 => exact ⟨_, _, _, _, rfl, t, _, h, .inl ⟨h1, h2, rfl, rfl⟩⟩
  | plus t h h1 r => exact ⟨_, _, _, _, rfl, t, _, h, .inr (.inl ⟨h1, r⟩)⟩
  | minus t h h1 h2 r => exact ⟨_, _, _, _, rfl, t, _, h, .inr (.inr ⟨h1, h2, r⟩)⟩
def WExp (C S L D : Addr) (d e : Nat) (ts : List TK) (H : Hp) (tot : Int × Fac) (B : Nat) (m : Nat) (σ : L2.St) (H' : Hp) : Prop := ∃ (j : Nat) (sg : Bool) (rest : List Tm) (fs : Fac) (c : Int) (nv xv : Option V), m = rest.length ∧ σ = [some (.ref S), some (.int c), some (.ref D), some (.int (sgn sg)), nv, xv] ∧ Bt S H H' ∧ RdAt C H' S L j d ts ∧ H' D = some (.dK (kvS fs)) ∧ TmsAt ts j sg rest e ∧ rest.foldl accT (c, fs) = tot ∧ Uniq fs ∧ fs.length + rest.length ≤ B
def tTail (C : Addr) : TS := tIfS (tB (tMeth C "accept" (spAcc C) [] E0 (tVar 0) (tCons (tC (V.str "+")) tNil))) (tAsg (tC (V.int 1)) (gName 3)) (tIfS (tB (tMeth C "accept" (spAcc C) [] E0 (tVar 0) (tCons (tC (V.str "-")) tNil))) (tAsg (tUn (rU fun i => V.int (-i)) (tC (V.int 1))) (gName 3)) (tRet (tCall spExprOf [] E0 (tCons (tVar 1) (tCons (tVar 2) tNil)))))
theorem tail_ok {C S L D : Addr} {d e j B : Nat} {ts : List TK} {H H5 : Hp} {tot : Int × Fac} {rest : List Tm} {fs : Fac} {c : Int} {sv nv xv : Option V} {DD : Ends} (DS : D ≠ S)
    (b5 : Bt S H H5) (ra : RdAt C H5 S L j d ts) (eD : H5 D = some (.dK (kvS fs))) (t : TailAt ts j rest e) (ht : rest.foldl accT (c, fs) = tot) (u : Uniq fs) (lf : fs.length + rest.length ≤ B) (hB : B < 60)
    (hN : ∀ m σ' H', m < rest.length + 1 → WExp C S L D d e ts H tot B m σ' H' → DD.nx σ' H') (hR : ∀ (p : Addr) (l : Fac) (H' : Hp), Bt S H H' → RdAt C H' S L e d ts → OfF tot.2 l → ExprAt H' (.ref p) tot.1 l → DD.rt (.ref p) H') :
    tTail C DD [some (.ref S), some (.int c), some (.ref D), sv, nv, xv] H5 := by
  obtain ⟨dx, xs, e1, _⟩ := id ra
  obtain ⟨tk, htk, h⟩ := t
  refine ⟨_, rfl, S, dx, _, rfl, e1, rfl, S, L, j, d, ts, tk, "+", rfl, ra, htk, ?_⟩
  rcases h with ⟨h1, h2, rfl, rfl⟩ | ⟨h1, r⟩ | ⟨h1, h2, r⟩
  · refine .inl ⟨h1, false, rfl, iteE rfl ⟨_, rfl, S, dx, _, rfl, e1, rfl, S, L, _, d, ts, tk, "-", rfl, ra, htk, .inl ⟨h2, false, rfl, iteE rfl ?_⟩⟩⟩
    refine ⟨_, rfl, _, rfl, c, D, fs, rfl, eD, u, Nat.lt_of_le_of_lt (Nat.le_trans (Nat.le_add_right _ _) lf) hB, fun p l H' s1 ho he => ?_⟩
    have et : tot = (c, fs) := ht.symm
    subst et
    exact hR p l H' (b5.trans (.of s1)) (ra.same s1) ho he
  · refine .inr ⟨h1, fun H6 b6 ra6 => ⟨true, rfl, iteS rfl ?_⟩⟩
    exact hN rest.length _ _ (Nat.lt_succ_self _) ⟨j + 1, false, rest, fs, c, nv, xv, rfl, rfl, b5.trans b6, ra6, b6 _ _ eD DS, r, ht, u, lf⟩
  · refine .inl ⟨h1, false, rfl, iteE rfl ⟨_, rfl, S, dx, _, rfl, e1, rfl, S, L, _, d, ts, tk, "-", rfl, ra, htk, .inr ⟨h2, fun H6 b6 ra6 => ⟨true, rfl, iteS rfl ?_⟩⟩⟩⟩
    exact ⟨_, rfl, hN rest.length _ _ (Nat.lt_succ_self _) ⟨j + 1, true, rest, fs, c, nv, xv, rfl, rfl, b5.trans b6, ra6, b6 _ _ eD DS, r, ht, u, lf⟩⟩
section
variable {P : Program} {w : World} {K : PySem.W.Frag} {mg : Str → Option Value} {base : Heap} {kw C : Addr}
def spExpr (C : Addr) : Sp := fun vs H Q _ => ∃ (S L : Addr) (i d : Nat) (ts : List TK) (tms : List Tm) (e : Nat), vs = [.ref S] ∧ RdAt C H S L i d ts ∧ ExpAt ts i tms e ∧ tms.length < 50 ∧
  ∀ (p : Addr) (l : Fac) (H' : Hp), Bt S H H' → RdAt C H' S L e d ts → OfF (tms.foldl accT (0, [])).2 l → ExprAt H' (.ref p) (tms.foldl accT (0, [])).1 l → Q (.ref p) H'
theorem ok_RExpr {f : Addr} {fd : FuncData} (F : Fun K "read_expression" "Reader.read_expression" sRExpr f fd) (T : TxSum mg) (TR : TxR K C) (MT : HasM P w K mg base CX0 4 C "read_term" PRTerm (spTerm C)) (MA : HasM P w K mg base CX0 3 C "accept" PRAcc (spAcc C)) (GE : Has P w K mg base CX0 1 "expression_of" PExprOf spExprOf) :
    FnOk P w K mg base CX0 5 f fd PRExpr (spExpr C) := by
  refine F.ok scRExpr (fun vs H Q E h => ?_) (fun cdv A outer s H vs Q E hr h => ?_)
  · obtain ⟨S, L, i, d, ts, tms, e, rfl, _⟩ := h
    rfl
  · obtain ⟨S, L, i, d, ts, tms, e, rfl, ra, ⟨tk, htk, hx⟩, lt, k⟩ := h
    have hr3 := hr.mono (j := 3) (by decide)
    have hr1 := hr.mono (j := 1) (by decide)
    have hu := hu_of hr
    refine ⟨_, (pss_cons (ps_set (i := 1) scRExpr.nd rfl (Or.inl rfl) pe_int)
  (pss_cons (ps_set (i := 2) scRExpr.nd rfl (Or.inl rfl) pe_dnewK)
  (pss_cons (ps_set (i := 3) scRExpr.nd rfl (Or.inl rfl) (pe_ifExp (pt_val (pe_methH (pv 0) TR.cl MA hr3 pass0 (pa_cons pe_str pa_nil))) (pe_un un_neg pe_int) pe_int))
  (pss_one (ps_while PassesOwn.never (pt_val pe_bl)
  (pss_cons (ps_asg (pe_methH0 (pv 0) TR.cl MT hr pass0) (pg_tup (by rfl) (pgs_cons (pg_name (i := 4) scRExpr.nd rfl (Or.inl rfl)) (pgs_cons (pg_name (i := 5) scRExpr.nd rfl (Or.inl rfl)) pgs_nil))))
  (pss_cons (ps_if (pt_cmpR op_isN (pv 4) pe_non (nomark _))
  (pss_one (ps_aug (i := 1) scRExpr.nd rfl (Or.inl rfl) (pe_op op_mul (pv 3) (pv 5)) ip_add))
  (pss_one (ps_dput hu (pv 2) (pv 4) (pe_op op_add (pe_dget2 hu (pv 2) (pv 4) pe_int ⟨rfl, rfl, rfl, rfl⟩) (pe_op op_mul (pv 3) (pv 5))) rfl)))
  (pss_one (ps_if (pt_val (pe_methH (pv 0) TR.cl MA hr3 pass0 (pa_cons pe_str pa_nil)))
  (pss_one (ps_set (i := 3) scRExpr.nd rfl (Or.inl rfl) pe_int))
  (pss_one (ps_if (pt_val (pe_methH (pv 0) TR.cl MA hr3 pass0 (pa_cons pe_str pa_nil)))
  (pss_one (ps_set (i := 3) scRExpr.nd rfl (Or.inl rfl) (pe_un un_neg pe_int)))
  (pss_one (ps_ret (pe_callH GE hr1 rfl pass0 (pa_cons (pv 1) (pa_cons (pv 2) pa_nil)))))))))))))))), ?_⟩
    refine fun D hD => ?_
    have sD := same_new (o := .dK []) hD
    obtain ⟨H0, eH0⟩ : ∃ H0, H0 = upd H D (.dK []) := ⟨_, rfl⟩
    have eD : H0 D = some (.dK []) := by rw [eH0, upd_same]
    rw [← eH0] at sD ⊢
    have ra0 := ra.same sD
    obtain ⟨dx, xs, e1, _⟩ := id ra0
    have DS : D ≠ S := fun z => by
      obtain ⟨_, _, e, _⟩ := ra
      rw [z, e] at hD
      cases hD
    have DL : L ≠ D := fun z => by
      obtain ⟨_, _, _, e, _⟩ := ra
      rw [z, hD] at e
      cases e
    refine ⟨_, rfl, S, dx, _, rfl, e1, rfl, S, L, i, d, ts, tk, "-", rfl, ra0, htk, ?_⟩
    refine (fun (key : ∀ (sg : Bool) (j : Nat) (H1 : Hp), Bt S H H1 → RdAt C H1 S L j d ts → H1 D = some (.dK []) → TmsAt ts j sg tms e → tWhile _ _ _ [some (.ref S), some (.int 0), some (.ref D), some (.int (sgn sg)), none, none] H1) =>
      Or.imp (fun h => ⟨h.1, false, rfl, iteE rfl (key false i H0 (.of sD) ra0 eD h.2)⟩) (fun h => ⟨h.1, fun H1 b1 ra1 => ⟨true, rfl, iteS rfl ⟨_, rfl, key true (i + 1) H1 ((Bt.of sD).trans b1) ra1 (b1 _ _ eD DS) h.2⟩⟩⟩) (Or.symm hx)) ?_
    intro sg0 j0 H1 b1 ra1 eD1 tm1
    refine ⟨WExp C S L D d e ts H (tms.foldl accT (0, [])) tms.length, ⟨_, j0, sg0, tms, [], 0, none, none, rfl, rfl, b1, ra1, eD1, tm1, rfl, List.nodup_nil, by rw [List.length_nil, Nat.zero_add]; exact Nat.le_refl _⟩, ?_⟩
    rintro m σ H2 ⟨j, sg, rest0, fs, c, nv, xv, rfl, rfl, b2, ra2, eD2, tm2, ht, u, lf⟩
    obtain ⟨nm, n, j2, rest, rfl, hT, hTail⟩ := tm2.inv
    obtain ⟨dx2, xs2, e2, _⟩ := id ra2
    refine ⟨true, rfl, iteS rfl ⟨fun σ' H' => ∃ m', m' < ((sg, nm, n) :: rest).length ∧ WExp C S L D d e ts H (tms.foldl accT (0, [])) tms.length m' σ' H', fun _ _ h => h, ?_⟩⟩
    refine ⟨_, rfl, S, dx2, _, rfl, e2, rfl, S, L, j, d, ts, nm, n, j2, rfl, ra2, hT, fun p H3 b3 ra3 hp => ⟨p, _, rfl, SqT.of hp, rfl, _, _, rfl, _, _, rfl, rfl, ?_⟩⟩
    have eD3 := b3 _ _ eD2 DS
    have lf' : fs.length + (rest.length + 1) ≤ tms.length := lf
    cases nm with
    | none =>
      refine ⟨_, rfl, rfl, _, rfl, iteS (decide_eq_true rfl) ?_⟩
      refine ⟨_, rfl, _, rfl, _, rfl, _, _, rfl, rfl, .inl (sgn_lt sg), _, _, rfl, rfl, ?_⟩
      exact tail_ok DS (b2.trans b3) ra3 eD3 hTail ht u (by omega) (by omega) (fun m σ' H' h1 h2 => ⟨m, h1, h2⟩) k
    | some x =>
      refine ⟨_, rfl, rfl, _, rfl, iteE (decide_eq_false fun z => by cases z) ?_⟩
      refine ⟨_, rfl, D, rfl, .inl ⟨_, .inl eD3⟩, _, rfl, valV (kvS fs) (Sum.inr x), .inl ⟨kvS fs, Sum.inr x, .inl eD3, rfl, rfl⟩, ?_⟩
      rw [val_getD]
      have u5 := uniq_addF u x (sgn sg * n)
      have l5 := len_addF fs x (sgn sg * n)
      have b5 : Bt S H (upd H3 D (.dK (kvS (addF fs x (sgn sg * n))))) := fun b o e h => by
        have bD : b ≠ D := fun z => by rw [z, hD] at e; cases e
        rw [upd_ne bD]
        exact b3 _ _ (b2 _ _ e h) h
      have ra5 : RdAt C (upd H3 D (.dK (kvS (addF fs x (sgn sg * n))))) S L j2 d ts := by
        obtain ⟨dy, ys, y1, y2, y3⟩ := ra3
        exact ⟨dy, ys, by rw [upd_ne DS.symm]; exact y1, by rw [upd_ne DL]; exact y2, Paired.mapP y3 fun _ _ z => z.same fun b zs e => by rw [upd_ne (ne_of e eD3 fun z => by cases z)]; exact e⟩
      refine ⟨_, rfl, _, rfl, _, _, rfl, rfl, .inl (sgn_lt sg), _, _, rfl, rfl, _, rfl, _, rfl, D, _, rfl, .inl ⟨kvS fs, Sum.inr x, eD3, rfl, small1000 (by unfold kvS; rw [List.length_map]; omega), rfl⟩, ?_⟩
      rw [put_kvS u]
      exact tail_ok DS b5 ra5 upd_same hTail ht u5 (by omega) (by omega) (fun m σ' H' h1 h2 => ⟨m, h1, h2⟩) k
end

/-! ### text += text; sign * n -/
section
variable {X : Cx}
theorem ip_addS : PIp X .Add (fun x y H Q => ∃ i j, x = .str i ∧ y = .str j ∧ i.length + j.length ≤ sizeLine ∧ Q (.str (i ++ j)) H) := by
  intro pins s σ H x y v u Q I r1 r2 h
  obtain ⟨i, j, e1, e2, hz, q⟩ := h
  subst e1; subst e2
  obtain ⟨t, rfl⟩ := r1
  obtain ⟨t', rfl⟩ := r2
  exact SB.iadd (fun t' k => ⟨.str _, H, I.tok _, ⟨_, rfl⟩, q⟩) hz
theorem fold_rep (c : Nat) : ∀ (n : Nat) (acc : Array Nat), (List.replicate n (#[c] : Array Nat)).foldl (· ++ ·) acc = acc ++ (List.replicate n c).toArray
  | 0, acc => by simp
  | n + 1, acc => by
    rw [List.replicate_succ, List.foldl_cons, fold_rep c n, List.replicate_succ]
    apply Array.ext'
    simp
theorem op_repS : OpR X (binaryOp .Mult) (fun x y H Q => ∃ (c n : Nat), x = .str ⟨#[c]⟩ ∧ y = .int (n : Nat) ∧ n ≤ 1000 ∧ Q (.str ⟨(List.replicate n c).toArray⟩) H) := by
  intro pins s σ H x y v u Q I rx ry h
  obtain ⟨c, n, rfl, rfl, hn, q⟩ := h
  obtain ⟨t, rfl⟩ := rx
  obtain ⟨t', rfl⟩ := ry
  have e1 : ((⟨#[c]⟩ : Str)).length = 1 := rfl
  refine P.mul_str (by rw [decide_eq_false (by omega), decide_eq_false (by omega)]; rfl) (fun h1 h2 => ?_) (fun h1 h2 => ?_) ?_
  · rw [e1]
    have : (1 : Int) ≤ (2 ^ 63 - 1) / (n : Int) := by
      rw [Int.le_ediv_iff_mul_le (by omega)]
      omega
    omega
  · rw [e1]
    unfold Builtin.Str.tooLong
    refine decide_eq_false ?_
    rw [Int.toNat_natCast, Nat.one_mul]
    show ¬ n > 2 ^ 24
    omega
  · rcases Nat.lt_or_ge n 1 with h0 | h0
    · have en : n = 0 := by omega
      subst en
      rw [if_pos (by decide)]
      exact ⟨by decide, .str _, H, I.tok _, ⟨_, rfl⟩, q⟩
    · rw [if_neg (by omega)]
      rcases Nat.lt_or_ge n 2 with h1 | h1
      · have en : n = 1 := by omega
        subst en
        rw [if_pos (show (((1 : Nat) : Int) == 1 || _) = true from rfl)]
        exact ⟨.str _, H, I, ⟨_, rfl⟩, q⟩
      · have e2 : (((n : Nat) : Int) == 1 || (⟨#[c]⟩ : Str).length == 0) = false := by
          rw [e1]
          have : (((n : Nat) : Int) == 1) = false := by rw [beq_eq_false_iff_ne]; omega
          rw [this]
          rfl
        rw [if_neg (by rw [e2]; decide), Int.toNat_natCast]
        have e3 : (⟨(List.replicate n (⟨#[c]⟩ : Str).cps).foldl (· ++ ·) #[]⟩ : Str) = ⟨(List.replicate n c).toArray⟩ := by
          show (⟨(List.replicate n (#[c] : Array Nat)).foldl (· ++ ·) #[]⟩ : Str) = _
          rw [fold_rep, Array.empty_append]
        rw [e3]
        refine ⟨?_, .str _, H, I.tok _, ⟨_, rfl⟩, q⟩
        show (List.replicate n c).toArray.size ≤ 2 ^ 24
        rw [List.size_toArray, List.length_replicate]
        omega
end

/-! ### _law_names -/
abbrev sNames : Stmt := topS 33
abbrev NNames : List Str := ["_law_pool_here", "_law_letter", "_law_shift", "_law_k"]
abbrev PNames : List Str := ["_law_pool_here"]
theorem scNames : FnScope NNames PNames (defScope sNames) := ⟨rfl, rfl, rfl, by decide +kernel, rfl, by decide +kernel, by decide +kernel⟩
def nm (c : Nat) (i : Int) : Str := (⟨#[c]⟩ : Str) ++ ((toString i : String) : Str)
/-- a list of names as _law_names gives it -/
structure NamesOk (ns : List Str) : Prop where
  nd : ns.Nodup
  name : ∀ n ∈ ns, isName n = true
  len : ∀ n ∈ ns, n.length ≤ 3
  two : ∀ n ∈ ns, 2 ≤ n.length
theorem dig_facts : ∀ k : Fin 16, ((toString ((k.val : Nat) : Int) : String) : Str).cps.toList ≠ [] ∧ (∀ c ∈ ((toString ((k.val : Nat) : Int) : String) : Str).cps.toList, c ∈ DIG.cps.toList) ∧ ((toString ((k.val : Nat) : Int) : String) : Str).cps.toList.length ≤ 2 := by decide +kernel
theorem dig_inj : ∀ k j : Fin 16, ((toString ((k.val : Nat) : Int) : String) : Str) = ((toString ((j.val : Nat) : Int) : String) : Str) → k = j := by decide +kernel
theorem mod_inj : ∀ s k j : Fin 16, (7 * k.val + s.val) % 16 = (7 * j.val + s.val) % 16 → k = j := by decide +kernel
theorem kws_let : ∀ k ∈ KWS, ∀ c ∈ k.cps.toList, c ∈ LET.cps.toList := by decide +kernel
theorem let_dig : ∀ c ∈ DIG.cps.toList, c ∉ LET.cps.toList := by decide +kernel
theorem nm_list (c : Nat) (i : Int) : (nm c i).cps.toList = c :: ((toString i : String) : Str).cps.toList := by
  show (#[c] ++ ((toString i : String) : Str).cps).toList = _
  simp
theorem nm_name {c : Nat} (hc : c ∈ LET.cps.toList) {i : Int} (h0 : 0 ≤ i) (h1 : i < 16) : isName (nm c i) = true ∧ (nm c i).length ≤ 3 := by
  have e : i = (((⟨i.toNat, by omega⟩ : _root_.Fin 16).val : Nat) : Int) := by
    show i = ((i.toNat : Nat) : Int)
    omega
  obtain ⟨d1, d2, d3⟩ := dig_facts ⟨i.toNat, by omega⟩
  rw [← e] at d1 d2 d3
  have hl := nm_list c i
  have h0 : (nm c i).cps.toList[0]? = some c := by rw [hl]; rfl
  constructor
  · rw [isName_at h0, hl]
    simp only [Bool.and_eq_true, decide_eq_true_eq, Bool.not_eq_true']
    refine ⟨⟨hc, ?_⟩, ?_⟩
    · rw [List.all_eq_true]
      intro x hx
      unfold al
      simp only [Bool.or_eq_true, decide_eq_true_eq]
      rcases List.mem_cons.mp hx with q | q
      · rw [q]; exact .inl hc
      · exact .inr (d2 x q)
    · cases q : inV (.str (nm c i)) (KWS.map V.str) with
      | false => rfl
      | true =>
        unfold inV at q
        obtain ⟨v, hv, q⟩ := List.any_eq_true.mp q
        obtain ⟨k, hk, rfl⟩ := List.mem_map.mp hv
        have q : k = nm c i := by
          have q : (k == nm c i) = true := q
          simpa using q
        obtain ⟨x, hx⟩ := List.exists_mem_of_ne_nil _ d1
        exact absurd (kws_let k hk x (by rw [q, hl]; exact List.mem_cons_of_mem _ hx)) (let_dig x (d2 x hx))
  · show (nm c i).cps.size ≤ 3
    rw [← Array.length_toList, hl, List.length_cons]
    omega
theorem nm_inj {c : Nat} {i j : Int} (i0 : 0 ≤ i) (i1 : i < 16) (j0 : 0 ≤ j) (j1 : j < 16) (h : nm c i = nm c j) : i = j := by
  have q : ((toString i : String) : Str).cps.toList = ((toString j : String) : Str).cps.toList := by
    have z := congrArg (fun z : Str => z.cps.toList) h
    simp only [nm_list] at z
    exact (List.cons.inj z).2
  have e : ((toString i : String) : Str) = ((toString j : String) : Str) := by
    have z := congrArg List.toArray q
    simp only [Array.toArray_toList] at z
    cases hx : ((toString i : String) : Str) with
    | mk a =>
      cases hy : ((toString j : String) : Str) with
      | mk b =>
        rw [hx, hy] at z
        rw [show a = b from z]
  have ei : i = (((⟨i.toNat, by omega⟩ : _root_.Fin 16).val : Nat) : Int) := by
    show i = ((i.toNat : Nat) : Int)
    omega
  have ej : j = (((⟨j.toNat, by omega⟩ : _root_.Fin 16).val : Nat) : Int) := by
    show j = ((j.toNat : Nat) : Int)
    omega
  rw [ei, ej] at e
  have f := congrArg Fin.val (dig_inj _ _ e)
  have f : i.toNat = j.toNat := f
  omega
def nms (c : Nat) (s : Int) (n : Nat) : List Str := (List.range n).map fun k => nm c ((7 * (k : Nat) + s) % 16)
theorem nms_ok {c : Nat} (hc : c ∈ LET.cps.toList) {s : Int} (s0 : 0 ≤ s) (s1 : s < 16) {n : Nat} (hn : n ≤ 16) : NamesOk (nms c s n) := by
  have b : ∀ k : Nat, 0 ≤ (7 * (k : Int) + s) % 16 ∧ (7 * (k : Int) + s) % 16 < 16 := fun k => ⟨Int.emod_nonneg _ (by decide), Int.emod_lt_of_pos _ (by decide)⟩
  refine ⟨?_, fun x hx => ?_, fun x hx => ?_, fun x hx => ?_⟩
  · unfold nms
    rw [List.nodup_iff_pairwise_ne, List.pairwise_map]
    refine List.Pairwise.imp_of_mem (fun {i j} hi hj hne z => hne ?_) List.nodup_range
    have hi := List.mem_range.mp hi
    have hj := List.mem_range.mp hj
    have q := nm_inj (b i).1 (b i).2 (b j).1 (b j).2 z
    have m := mod_inj ⟨s.toNat, by omega⟩ ⟨i, by omega⟩ ⟨j, by omega⟩ (by show (7 * i + s.toNat) % 16 = (7 * j + s.toNat) % 16; omega)
    exact congrArg Fin.val m
  · obtain ⟨k, _, rfl⟩ := List.mem_map.mp hx
    exact (nm_name hc (b k).1 (b k).2).1
  · obtain ⟨k, _, rfl⟩ := List.mem_map.mp hx
    exact (nm_name hc (b k).1 (b k).2).2
  · obtain ⟨k, _, rfl⟩ := List.mem_map.mp hx
    have e : (7 * (k : Int) + s) % 16 = (((⟨((7 * (k : Int) + s) % 16).toNat, by have := b k; omega⟩ : _root_.Fin 16).val : Nat) : Int) := by
      show _ = ((((7 * (k : Int) + s) % 16).toNat : Nat) : Int)
      have := b k
      omega
    obtain ⟨d1, _, _⟩ := dig_facts ⟨((7 * (k : Int) + s) % 16).toNat, by have := b k; omega⟩
    rw [← e] at d1
    show 2 ≤ (nm c ((7 * (k : Int) + s) % 16)).cps.size
    rw [← Array.length_toList, nm_list, List.length_cons]
    have := List.length_pos_iff.mpr d1
    omega
def spNames : Sp := fun vs H Q _ => ∃ (p c : Addr) (lim : V) (n : Nat), vs = [.ref p] ∧ PoolAt H p c lim n ∧ n < 100000000000 ∧
  ∀ (q : Addr) (ns : List Str) (H' : Hp), NamesOk ns → ns.length = 16 → PoolAt H' p c lim (n + 2) → But p c H H' → H q = none → H' q = some (.lst (ns.map V.str)) → Q (.ref q) H'
structure TxNames (mg : Str → Option Value) : Prop where
  n_str : mg "str" = none
  n_range : mg "range" = none
section
variable {P : Program} {w : World} {K : PySem.W.Frag} {mg : Str → Option Value} {base : Heap}
theorem log2_small {i : Int} (h0 : 0 ≤ i) (h1 : i < 16) : i.natAbs.log2 < 1920 := by
  have : i.natAbs.log2 ≤ i.natAbs := Nat.log2_le_self _
  omega
theorem ok_Names {f : Addr} {fd : FuncData} (F : Fun K "_law_names" "_law_names" sNames f fd) (T : TxNames mg) (GD : Has P w K mg base CX0 2 "_law_draw" PDraw spDraw) : FnOk P w K mg base CX0 3 f fd PNames spNames := by
  refine F.ok scNames (fun vs H Q E h => ?_) (fun cdv A outer s H vs Q E hr h => ?_)
  · obtain ⟨p, c, lim, n, rfl, _⟩ := h
    rfl
  · obtain ⟨p, c, lim, n, rfl, P0, hn, k⟩ := h
    refine ⟨_, (pss_cons (ps_set (i := 1) scNames.nd rfl (Or.inr rfl) (pe_ix ix_str pe_str (pe_callH GD hr rfl pass0 (pa_cons (pv 0) (pa_cons pe_int pa_nil))) (fun _ _ => rfl)))
  (pss_cons (ps_set (i := 2) scNames.nd rfl (Or.inr rfl) (pe_callH GD hr rfl pass0 (pa_cons (pv 0) (pa_cons pe_int pa_nil))))
  (pss_one (ps_ret (pe_lc (own := [("_law_k", 3)]) (g := gName 3) (tt := tYes) rfl scNames.nd (pi_range1 (by rfl) T.n_range (pa_cons pe_int pa_nil)) (blkOk_by (own := [("_law_k", 3)]) (N := NNames) (sc := (defScope sNames)) (by decide +kernel)) (fun _ _ _ _ _ => (pg_name (i := 3) scNames.nd rfl (Or.inl rfl))) (fun _ _ _ _ _ => pts_nil) (fun _ _ _ _ _ => (pe_op op_add_str (pv 1) (pe_callTy call_str_int (by rfl) T.n_str bb_str (pa_cons (pe_op op_mod (pe_op op_add (pe_op op_mul pe_int (pv 3)) (pv 2)) pe_int) pa_nil))))))))), ?_⟩
    refine ⟨_, rfl, p, c, lim, n, 26, rfl, P0, by omega, by decide, by decide, fun r H1 r0 r1 P1 b1 => ?_⟩
    obtain ⟨lc, hlc, mlc⟩ := atI_in (xs := LET.cps.toList) r0 (by rw [show LET.cps.toList.length = 26 by decide +kernel]; exact r1)
    refine ⟨_, _, lc, rfl, rfl, by decide +kernel, hlc, ?_⟩
    refine ⟨_, rfl, p, c, lim, n + 1, 16, rfl, P1, by omega, by decide, by decide, fun sh H2 s0 s1 P2 b2 => ?_⟩
    refine ⟨16, rfl, by decide, by decide, fun D hD => ?_⟩
    have Dp := P2.ne1 hD
    have Dc := P2.ne2 hD
    refine lc_range (lo := 0) (n := 16) (fun i H' => Same H2 H' ∧ H' D = some (.lst ((nms lc sh i).map V.str))) ⟨same_new hD, upd_same⟩ ?_ ?_
    · rintro i H3 hi ⟨s3, e3⟩
      have b : 0 ≤ (7 * (0 + (i : Int)) + sh) % 16 ∧ (7 * (0 + (i : Int)) + sh) % 16 < 16 := ⟨Int.emod_nonneg _ (by decide), Int.emod_lt_of_pos _ (by decide)⟩
      refine ⟨rfl, _, rfl, _, rfl, _, _, rfl, rfl, .inl ⟨by decide, by decide⟩, _, rfl, _, _, rfl, rfl, _, _, rfl, rfl, (show (0 : Int) < 16 by decide), _, rfl, log2_small b.1 b.2, _, _, rfl, rfl, ?_, _, e3, small1000 ?_, fun b o z => ?_, ?_⟩
      · have q := (nm_name mlc b.1 b.2).2
        unfold nm at q
        rw [str_app_len] at q
        exact Nat.le_trans q (by decide)
      · unfold nms
        rw [List.length_map, List.length_map, List.length_range]
        omega
      · rw [upd_ne (ne_of_none z hD)]
        exact s3 b o z
      · rw [upd_same]
        unfold nms
        rw [List.range_succ, List.map_append, List.map_append]
        show some (HO.lst (_ ++ [V.str (nm lc ((7 * (0 + (i : Int)) + sh) % 16))])) = _
        rw [Int.zero_add]
        rfl
    · rintro H3 ⟨s3, e3⟩
      have hD0 : H D = none := by
        cases q : H D with
        | none => rfl
        | some o => rw [b2 D o (b1 D o q Dp Dc) Dp Dc] at hD; cases hD
      refine k D _ H3 (nms_ok mlc s0 s1 (Nat.le_refl 16)) (by unfold nms; rw [List.length_map, List.length_range]) (P2.same s3) (fun b o z h1 h2 => s3 b o (b2 b o (b1 b o z h1 h2) h1 h2)) hD0 e3
end


/-! ### shown_term, show_expression, show -/
abbrev sShTerm : Stmt := topS 1
abbrev NShTerm : List Str := ["name", "factor"]
abbrev PShTerm : List Str := ["name", "factor"]
theorem scShTerm : FnScope NShTerm PShTerm (defScope sShTerm) := ⟨rfl, rfl, rfl, by decide +kernel, rfl, by decide +kernel, by decide +kernel⟩
abbrev sShExpr : Stmt := topS 2
abbrev NShExpr : List Str := ["expression", "constant", "terms", "parts", "name", "factor", "negative", "text", "part"]
abbrev PShExpr : List Str := ["expression"]
theorem scShExpr : FnScope NShExpr PShExpr (defScope sShExpr) := ⟨rfl, rfl, rfl, by decide +kernel, rfl, by decide +kernel, by decide +kernel⟩
abbrev sShow : Stmt := topS 10
abbrev NShow : List Str := ["tree", "names", "kinds", "keeps", "functions", "lines", "keep", "function", "line"]
abbrev PShow : List Str := ["tree"]
theorem scShow : FnScope NShow PShow (defScope sShow) := ⟨rfl, rfl, rfl, by decide +kernel, rfl, by decide +kernel, by decide +kernel⟩
theorem bb_abs : bootBuiltins "abs" = some (.builtin "abs") := by decide +kernel
def numS (n : Nat) : Str := Str.ofString (toString ((n : Nat) : Int))
def termS (nm : Str) (f : Int) : Str := if f.natAbs = 1 then nm else Str.empty ++ numS f.natAbs ++ "*" ++ nm
def sepS (b : Bool) : Str := if b = true then " - " else " + "
def tailS (t : Str) (ps : List (Bool × Str)) : Str := ps.foldl (fun t p => t ++ (sepS p.1 ++ p.2)) t
def partsS (c : Int) (l : Fac) : List (Bool × Str) := l.map (fun p => (decide (p.2 < 0), termS p.1 p.2)) ++ (if c ≠ 0 ∨ l = [] then [(decide (c < 0), numS c.natAbs)] else [])
def exprS (c : Int) (l : Fac) : Str := match partsS c l with
  | [] => ""
  | p :: r => tailS (if p.1 = true then "-" ++ p.2 else p.2) r
theorem abs_nat (i : Int) : (if i < 0 then -i else i) = ((i.natAbs : Nat) : Int) := by split <;> omega
theorem log_lt {n : Nat} (h : n < 2 ^ 64) : n.log2 < 1920 := by
  by_cases h0 : n = 0
  · subst h0; decide
  · exact Nat.lt_of_lt_of_le ((Nat.log2_lt h0).mpr h) (by decide)
theorem numS_len {n : Nat} (h : n < 2 ^ 64) : (numS n).length ≤ 65 := by
  unfold numS
  rw [ofString_length]
  refine int_text_length_le (k := 64) (by decide) ?_
  by_cases h0 : n = 0
  · subst h0; decide
  · exact (Nat.log2_lt (by simpa using h0)).mpr (by simpa using h)
theorem len_add (a b : Str) : (a ++ b).length = a.length + b.length := by
  show (a.cps ++ b.cps).size = _
  rw [Array.size_append]
  rfl
theorem g_ifS_or {i : Nat} {x : V} {t u : TT} {a b v : TS} {D : Ends} {σ : L2.St} {H : Hp} {c1 c2 : Bool} (ht : ∀ Q : Bool → Hp → Prop, Q c1 H → t (σ.set i (some x)) H Q) (hu : ∀ Q : Bool → Hp → Prop, Q c2 H → u (σ.set i (some x)) H Q) (h : if (c1 || c2) = true then a { D with nx := v D } (σ.set i (some x)) H else b { D with nx := v D } (σ.set i (some x)) H) : gName i x σ H (tSeq (tIfS (tOr t u) a b) v D) := by
  refine ht _ ?_
  cases c1 with
  | true => exact h
  | false => exact hu _ h
theorem if_tC {b : Bool} {u v : Str} {σ : L2.St} {H : Hp} {Q : VK} (h : Q (.str (if b = true then u else v)) H) : if b = true then tC (.str u) σ H Q else tC (.str v) σ H Q := by
  cases b with
  | true => exact h
  | false => exact h
theorem cut_one (xs : List V) : cutV xs (some 1) none = xs.drop 1 := by
  unfold cutV
  have e1 : HT.sIx xs.length 0 (some 1) = min 1 xs.length := HT.sIx_nat ..
  rw [HT.sIx_none, e1]
  cases xs with
  | nil => rfl
  | cons a r =>
    have : min 1 (a :: r).length = 1 := Nat.min_eq_left (Nat.succ_pos _)
    rw [this]
    exact List.take_of_length_le (by rw [List.length_drop]; exact Nat.le_refl _)
theorem tailS_len {X : Str} {n : Nat} (hX : X.length ≤ n) : ∀ (ps : List (Bool × Str)) (_ : ∀ r ∈ ps, r.2.length ≤ 1066), (tailS X ps).length ≤ n + ps.length * 1069 := by
  intro ps
  induction ps generalizing X n with
  | nil => intro _; exact hX
  | cons p r ih =>
    intro h
    have h1 := h p List.mem_cons_self
    have l3 : (sepS p.1).length = 3 := by unfold sepS; split <;> decide +kernel
    have := ih (X := X ++ (sepS p.1 ++ p.2)) (n := n + 1069) (by rw [len_add, len_add, l3]; omega) (fun q hq => h q (List.mem_cons_of_mem _ hq))
    show (tailS (X ++ (sepS p.1 ++ p.2)) r).length ≤ n + (r.length + 1) * 1069
    omega
structure TxShow (mg : Str → Option Value) : Prop where
  n_abs : mg "abs" = none
  n_str : mg "str" = none
section
variable {P : Program} {w : World} {K : PySem.W.Frag} {mg : Str → Option Value} {base : Heap} {kw C : Addr}
def spShTerm : Sp := fun vs H Q _ => ∃ (nm : Str) (f : Int), vs = [.str nm, .int f] ∧ nm.length ≤ 1000 ∧ f.natAbs < 2 ^ 64 ∧ Q (.str (termS nm f)) H
theorem ok_ShTerm {f : Addr} {fd : FuncData} (F : Fun K "shown_term" "shown_term" sShTerm f fd) (T : TxShow mg) : FnOk P w K mg base CX0 1 f fd PShTerm spShTerm := by
  refine F.ok scShTerm (fun vs H Q E h => ?_) (fun cdv A outer s H vs Q E hr h => ?_)
  · obtain ⟨nm, n, rfl, _⟩ := h
    rfl
  · obtain ⟨nm, n, rfl, hl, hn, k⟩ := h
    refine ⟨_, (pss_cons (ps_if (pt_cmpR op_eq (pe_callB call_abs (by rfl) T.n_abs bb_abs (pa_cons (pv 1) pa_nil)) pe_int (nomark _))
  (pss_one (ps_ret (pv 0)))
  pss_nil)
  (pss_one (ps_ret (pe_joined (.cons (pe_fmt (pe_callB call_abs (by rfl) T.n_abs bb_abs (pa_cons (pv 1) pa_nil))) (.cons pe_str (.cons (pe_fmt (pv 0)) .nil))))))), ?_⟩
    refine ⟨_, rfl, n, rfl, ?_⟩
    rw [abs_nat]
    unfold termS at k
    by_cases h1 : n.natAbs = 1
    · rw [if_pos h1] at k
      exact ⟨rfl, _, rfl, iteS (by rw [h1]; rfl) ⟨_, rfl, k⟩⟩
    · rw [if_neg h1] at k
      refine ⟨rfl, _, rfl, iteE (decide_eq_false fun z => h1 (by injection z with z; omega)) ?_⟩
      have e1 := numS_len hn
      refine ⟨_, rfl, n, rfl, .inr ⟨_, rfl, by rw [abs_nat]; exact log_lt hn, ?_⟩⟩
      rw [abs_nat]
      have l0 : Str.empty.length = 0 := rfl
      have l1 : ("*" : Str).length = 1 := by decide +kernel
      have e2 : sizeLine = 2 ^ 24 := rfl
      refine ⟨numS n.natAbs, rfl, by rw [len_add, l0, e2]; omega, "*", rfl, by rw [len_add, len_add, l0, l1, e2]; omega, _, rfl, .inl ⟨nm, rfl, by rw [e2]; omega, nm, rfl, by rw [len_add, len_add, len_add, l0, l1, e2]; omega, k⟩⟩
theorem termS_len {nm : Str} {f : Int} (h1 : nm.length ≤ 1000) (h2 : f.natAbs < 2 ^ 64) : (termS nm f).length ≤ 1066 := by
  unfold termS
  have e1 := numS_len h2
  have l0 : Str.empty.length = 0 := rfl
  have l1 : ("*" : Str).length = 1 := by decide +kernel
  split
  · omega
  · rw [len_add, len_add, len_add, l0, l1]
    omega
def FacOk (l : Fac) : Prop := l.length ≤ 50 ∧ ∀ p ∈ l, p.1.length ≤ 1000 ∧ p.2.natAbs < 2 ^ 64
def PartAt (H : Hp) (v : V) (r : Bool × Str) : Prop := ∃ a, v = .ref a ∧ H a = some (.tup [.bl r.1, .str r.2])
theorem PartAt.same {H H' : Hp} (s : TSame H H') {v : V} {r : Bool × Str} (h : PartAt H v r) : PartAt H' v r := let ⟨a, e, q⟩ := h; ⟨a, e, s _ _ q⟩
def ExprD (K : PySem.W.Frag) (H : Hp) (v : V) (c : Int) (l : Fac) : Prop := ∃ (p q : Addr) (ys : List V), v = .ref p ∧ SqT K H p [.int c, .ref q] ∧ SqT K H q ys ∧ Paired (fun v r => ∃ a, v = .ref a ∧ SqT K H a [.str r.1, .int r.2]) ys l
def spShExpr (K : PySem.W.Frag) : Sp := fun vs H Q _ => ∃ (p : Addr) (c : Int) (l : Fac), vs = [.ref p] ∧ ExprD K H (.ref p) c l ∧ FacOk l ∧ c.natAbs < 2 ^ 64 ∧ ∀ H', Same H H' → Q (.str (exprS c l)) H'
theorem ok_ShExpr {f : Addr} {fd : FuncData} (F : Fun K "show_expression" "show_expression" sShExpr f fd) (T : TxShow mg) (GT : Has P w K mg base CX0 1 "shown_term" PShTerm spShTerm) : FnOk P w K mg base CX0 2 f fd PShExpr (spShExpr K) := by
  refine F.ok scShExpr (fun vs H Q E h => ?_) (fun cdv A outer s H vs Q E hr h => ?_)
  · obtain ⟨p, c, l, rfl, _⟩ := h
    rfl
  · obtain ⟨p, c, l, rfl, ⟨p', q, ys, e0, ep, eq, hys⟩, ⟨ll, lo⟩, hc, k⟩ := h
    obtain rfl : p = p' := by injection e0
    refine ⟨_, (pss_cons (ps_asg (pv 0) (pg_tup (by rfl) (pgs_cons (pg_name (i := 1) scShExpr.nd rfl (Or.inl rfl)) (pgs_cons (pg_name (i := 2) scShExpr.nd rfl (Or.inl rfl)) pgs_nil))))
  (pss_cons (ps_setLc (i := 3) (own := [("name", 4), ("factor", 5)]) (g := gTup K 2 (gCons (gName 4) (gCons (gName 5) gNil))) (tt := tYes) rfl scShExpr.nd rfl rfl (sw_true rfl rfl rfl (by decide +kernel)) (pi_tup (pv 2)) (blkOk_by (own := [("name", 4), ("factor", 5)]) (N := NShExpr) (sc := (defScope sShExpr)) (by decide +kernel)) (fun _ _ _ _ _ => (pg_tup (by rfl) (pgs_cons (pg_name (i := 4) scShExpr.nd rfl (Or.inl rfl)) (pgs_cons (pg_name (i := 5) scShExpr.nd rfl (Or.inl rfl)) pgs_nil)))) (fun _ _ _ _ _ => pts_nil) (fun _ _ _ _ _ => (pe_tup (pa_cons (pe_cmpR op_lt (pv 5) pe_int (nomark _)) (pa_cons (pe_callH GT hr rfl pass0 (pa_cons (pv 4) (pa_cons (pv 5) pa_nil))) pa_nil)))))
  (pss_cons (ps_if (PW.pt (pw_or (pt_cmpR op_ne (pv 1) pe_int (nomark _)) (pw_or1 (pt_not (pt_truth (pv 3) (by intro _; rfl))))))
  (pss_one (ps_expr (pe_bm PySem.F.plainAttrs_list PySem.F.slot_list_append PySem.F.type_list_append mt_append (pv 3) (pa_cons (pe_tup (pa_cons (pe_cmpR op_lt (pv 1) pe_int (nomark _)) (pa_cons (pe_callTy call_str_int (by rfl) T.n_str bb_str (pa_cons (pe_callB call_abs (by rfl) T.n_abs bb_abs (pa_cons (pv 1) pa_nil)) pa_nil)) pa_nil))) pa_nil))))
  pss_nil)
  (pss_cons (ps_asg (pe_ix (r := rIxL K) ix_list (pv 3) pe_int (fun _ _ => rfl)) (pg_tup (by rfl) (pgs_cons (pg_name (i := 6) scShExpr.nd rfl (Or.inl rfl)) (pgs_cons (pg_name (i := 7) scShExpr.nd rfl (Or.inl rfl)) pgs_nil))))
  (pss_cons (ps_if (pt_val (pv 6))
  (pss_one (ps_set (i := 7) scShExpr.nd rfl (Or.inl rfl) (pe_op op_add_str pe_str (pv 7))))
  pss_nil)
  (pss_cons (ps_for PassesOwn.never rfl (pi_list (pe_slice sl_list (pv 3) (po_some pe_int) po_none)) (pg_tup (by rfl) (pgs_cons (pg_name (i := 6) scShExpr.nd rfl (Or.inl rfl)) (pgs_cons (pg_name (i := 8) scShExpr.nd rfl (Or.inl rfl)) pgs_nil)))
  (pss_one (ps_aug (i := 7) scShExpr.nd rfl (Or.inl rfl) (pe_op op_add_str (pe_ifExp (pt_val (pv 6)) pe_str pe_str) (pv 8)) ip_addS)))
  (pss_one (ps_ret (pv 7))))))))), ?_⟩
    refine ⟨_, rfl, p, _, rfl, ep, rfl, _, _, rfl, _, _, rfl, rfl, ?_⟩
    have lys := Paired.length hys
    obtain ⟨rs, ers⟩ : ∃ rs : List (Bool × Str), rs = l.map (fun p => (decide (p.2 < 0), termS p.1 p.2)) := ⟨_, rfl⟩
    have lrs : rs.length = l.length := by rw [ers, List.length_map]
    refine ⟨_, rfl, q, rfl, ⟨_, eq⟩, fun Z hZ => lc_rel (walk_tup (K := K) (a := q) (xs := ys)) (fun i y H => ∃ r, rs[i]? = some r ∧ PartAt H y r) (fun i y H H' s ⟨r, h1, h2⟩ => ⟨r, h1, h2.same s⟩) hZ (by omega) (fun H' s' => SqT.same s' eq) ?_ ?_⟩
    · rintro i x H1 H2 k1 hi s1 ⟨rfl, hx⟩ kk
      obtain ⟨r, hr1, a, rfl, ha⟩ := Paired.at hys hx
      obtain ⟨o1, o2⟩ := lo r (List.mem_of_getElem? hr1)
      refine ⟨a, _, rfl, SqT.same s1 ha, rfl, _, _, rfl, _, _, rfl, rfl, rfl, ?_⟩
      refine ⟨_, rfl, _, _, rfl, rfl, _, rfl, _, rfl, r.1, r.2, rfl, o1, o2, (by show 2 ≤ sizeLine; decide), fun t ht => ?_⟩
      exact kk _ _ (same_new ht) ⟨_, by rw [ers, List.getElem?_map, hr1]; rfl, t, rfl, upd_same⟩
    · intro zs H1 s1 eZ lz hp
      obtain ⟨ps, eps⟩ : ∃ ps, ps = partsS c l := ⟨_, rfl⟩
      have eps' : ps = rs ++ (if c ≠ 0 ∨ l = [] then [(decide (c < 0), numS c.natAbs)] else []) := by rw [eps, ers]; rfl
      have zl : zs.length = l.length := by omega
      dsimp only
      refine g_ifS_or (c1 := decide (c ≠ 0)) (c2 := decide (l = [])) (fun Q q => ⟨_, rfl, rfl, _, rfl, ?_⟩) (fun Q q => ⟨_, rfl, _, .inl ⟨zs, SqL.of eZ, rfl⟩, ?_⟩) ?_
      · have : (!decide (V.int c = V.int 0)) = decide (c ≠ 0) := by
          by_cases h : c = 0
          · subst h; rfl
          · rw [decide_eq_true h, decide_eq_false (fun z => h (by injection z))]; rfl
        show Q (!decide (V.int c = V.int 0)) H1
        rw [this]
        exact q
      · have : (!!zs.isEmpty) = decide (l = []) := by
          cases l with
          | nil =>
            have : zs = [] := List.length_eq_zero_iff.mp zl
            rw [this]
            rfl
          | cons a r =>
            cases zs with
            | nil => cases zl
            | cons _ _ => rfl
        show Q (!!zs.isEmpty) H1
        rw [this]
        exact q
      refine (fun (key : ∀ (H2 : Hp) (zs2 : List V), Same H H2 → H2 Z = some (.lst zs2) → zs2.length = ps.length → (∀ (i : Nat) (y : V), zs2[i]? = some y → ∃ r, ps[i]? = some r ∧ PartAt H2 y r) → tSeq _ _ _ [some (.ref p), some (.int c), some (.ref q), some (.ref Z), none, none, none, none, none] H2) =>
        ite2 (fun h => ⟨_, rfl, .inl ⟨rfl, _, SqL.of eZ⟩, _, rfl, _, _, rfl, rfl, _, rfl, c, rfl, _, rfl, by rw [abs_nat]; exact log_lt hc, (by show 2 ≤ sizeLine; decide), fun t ht => ⟨Z, _, _, rfl, rfl, (same_new ht) _ _ eZ, small1000 (by omega), key _ (zs ++ [.ref t]) ?_ upd_same ?_ ?_⟩⟩)
          (fun h => key H1 zs s1 eZ ?_ ?_)) ?_
      · have hn : ¬ (c ≠ 0 ∨ l = []) := fun z => h (by rw [Bool.or_eq_true, decide_eq_true_eq, decide_eq_true_eq]; exact z)
        rw [eps', if_neg hn, List.append_nil]
        omega
      · have hn : ¬ (c ≠ 0 ∨ l = []) := fun z => h (by rw [Bool.or_eq_true, decide_eq_true_eq, decide_eq_true_eq]; exact z)
        rw [eps', if_neg hn, List.append_nil]
        exact hp
      · intro H2 zs2 s2 eZ2 lz2 hp2
        obtain ⟨r0, pr, epr⟩ : ∃ r0 pr, ps = r0 :: pr := by
          cases e : ps with
          | cons a r => exact ⟨a, r, rfl⟩
          | nil =>
            exfalso
            have z := eps'.symm.trans e
            rw [ers] at z
            obtain ⟨z1, z2⟩ := List.append_eq_nil_iff.mp z
            rw [if_pos (.inr (List.map_eq_nil_iff.mp z1))] at z2
            cases z2
        have pl : ∀ r ∈ ps, r.2.length ≤ 1066 := by
          intro r hr'
          rw [eps', ers] at hr'
          rcases List.mem_append.mp hr' with h | h
          · obtain ⟨x, hx, rfl⟩ := List.mem_map.mp h
            exact termS_len (lo x hx).1 (lo x hx).2
          · split at h
            · rw [List.mem_singleton.mp h]
              exact Nat.le_trans (numS_len hc) (by decide)
            · cases h
        have pn : ps.length ≤ 51 := by
          rw [eps', List.length_append]
          split
          · show rs.length + 1 ≤ 51; omega
          · show rs.length + 0 ≤ 51; omega
        obtain ⟨y0, hy0⟩ : ∃ y0, zs2[0]? = some y0 := ⟨_, List.getElem?_eq_getElem (by rw [lz2, epr]; exact Nat.succ_pos _)⟩
        obtain ⟨r, hr0, a0, rfl, ha0⟩ := hp2 0 y0 hy0
        obtain rfl : r0 = r := by rw [epr] at hr0; exact Option.some.inj hr0
        have e24 : sizeLine = 2 ^ 24 := rfl
        have p0 := pl r0 (by rw [epr]; exact List.mem_cons_self)
        have lm : ("-" : Str).length = 1 := by decide +kernel
        refine ⟨_, rfl, Z, zs2, 0, .ref a0, rfl, rfl, SqL.of eZ2, atI_nat (j := 0) hy0, a0, _, rfl, SqT.of ha0, rfl, _, _, rfl, _, _, rfl, rfl, _, rfl, r0.1, rfl, ?_⟩
        refine (fun (key : ∀ X : Str, X = (if r0.1 = true then "-" ++ r0.2 else r0.2) → tSeq _ _ _ [some (.ref p), some (.int c), some (.ref q), some (.ref Z), none, none, some (.bl r0.1), some (.str X), none] H2) =>
          ite2 (fun h => ⟨_, rfl, _, _, rfl, rfl, by rw [e24, lm]; omega, key _ (by rw [if_pos h])⟩) (fun h => key _ (by rw [if_neg h]))) ?_
        intro X eX
        have k2 : ∀ H', Same H H' → Q (.str (tailS X pr)) H' := fun H' s' => by
          have := k H' s'
          unfold exprS at this
          rw [← eps, epr] at this
          rw [eX]
          exact this
        have lX : X.length ≤ 1067 := by
          rw [eX]
          split
          · rw [len_add, lm]; omega
          · omega
        refine ⟨_, rfl, 1, rfl, Z, zs2, rfl, SqL.of eZ2, fun Y hY => ⟨Y, rfl, ⟨_, SqL.of upd_same⟩, ?_⟩⟩
        rw [cut_one]
        have sY := same_new (o := .lst (zs2.drop 1)) hY
        obtain ⟨H3, eH3⟩ : ∃ H3, H3 = upd H2 Y (.lst (zs2.drop 1)) := ⟨_, rfl⟩
        have eY : H3 Y = some (.lst (zs2.drop 1)) := by rw [eH3, upd_same]
        rw [← eH3] at sY ⊢
        refine for_it (walk_list (K := K) (a := Y) (xs := zs2.drop 1)) (fun i σ H' => H' = H3 ∧ ∃ nv pv, σ = [some (.ref p), some (.int c), some (.ref q), some (.ref Z), none, none, nv, some (.str (tailS X (pr.take i))), pv]) ⟨rfl, _, _, rfl⟩ (fun i σ H' _ h => by rw [h.1]; exact SqL.of eY) ?_ ?_
        · rintro i x σ H4 H5 hi ⟨rfl, nv, pv, rfl⟩ ⟨rfl, hx⟩
          rw [List.getElem?_drop] at hx
          obtain ⟨r, hr1, a, rfl, ha⟩ := hp2 _ x hx
          have hr2 : pr[i]? = some r := by rw [epr, Nat.add_comm, List.getElem?_cons_succ] at hr1; exact hr1
          have hi' : i < pr.length := (List.getElem?_eq_some_iff.mp hr2).1
          have lp : ps.length = pr.length + 1 := by rw [epr]; rfl
          have lr := pl r (List.mem_of_getElem? hr1)
          have l3 : (sepS r.1).length = 3 := by unfold sepS; split <;> decide +kernel
          have lt := tailS_len lX (pr.take i) fun z hz => pl z (by rw [epr]; exact List.mem_cons_of_mem _ (List.mem_of_mem_take hz))
          rw [List.length_take, Nat.min_eq_left (by omega)] at lt
          refine ⟨a, _, rfl, SqT.of (sY _ _ ha), rfl, _, _, rfl, _, _, rfl, rfl, _, rfl, _, rfl, r.1, rfl, if_tC ⟨_, rfl, sepS r.1, r.2, rfl, rfl, by rw [l3, e24]; omega, _, _, rfl, rfl, by rw [len_add, l3, e24]; omega, rfl, some (.bl r.1), some (.str r.2), ?_⟩⟩
          rw [take_snoc hr2]
          unfold tailS
          rw [List.foldl_append]
          rfl
        · rintro σ H4 ⟨rfl, nv, pv, rfl⟩
          rw [List.length_drop, lz2, epr, show (r0 :: pr).length - 1 = pr.length from rfl, List.take_length]
          exact ⟨_, rfl, k2 _ (s2.trans sY)⟩
      · intro b o e
        have bZ : b ≠ Z := ne_of_none e hZ
        rw [upd_ne bZ]
        exact same_new ht _ _ (s1 _ _ e)
      · have hy : c ≠ 0 ∨ l = [] := by rw [Bool.or_eq_true, decide_eq_true_eq, decide_eq_true_eq] at h; exact h
        rw [eps', if_pos hy, List.length_append, List.length_append]
        show zs.length + 1 = rs.length + 1
        omega
      · intro i y hy
        have hh : c ≠ 0 ∨ l = [] := by rw [Bool.or_eq_true, decide_eq_true_eq, decide_eq_true_eq] at h; exact h
        rw [eps', if_pos hh]
        have tZ : t ≠ Z := fun z => by rw [z, eZ] at ht; cases ht
        have ts : TSame H1 (upd (upd H1 t (HO.tup [(fun i j => V.bl (decide (i < j))) c 0, V.str (Str.ofString (toString (if c < 0 then -c else c)))])) Z (HO.lst (zs ++ [V.ref t]))) := fun b xs e => by
          rw [upd_ne (ne_of e eZ fun z => by cases z)]
          exact same_new ht _ _ e
        rcases Nat.lt_or_ge i zs.length with hi | hi
        · rw [List.getElem?_append_left hi] at hy
          obtain ⟨r, h1, h2⟩ := hp i y hy
          exact ⟨r, by rw [List.getElem?_append_left (by omega)]; exact h1, h2.same ts⟩
        · rw [List.getElem?_append_right hi] at hy
          have hj : i - zs.length = 0 := by
            have q := (List.getElem?_eq_some_iff.mp hy).1
            simp at q
            omega
          rw [hj] at hy
          cases hy
          refine ⟨_, by rw [List.getElem?_append_right (by omega), show i - rs.length = 0 by omega]; rfl, t, rfl, ?_⟩
          rw [upd_ne tZ, upd_same, abs_nat]
          rfl
theorem exprS_len {c : Int} {l : Fac} (fo : FacOk l) (hc : c.natAbs < 2 ^ 64) : (exprS c l).length ≤ 60000 := by
  obtain ⟨ll, lo⟩ := fo
  have pl : ∀ r ∈ partsS c l, r.2.length ≤ 1066 := by
    intro r hr'
    unfold partsS at hr'
    rcases List.mem_append.mp hr' with h | h
    · obtain ⟨x, hx, rfl⟩ := List.mem_map.mp h
      exact termS_len (lo x hx).1 (lo x hx).2
    · split at h
      · rw [List.mem_singleton.mp h]
        exact Nat.le_trans (numS_len hc) (by decide)
      · cases h
  have pn : (partsS c l).length ≤ 51 := by
    unfold partsS
    rw [List.length_append, List.length_map]
    split
    · show l.length + 1 ≤ 51; omega
    · show l.length + 0 ≤ 51; omega
  unfold exprS
  cases e : partsS c l with
  | nil => decide +kernel
  | cons p r =>
    rw [e] at pl pn
    have lm : ("-" : Str).length = 1 := by decide +kernel
    have p0 := pl p List.mem_cons_self
    have := tailS_len (X := if p.1 = true then "-" ++ p.2 else p.2) (n := 1067) (by
      split
      · rw [len_add, lm]; omega
      · omega) r fun z hz => pl z (List.mem_cons_of_mem _ hz)
    have pn : r.length + 1 ≤ 51 := pn
    show (tailS _ r).length ≤ 60000
    omega
theorem joinL_len (S : List Nat) : ∀ ys : List (List Nat), (TL.joinL S ys).length ≤ (ys.map (·.length)).sum + ys.length * S.length
  | [] => Nat.zero_le _
  | [x] => by show x.length ≤ (x.length + 0) + 1 * S.length; omega
  | x :: y :: r => by
    have ih := joinL_len S (y :: r)
    have e : TL.joinL S (x :: y :: r) = x ++ (S ++ TL.joinL S (y :: r)) := rfl
    rw [e, List.length_append, List.length_append, List.map_cons, List.sum_cons, List.length_cons, Nat.succ_mul]
    omega
theorem join_len (a : Str) (ys : List Str) : (Txt.join a ys).length ≤ (ys.map (·.length)).sum + ys.length * a.length := by
  rw [TL.len_tl, TL.join_eq, TL.tl_join]
  have h := joinL_len (TL.tl a) (ys.map TL.tl)
  rw [List.map_map, List.length_map] at h
  rw [TL.len_tl]
  have e : ys.map ((fun x : List Nat => x.length) ∘ TL.tl) = ys.map (·.length) := List.map_congr_left fun z _ => (TL.len_tl z).symm
  rw [e] at h
  exact h
theorem sum_len {ys : List Str} {n : Nat} (h : ∀ y ∈ ys, y.length ≤ n) : (ys.map (·.length)).sum ≤ ys.length * n := by
  induction ys with
  | nil => exact Nat.zero_le _
  | cons y r ih =>
    rw [List.map_cons, List.sum_cons, List.length_cons, Nat.succ_mul]
    have := ih fun z hz => h z (List.mem_cons_of_mem _ hz)
    have := h y List.mem_cons_self
    omega
/-! show -/
end


/-! ### the tokens of the law's text -/
abbrev SH := List (Str × Str)
def shOf (ts : List TK) : SH := ts.map fun k => (k.1, k.2.1)
def Tks (t : List Nat) (sh : SH) : Prop := ∀ p : List Nat, ∃ ts : List TK, shOf ts = sh ∧ Tkz (p ++ t) p.length ts
theorem Tks.nil : Tks [] [("end", "")] := fun p => ⟨[(("end", "", p.length) : TK)], rfl, .fin (by rw [List.append_nil])⟩
theorem mid_get (p t : List Nat) (c : Nat) : (p ++ c :: t)[p.length]? = some c := by
  rw [List.getElem?_append_right (Nat.le_refl _), Nat.sub_self]
  rfl
theorem Tks.gap {t : List Nat} {sh : SH} (h : Tks t sh) : Tks (32 :: t) sh := fun p => by
  obtain ⟨ts, e, k⟩ := h (p ++ [32])
  rw [List.append_assoc, List.length_append] at k
  exact ⟨ts, e, .gap (mid_get p t 32) (.inl rfl) k⟩
theorem Tks.gaps {t : List Nat} {sh : SH} (h : Tks t sh) : ∀ n, Tks (List.replicate n 32 ++ t) sh
  | 0 => h
  | n + 1 => (Tks.gaps h n).gap
theorem Tks.sign {t : List Nat} {sh : SH} {c : Nat} (hc : c ∈ SIG.cps.toList) (h : Tks t sh) : Tks (c :: t) (("mark", (⟨#[c]⟩ : Str)) :: sh) := fun p => by
  obtain ⟨ts, e, k⟩ := h (p ++ [c])
  rw [List.append_assoc, List.length_append] at k
  exact ⟨(("mark", ⟨#[c]⟩, p.length) : TK) :: ts, by rw [← e]; rfl, .sign (mid_get p t c) hc k⟩
def NoAl (t : List Nat) : Prop := ∀ c, t[0]? = some c → al c = false
theorem let_plain : ∀ c ∈ LET.cps.toList, c ≠ 32 ∧ c ≠ 10 ∧ c ∉ SIG.cps.toList := by decide +kernel
theorem dig_plain : ∀ c ∈ DIG.cps.toList, c ≠ 32 ∧ c ≠ 10 ∧ c ∉ SIG.cps.toList := by decide +kernel
theorem al_plain {c : Nat} (h : al c = true) : Plain c := by
  unfold al at h
  rw [Bool.or_eq_true, decide_eq_true_eq, decide_eq_true_eq] at h
  rcases h with h | h
  · exact let_plain c h
  · exact dig_plain c h
theorem Tks.word {w t : List Nat} {sh : SH} (hw : w ≠ []) (ha : ∀ c ∈ w, al c = true) (hk : kindOf ⟨w.toArray⟩ ≠ "bad") (hn : NoAl t) (h : Tks t sh) : Tks (w ++ t) ((kindOf ⟨w.toArray⟩, (⟨w.toArray⟩ : Str)) :: sh) := fun p => by
  obtain ⟨ts, e, k⟩ := h (p ++ w)
  rw [List.append_assoc, List.length_append] at k
  have wl : 0 < w.length := List.length_pos_iff.mpr hw
  have cut : cutT (p ++ (w ++ t)) p.length (p.length + w.length) = ⟨w.toArray⟩ := by
    unfold cutT
    rw [List.drop_left, Nat.add_sub_cancel_left, List.take_left]
  have at_w : ∀ x, p.length ≤ x → x < p.length + w.length → (p ++ (w ++ t))[x]? = w[x - p.length]? := fun x h1 h2 => by
    rw [List.getElem?_append_right h1, List.getElem?_append_left (by omega)]
  obtain ⟨c, hc⟩ : ∃ c, w[0]? = some c := ⟨_, List.getElem?_eq_getElem wl⟩
  have run : Run (p ++ (w ++ t)) p.length (p.length + w.length) := by
    refine ⟨by omega, by rw [List.length_append, List.length_append]; omega, fun x h1 h2 => ?_, fun c hc => ?_⟩
    · have hx : x - p.length < w.length := by omega
      exact ⟨_, by rw [at_w x h1 h2]; exact List.getElem?_eq_getElem hx, ha _ (List.getElem_mem hx)⟩
    · rw [List.getElem?_append_right (by omega), Nat.add_sub_cancel_left, List.getElem?_append_right (Nat.le_refl _), Nat.sub_self] at hc
      exact hn c hc
  have tk := Tkz.word (t := p ++ (w ++ t)) (a := p.length) (j := p.length + w.length) (c := c) (by rw [at_w _ (Nat.le_refl _) (by omega), Nat.sub_self]; exact hc) (al_plain (ha c (List.mem_of_getElem? hc))) run (by omega) (by rw [cut]; exact hk) k
  rw [cut] at tk
  exact ⟨_, by rw [← e]; rfl, tk⟩
theorem str_tl (z : Str) : (⟨(TL.tl z).toArray⟩ : Str) = z := TL.ext_tl rfl
/-- a name -/
theorem name_al {x : Str} (h : isName x = true) : TL.tl x ≠ [] ∧ (∀ c ∈ TL.tl x, al c = true) ∧ kindOf x = "name" := by
  unfold isName at h
  cases e : x.cps.toList with
  | nil => rw [e] at h; cases h
  | cons c r =>
    rw [e] at h
    simp only [Bool.and_eq_true, decide_eq_true_eq, Bool.not_eq_true'] at h
    obtain ⟨⟨h1, h2⟩, h3⟩ := h
    refine ⟨by rw [show TL.tl x = c :: r from e]; simp, fun d hd => ?_, ?_⟩
    · rw [show TL.tl x = c :: r from e] at hd
      exact List.all_eq_true.mp h2 d hd
    · unfold kindOf
      rw [h3, if_neg (by decide), e]
      simp only
      rw [if_pos h1]
theorem tks_name {x : Str} {t : List Nat} {sh : SH} (hx : isName x = true) (hn : NoAl t) (h : Tks t sh) : Tks (TL.tl x ++ t) (("name", x) :: sh) := by
  obtain ⟨h1, h2, h3⟩ := name_al hx
  have := Tks.word h1 h2 (by rw [str_tl, h3]; decide +kernel) hn h
  rw [str_tl, h3] at this
  exact this
/-- a number -/
theorem numL_zero (n : Nat) : ∀ c r, TL.numL n = c :: r → c = 48 → n = 0 := by
  induction n using Nat.strongRecOn with
  | ind n ih =>
    intro c r e h
    by_cases h1 : n < 10
    · rw [TL.numL_lt h1] at e
      injection e with e _
      omega
    · rw [TL.numL_step (by omega)] at e
      cases q : TL.numL (n / 10) with
      | nil => exact absurd q (TL.numL_ne _)
      | cons d s =>
        rw [q] at e
        injection e with e _
        have := ih (n / 10) (by omega) d s q (by rw [e]; exact h)
        omega
theorem dig_mem : ∀ k : Fin 10, 48 + k.val ∈ DIG.cps.toList ∧ 48 + k.val ∉ LET.cps.toList := by decide +kernel
theorem num_kind (n : Nat) : TL.tl (numS n) ≠ [] ∧ (∀ c ∈ TL.tl (numS n), al c = true) ∧ kindOf (numS n) = "number" := by
  have e : TL.tl (numS n) = TL.numL n := TL.tl_num n
  have dg' : ∀ c ∈ TL.numL n, c ∈ DIG.cps.toList ∧ c ∉ LET.cps.toList := fun c hc => by
    have := TL.numL_digits n c hc
    have q := dig_mem ⟨c - 48, by omega⟩
    have e : 48 + (c - 48) = c := by omega
    rw [show (48 + (⟨c - 48, by omega⟩ : _root_.Fin 10).val) = c from e] at q
    exact q
  refine ⟨by rw [e]; exact TL.numL_ne n, fun c hc => ?_, ?_⟩
  · rw [e] at hc
    unfold al
    rw [decide_eq_true (dg' c hc).1, Bool.or_true]
  · have nk : inV (.str (numS n)) (KWS.map V.str) = false := by
      cases q : inV (.str (numS n)) (KWS.map V.str) with
      | false => rfl
      | true =>
        unfold inV at q
        obtain ⟨v, hv, q⟩ := List.any_eq_true.mp q
        obtain ⟨k, hk, rfl⟩ := List.mem_map.mp hv
        have q : k = numS n := by
          have q : (k == numS n) = true := q
          simpa using q
        obtain ⟨x, hx⟩ := List.exists_mem_of_ne_nil _ (TL.numL_ne n)
        exact absurd (kws_let k hk x (by rw [q]; show x ∈ TL.tl (numS n); rw [e]; exact hx)) (dg' x hx).2
    unfold kindOf
    rw [nk, if_neg (by decide), show (numS n).cps.toList = TL.numL n from e]
    cases q : TL.numL n with
    | nil => exact absurd q (TL.numL_ne n)
    | cons c r =>
      rw [q] at dg'
      simp only
      rw [if_neg (dg' c List.mem_cons_self).2, if_neg, if_neg]
      · rintro ⟨h1, h2⟩
        have z := numL_zero n c r q h1
        subst z
        rw [TL.numL_lt (by decide)] at q
        injection q with _ q
        rw [← q] at h2
        exact absurd h2 (by show ¬ 1 < 1; decide)
      · rw [Bool.not_eq_false, List.all_eq_true]
        intro d hd
        unfold dg
        rw [decide_eq_true (dg' d hd).1]
theorem tks_num {n : Nat} {t : List Nat} {sh : SH} (hn : NoAl t) (h : Tks t sh) : Tks (TL.tl (numS n) ++ t) (("number", numS n) :: sh) := by
  obtain ⟨h1, h2, h3⟩ := num_kind n
  have := Tks.word h1 h2 (by rw [str_tl, h3]; decide +kernel) hn h
  rw [str_tl, h3] at this
  exact this
theorem noAl_gap {t : List Nat} : NoAl (32 :: t) := fun c h => by cases h; decide +kernel
theorem noAl_nil : NoAl [] := fun c h => by cases h
/-! the reading of those tokens -/
theorem sh_at {ts : List TK} {i : Nat} {x : Str × Str} {rest : SH} (h : (shOf ts).drop i = x :: rest) : (∃ a, ts[i]? = some ((x.1, x.2, a) : TK)) ∧ (shOf ts).drop (i + 1) = rest := by
  have h0 : (shOf ts)[i]? = some x := by
    have := congrArg (fun l : SH => l[0]?) h
    simp only [List.getElem?_drop] at this
    exact this
  refine ⟨?_, ?_⟩
  · unfold shOf at h0
    rw [List.getElem?_map] at h0
    cases e : ts[i]? with
    | none => rw [e] at h0; cases h0
    | some tk =>
      rw [e] at h0
      have h0 : (tk.1, tk.2.1) = x := Option.some.inj h0
      exact ⟨tk.2.2, by rw [← h0]⟩
  · rw [← List.drop_drop, h]
    rfl
theorem mark_ne {k wd z : Str} {a : Nat} (h : k ≠ "mark") : isMark ((k, z, a) : TK) wd = false := by
  unfold isMark
  rw [decide_eq_false h]
  rfl
theorem mark_no {wd z : Str} {a : Nat} (h : z ≠ wd) : isMark (("mark", z, a) : TK) wd = false := by
  unfold isMark
  rw [decide_eq_false h, Bool.and_false]
theorem mark_yes {z : Str} {a : Nat} : isMark (("mark", z, a) : TK) z = true := by
  unfold isMark
  rw [decide_eq_true rfl, decide_eq_true rfl]
  rfl
theorem num_len {n : Nat} (h : n < 10 ^ 12) : (numS n).length ≤ 12 := by
  rw [TL.len_tl, show TL.tl (numS n) = TL.numL n from TL.tl_num n]
  exact TL.numL_len (by decide) h
theorem num_int {n : Nat} (h : n < 10 ^ 12) : PySem.intText? (numS n) = some (n : Int) := by
  have := TL.numL_len (k := 12) (by decide) h
  exact TL.int_num (by omega)
theorem plus_mk : (⟨#[43]⟩ : Str) = "+" := by decide +kernel
theorem minus_mk : (⟨#[45]⟩ : Str) = "-" := by decide +kernel
theorem end_mark (z : Str) (a : Nat) (wd : Str) : isMark (("end", z, a) : TK) wd = false := by
  unfold isMark
  rw [decide_eq_false (by show ¬ (("end" : Str) = "mark"); decide +kernel)]
  rfl
theorem name_ne {x : Str} (h : isName x = true) : x ≠ "" := fun z => by
  have := (name_al h).1
  rw [z] at this
  exact this (by decide +kernel)

/-! ### match over statements; parts_of, size_of, numbered, .. -/
section
variable {K : PySem.W.Frag} {D : Ends} {σ : L2.St} {H : Hp} {a : Addr} {xs : List V} {tb : TS} {tr : TCs} {n : Nat} {z : Str} {ts : TPats}
theorem case_len (h : SqT K H a xs) (hl : xs.length ≠ n) (k : tr (.ref a) D σ H) : tCsC (mSeq K n ts) tb tr (.ref a) D σ H :=
  ⟨a, xs, rfl, h, by rw [if_neg hl]; exact k⟩
theorem case_word {w : Str} (h : SqT K H a (.str w :: xs)) (hl : xs.length + 1 = n) (hw : w ≠ z) (k : tr (.ref a) D σ H) : tCsC (mSeq K n (mCons (mStr z) ts)) tb tr (.ref a) D σ H := by
  refine ⟨a, _, rfl, h, ?_⟩
  rw [if_pos (show (V.str w :: xs).length = n from hl)]
  refine ⟨_, _, rfl, rfl, ?_⟩
  rw [if_neg (fun e => hw (V.str.inj e))]
  exact k
theorem case_hit (h : SqT K H a (.str z :: xs)) (hl : xs.length + 1 = n) (k : ts xs H fun b H2 => match b with
    | none => tr (.ref a) D σ H2
    | some bs => tb D (setAll σ bs) H2) : tCsC (mSeq K n (mCons (mStr z) ts)) tb tr (.ref a) D σ H := by
  refine ⟨a, _, rfl, h, ?_⟩
  rw [if_pos (show (V.str z :: xs).length = n from hl)]
  refine ⟨_, _, rfl, rfl, ?_⟩
  rw [if_pos rfl]
  refine (?_ : ts xs H _)
  have e : (fun (b2 : Option BS) (H2 : Hp) => match b2 with
      | none => (match (none : Option BS) with
        | none => tr (.ref a) D σ H2
        | some bs => tb D (setAll σ bs) H2)
      | some more => (match some ([] ++ more) with
        | none => tr (.ref a) D σ H2
        | some bs => tb D (setAll σ bs) H2)) = fun b H2 => match b with
    | none => tr (.ref a) D σ H2
    | some bs => tb D (setAll σ bs) H2 := by
    funext b H2
    cases b <;> rfl
  have k2 := k
  rw [← e] at k2
  exact k2
end
def wordS : St → Str
  | .set _ _ => "set" | .input _ => "input" | .call _ _ _ => "call" | .risk _ => "risk" | .raise _ => "raise" | .ret _ => "return"
  | .ite _ _ => "if" | .whl _ => "while" | .try_ _ _ _ => "try" | .undo _ _ => "undo" | .with_ _ _ _ _ => "with"
def restS : St → List PyData
  | .set t e => [.str t, exD e]
  | .input t => [.str t]
  | .call t f as => [optD t, .str f, .tuple (as.map argD)]
  | .risk ks => [nmD ks]
  | .raise k => [.str k]
  | .ret e => [exD e]
  | .ite a b => [blD a, blD b]
  | .whl b => [blD b]
  | .try_ b hs f => [blD b, .tuple (hdsD hs), blD f]
  | .undo ns b => [nmD ns, blD b]
  | .with_ e l ks b => [calD e, calD l, nmD ks, blD b]
theorem stD_eq (s : St) : stD s = .tuple (.str (wordS s) :: restS s) := by cases s <;> rfl
theorem stInv {K : PySem.W.Frag} {H : Hp} {v : V} {s : St} (h : Dp K H v (stD s)) : ∃ a xs, v = .ref a ∧ SqT K H a (.str (wordS s) :: xs) ∧ DpAll K H xs (restS s) := by
  rw [stD_eq] at h
  obtain ⟨a, xs, rfl, h1, h2⟩ := h.tupInv
  obtain ⟨x, r, rfl, h3, h4⟩ := DpAll.consInv h2
  rw [h3.strInv] at h1
  exact ⟨a, r, rfl, h1, h4⟩
/-- few handlers -/
def fewH : St → Prop
  | .try_ _ hs _ => hs.length ≤ 900
  | _ => True
/-! ### size_of, numbered, numbered_parts, all_numbered -/
def okN1 (n : Str) : Prop := isName n = true ∧ n.length ≤ 100
def okNs (ns : List Str) : Prop := ns.length ≤ 900 ∧ ∀ n ∈ ns, okN1 n
def okEx (e : Ex) : Prop := e.ts.length ≤ 900 ∧ (∀ p ∈ e.ts, okN1 p.1 ∧ p.2 ≠ 0) ∧ ∀ (i : Nat) (a b : Str × Int), e.ts[i]? = some a → e.ts[i + 1]? = some b → a.1.cps.toList < b.1.cps.toList
def okArg : Arg → Prop
  | .place n => okN1 n
  | .value e => okEx e
def okAs (as : List Arg) : Prop := as.length ≤ 900 ∧ ∀ a ∈ as, okArg a
def okCal (c : Cal) : Prop := okN1 c.1 ∧ okAs c.2
mutual
def okS : St → Prop
  | .set t e => okN1 t ∧ okEx e
  | .input t => okN1 t
  | .call t f as => (∀ x, t = some x → okN1 x) ∧ okN1 f ∧ okAs as
  | .risk ks => ks ≠ [] ∧ okNs ks
  | .raise k => okN1 k
  | .ret e => okEx e
  | .ite a b => (a.length ≤ 900 ∧ okL a) ∧ (b.length ≤ 900 ∧ okL b)
  | .whl b => b.length ≤ 900 ∧ okL b
  | .try_ b hs f => (b.length ≤ 900 ∧ okL b) ∧ (hs.length ≤ 900 ∧ okHs hs) ∧ (f.length ≤ 900 ∧ okL f)
  | .undo ns b => (ns ≠ [] ∧ okNs ns) ∧ (b.length ≤ 900 ∧ okL b)
  | .with_ e l ks b => (okCal e ∧ okCal l ∧ okNs ks) ∧ (b.length ≤ 900 ∧ okL b)
def okL : List St → Prop
  | [] => True
  | s :: r => okS s ∧ okL r
def okH : Hd → Prop
  | .mk ks b => (ks ≠ [] ∧ okNs ks) ∧ (b.length ≤ 900 ∧ okL b)
def okHs : List Hd → Prop
  | [] => True
  | h :: r => okH h ∧ okHs r
end
def okB (b : List St) : Prop := b.length ≤ 900 ∧ okL b
theorem okL_mem : ∀ {b : List St}, okL b → ∀ {s : St}, s ∈ b → okS s
  | x :: r, h, s, hs => by
    have h : okS x ∧ okL r := h
    rcases List.mem_cons.mp hs with z | z
    · rw [z]; exact h.1
    · exact okL_mem h.2 z
theorem okHs_mem : ∀ {hs : List Hd}, okHs hs → ∀ {x : Hd}, x ∈ hs → okH x
  | y :: r, h, x, hx => by
    have h : okH y ∧ okHs r := h
    rcases List.mem_cons.mp hx with z | z
    · rw [z]; exact h.1
    · exact okHs_mem h.2 z
theorem okS_few {s : St} (h : okS s) : fewH s := by
  cases s with
  | try_ b hs f =>
    have h : (b.length ≤ 900 ∧ okL b) ∧ (hs.length ≤ 900 ∧ okHs hs) ∧ (f.length ≤ 900 ∧ okL f) := h
    exact h.2.1.1
  | _ => trivial
theorem okS_parts {s : St} (h : okS s) {p : List St} (hp : p ∈ parts s) : okB p := by
  cases s with
  | ite a b =>
    have h : (a.length ≤ 900 ∧ okL a) ∧ (b.length ≤ 900 ∧ okL b) := h
    simp only [parts, List.mem_cons, List.not_mem_nil, or_false] at hp
    rcases hp with rfl | rfl
    · exact h.1
    · exact h.2
  | whl b =>
    have h : b.length ≤ 900 ∧ okL b := h
    simp only [parts, List.mem_cons, List.not_mem_nil, or_false] at hp; subst hp; exact h
  | undo ns b =>
    have h : (ns ≠ [] ∧ okNs ns) ∧ (b.length ≤ 900 ∧ okL b) := h
    simp only [parts, List.mem_cons, List.not_mem_nil, or_false] at hp; subst hp; exact h.2
  | with_ e l ks b =>
    have h : (okCal e ∧ okCal l ∧ okNs ks) ∧ (b.length ≤ 900 ∧ okL b) := h
    simp only [parts, List.mem_cons, List.not_mem_nil, or_false] at hp; subst hp; exact h.2
  | try_ b hs f =>
    have h : (b.length ≤ 900 ∧ okL b) ∧ (hs.length ≤ 900 ∧ okHs hs) ∧ (f.length ≤ 900 ∧ okL f) := h
    rcases List.mem_cons.mp hp with z | z
    · rw [z]; exact h.1
    · rcases List.mem_append.mp z with z | z
      · obtain ⟨x, hx, rfl⟩ := List.mem_map.mp z
        have k := okHs_mem h.2.1.2 hx
        cases x with
        | mk ks c =>
          have k : (ks ≠ [] ∧ okNs ks) ∧ (c.length ≤ 900 ∧ okL c) := k
          exact k.2
      · rw [List.mem_singleton.mp z]; exact h.2.2
  | _ => simp [parts] at hp
theorem parts_len {s : St} (h : okS s) : (parts s).length ≤ 902 := by
  cases s with
  | try_ b hs f =>
    have h := okS_few h
    have h : hs.length ≤ 900 := h
    show (b :: (hs.map Hd.b ++ [f])).length ≤ _
    rw [List.length_cons, List.length_append, List.length_map]
    show hs.length + 1 + 1 ≤ 902
    omega
  | ite a b => show 2 ≤ 902; omega
  | whl b => show 1 ≤ 902; omega
  | undo _ b => show 1 ≤ 902; omega
  | with_ _ _ _ b => show 1 ≤ 902; omega
  | _ => exact Nat.zero_le _
theorem szB_take : ∀ {b : List St} {i : Nat} {s : St}, b[i]? = some s → szB (b.take (i + 1)) = szB (b.take i) + (1 + szS s)
  | x :: r, 0, s, h => by simp at h; subst h; show 1 + szS x + 0 = 0 + _; omega
  | x :: r, i + 1, s, h => by
    have ih := szB_take (b := r) (i := i) (s := s) (by simpa using h)
    show 1 + szS x + szB (r.take (i + 1)) = 1 + szS x + szB (r.take i) + _
    omega
theorem no_dp {b : List St} (h : dpB b ≤ 0) : False := by
  have := dpB_eq b
  omega
/-! ### tuples that stay -/
def Tps (H H' : Hp) : Prop := (∀ a xs, H a = some (.tup xs) → H' a = some (.tup xs)) ∧ ∀ a o xs, H a = some (.frz o (.tup xs)) → H' a = some (.frz o (.tup xs))
theorem Tps.of {H H' : Hp} (s : Same H H') : Tps H H' := ⟨fun a xs e => s _ _ e, fun a o xs e => s _ _ e⟩
theorem Tps.refl {H : Hp} : Tps H H := ⟨fun _ _ e => e, fun _ _ _ e => e⟩
theorem Tps.trans {H H1 H2 : Hp} (a : Tps H H1) (b : Tps H1 H2) : Tps H H2 := ⟨fun x xs e => b.1 _ _ (a.1 _ _ e), fun x o xs e => b.2 _ _ _ (a.2 _ _ _ e)⟩
theorem Tps.lst {H : Hp} {q : Addr} {zs : List V} {o : HO} (h : H q = some (.lst zs)) : Tps H (upd H q o) :=
  ⟨fun a xs e => by rw [upd_ne (ne_of e h (by intro z; cases z))]; exact e, fun a o xs e => by rw [upd_ne (ne_of e h (by intro z; cases z))]; exact e⟩
theorem Tps.dk {H : Hp} {q : Addr} {zs : List (Key × V)} {o : HO} (h : H q = some (.dK zs)) : Tps H (upd H q o) :=
  ⟨fun a xs e => by rw [upd_ne (ne_of e h (by intro z; cases z))]; exact e, fun a o xs e => by rw [upd_ne (ne_of e h (by intro z; cases z))]; exact e⟩
theorem Tps.ins {H : Hp} {q c dx : Addr} {fs : List (Str × V)} {o : HO} (h : H q = some (.ins c dx fs)) : Tps H (upd H q o) :=
  ⟨fun a xs e => by rw [upd_ne (ne_of e h (by intro z; cases z))]; exact e, fun a o xs e => by rw [upd_ne (ne_of e h (by intro z; cases z))]; exact e⟩
theorem Tps.sqt {K : PySem.W.Frag} {H H' : Hp} (t : Tps H H') {a : Addr} {xs : List V} (h : SqT K H a xs) : SqT K H' a xs :=
  h.elim (fun h => .inl (h.elim (fun h => .inl (t.1 _ _ h)) fun ⟨o, h⟩ => .inr ⟨o, t.2 _ _ _ h⟩)) fun h => .inr h
mutual
/-- no list, no dict within -/
def noL : PyData → Bool
  | .tuple ds => noLs ds
  | .none => true | .bool _ => true | .int _ => true | .str _ => true
  | _ => false
def noLs : List PyData → Bool
  | [] => true
  | d :: r => noL d && noLs r
end
end Aon
namespace L2
open PySem Aon
mutual
theorem Dp.tps {K : PySem.W.Frag} {H H' : Hp} (t : Tps H H') {v : V} {d : PyData} (h : Dp K H v d) (n : noL d = true) : Dp K H' v d :=
  match h with
  | .non => .non
  | .bl b => .bl b
  | .int i => .int i
  | .str x => .str x
  | .lst _ _ => by simp [noL] at n
  | .tup a b => .tup (t.sqt a) (DpAll.tps t b (by simpa [noL] using n))
theorem DpAll.tps {K : PySem.W.Frag} {H H' : Hp} (t : Tps H H') {vs : List V} {ds : List PyData} (h : DpAll K H vs ds) (n : noLs ds = true) : DpAll K H' vs ds :=
  match h with
  | .nil => .nil
  | .cons a b => by
    simp only [noLs, Bool.and_eq_true] at n
    exact .cons (Dp.tps t a n.1) (DpAll.tps t b n.2)
end
end L2
namespace Aon
open PySem L2
theorem noLs_all : ∀ {ds : List PyData}, (∀ d ∈ ds, noL d = true) → noLs ds = true
  | [], _ => rfl
  | d :: r, h => by
    simp only [noLs, Bool.and_eq_true]
    exact ⟨h d List.mem_cons_self, noLs_all fun x hx => h x (List.mem_cons_of_mem _ hx)⟩
theorem noLs_map {α : Type} {f : α → PyData} (h : ∀ x, noL (f x) = true) (l : List α) : noLs (l.map f) = true := noLs_all fun d hd => by
  obtain ⟨x, _, rfl⟩ := List.mem_map.mp hd
  exact h x
theorem noL_ex (e : Ex) : noL (exD e) = true := by
  simp only [exD, noL, noLs, Bool.true_and, Bool.and_true]
  exact noLs_map (fun _ => rfl) _
theorem noL_nm (ns : List Str) : noL (nmD ns) = true := noLs_map (fun _ => rfl) ns
theorem noL_arg : ∀ a, noL (argD a) = true
  | .place n => rfl
  | .value e => by simp only [argD, noL, noLs, noL_ex]; rfl
theorem noL_cal (c : Cal) : noL (calD c) = true := by
  simp only [calD, noL, noLs, Bool.true_and, Bool.and_true]
  exact noLs_map noL_arg _
mutual
theorem noL_st : ∀ s : St, noL (stD s) = true
  | .set t e => by simp only [stD, noL, noLs, noL_ex, Bool.and_true]
  | .input t => rfl
  | .call t f as => by
    have h : noL (optD t) = true := by cases t <;> rfl
    simp only [stD, noL, noLs, h, noLs_map noL_arg, Bool.and_true]
  | .risk ks => by simp only [stD, noL, noLs, noL_nm, Bool.and_true]
  | .raise k => rfl
  | .ret e => by simp only [stD, noL, noLs, noL_ex, Bool.and_true]
  | .ite a b => by simp only [stD, noL, noLs, noL_sts a, noL_sts b, Bool.and_true]
  | .whl b => by simp only [stD, noL, noLs, noL_sts b, Bool.and_true]
  | .try_ b hs f => by simp only [stD, noL, noLs, noL_sts b, noL_hds hs, noL_sts f, Bool.and_true]
  | .undo ns b => by simp only [stD, noL, noLs, noL_nm, noL_sts b, Bool.and_true]
  | .with_ e l ks b => by simp only [stD, noL, noLs, noL_cal, noL_nm, noL_sts b, Bool.and_true]
theorem noL_sts : ∀ b : List St, noLs (stsD b) = true
  | [] => rfl
  | s :: r => by simp only [stsD, noLs, noL_st s, noL_sts r, Bool.and_true]
theorem noL_hd : ∀ h : Hd, noL (hdD h) = true
  | .mk ks b => by simp only [hdD, noL, noLs, noL_nm, noL_sts b, Bool.and_true]
theorem noL_hds : ∀ hs : List Hd, noLs (hdsD hs) = true
  | [] => rfl
  | h :: r => by simp only [hdsD, noLs, noL_hd h, noL_hds r, Bool.and_true]
end
theorem noL_bl (b : List St) : noL (blD b) = true := by simp only [blD, noL]; exact noL_sts b
theorem szS_mem : ∀ {b : List St} {s : St}, s ∈ b → szS s ≤ szB b
  | x :: r, s, h => by
    show _ ≤ 1 + szS x + szB r
    rcases List.mem_cons.mp h with z | z
    · rw [z]; omega
    · have := szS_mem z; omega
theorem szB_part {s : St} {p : List St} (h : p ∈ parts s) : szB p ≤ szS s := by
  rw [← sz_parts s]
  generalize parts s = l at h
  induction l with
  | nil => cases h
  | cons x r ih =>
    rw [List.map_cons, List.sum_cons]
    rcases List.mem_cons.mp h with z | z
    · rw [z]; omega
    · have := ih z; omega
theorem inj_of_nodup {α β : Type} {f : α → β} : ∀ {l : List α}, (l.map f).Nodup → ∀ {x y : α}, x ∈ l → y ∈ l → f x = f y → x = y
  | a :: r, h, x, y, hx, hy, e => by
    rw [List.map_cons, List.nodup_cons] at h
    rcases List.mem_cons.mp hx with h1 | h1
    · rcases List.mem_cons.mp hy with h2 | h2
      · rw [h1, h2]
      · exact absurd (List.mem_map.mpr ⟨y, h2, by rw [← e, h1]⟩) h.1
    · rcases List.mem_cons.mp hy with h2 | h2
      · exact absurd (List.mem_map.mpr ⟨x, h1, by rw [e, h2]⟩) h.1
      · exact inj_of_nodup h.2 h1 h2 e

structure Fn where
  name : Str
  ps : List (Str × Bool)
  b : List St
structure Tr where
  names : List Str
  kinds : List Str
  keeps : List Ex
  fns : List Fn
def prD (p : Str × Bool) : PyData := .tuple [.str p.1, .bool p.2]
def fnD (f : Fn) : PyData := .tuple [.str f.name, .tuple (f.ps.map prD), blD f.b]
def trD (t : Tr) : PyData := .tuple [nmD t.names, nmD t.kinds, .tuple (t.keeps.map exD), .tuple (t.fns.map fnD)]
def okFn (n : Nat) (f : Fn) : Prop := okN1 f.name ∧ (f.ps.length ≤ 900 ∧ ∀ p ∈ f.ps, okN1 p.1) ∧ okB f.b ∧ dpB f.b ≤ n ∧ dpB f.b ≤ 30
def okTr (n : Nat) (t : Tr) : Prop := okNs t.names ∧ okNs t.kinds ∧ (t.keeps.length ≤ 900 ∧ ∀ e ∈ t.keeps, okEx e ∧ e.c = 0) ∧ t.fns.length ≤ 900 ∧ ∀ f ∈ t.fns, okFn n f
theorem Dp.blInv {K : PySem.W.Frag} {H : Hp} {v : V} {z : Bool} (h : Dp K H v (.bool z)) : v = .bl z := by cases h; rfl
def prs (f : Fn) : List Str := f.ps.map Prod.fst
theorem noL_pr (p : Str × Bool) : noL (prD p) = true := rfl
theorem noL_fn (f : Fn) : noL (fnD f) = true := by
  simp only [fnD, noL, noLs, noL_bl, Bool.true_and, Bool.and_true]
  exact noLs_map noL_pr _
theorem noL_tr (t : Tr) : noL (trD t) = true := by
  simp only [trD, noL, noLs, noL_nm, Bool.true_and, Bool.and_true]
  rw [noLs_map noL_ex, noLs_map noL_fn]
  rfl
def isPl : Arg → Bool
  | .place _ => true
  | _ => false

/-! ### the law's drawn programs: expressions, args, calls -/
abbrev sLEx : Stmt := topS 34
abbrev NLEx : List Str := ["_law_pool_here", "_law_names_here", "_law_great", "_law_terms", "_law_name", "_law_factor"]
abbrev PLEx : List Str := ["_law_pool_here", "_law_names_here", "_law_great"]
theorem scLEx : FnScope NLEx PLEx (defScope sLEx) := ⟨rfl, rfl, rfl, by decide +kernel, rfl, by decide +kernel, by decide +kernel⟩
structure TxGen (mg : Str → Option Value) : Prop where
  n_sorted : mg "sorted" = none
  n_tuple : mg "tuple" = none
  n_range : mg "range" = none
  n_len : mg "len" = none
theorem nl_tr {a b c : List Nat} (h1 : ¬ b < a) (h2 : ¬ c < b) : ¬ c < a := fun h => (List.le_trans (α := Nat) h1 h2) h
theorem rise_pw : ∀ (l : List Str) (p : Str), PyProof.Rows.risingS p l = true → (p :: l).Pairwise fun a b => ¬ b.cps.toList < a.cps.toList
  | [], p, _ => List.pairwise_singleton _ _
  | x :: r, p, h => by
    have h : (!PySem.Spec.ltCps x.cps.toList p.cps.toList && PyProof.Rows.risingS x r) = true := h
    rw [Bool.and_eq_true, Bool.not_eq_true', PyProof.Rows.ltCps_eq, decide_eq_false_iff_not] at h
    have ih := rise_pw r x h.2
    refine List.pairwise_cons.mpr ⟨fun y hy => ?_, ih⟩
    rcases List.mem_cons.mp hy with rfl | hy
    · exact h.1
    · exact nl_tr h.1 ((List.pairwise_cons.mp ih).1 y hy)
def asc (a b : Str) : Prop := a.cps.toList < b.cps.toList
theorem sort_asc {l : List Str} (h : PyProof.Rows.sortedS l = true) (nd : l.Nodup) : l.Pairwise asc := by
  have pw : l.Pairwise fun a b => ¬ b.cps.toList < a.cps.toList := by
    cases l with
    | nil => exact .nil
    | cons x r => exact rise_pw r x h
  refine (List.Pairwise.and pw nd).imp fun {a b} ⟨h1, h2⟩ => ?_
  unfold asc
  rcases Classical.em (a.cps.toList < b.cps.toList) with z | z
  · exact z
  · exact absurd (TL.ext_tl (List.le_antisymm (α := Nat) h1 z)) h2
/-- an expression over some names, with small numbers -/
structure EX (own : List Str) (e : Ex) : Prop where
  c : -3 ≤ e.c ∧ e.c ≤ 3
  nm : ∀ p ∈ e.ts, p.1 ∈ own ∧ p.2 ≠ 0 ∧ -4 ≤ p.2 ∧ p.2 ≤ 4
  up : (e.ts.map Prod.fst).Pairwise asc
  ln : e.ts.length ≤ own.length
theorem But.tps {p c : Addr} {H H' : Hp} {lim : V} {n : Nat} (b : But p c H H') (P0 : PoolAt H p c lim n) : Tps H H' := by
  obtain ⟨i, cs, cn, sd, md, e1, e2, _⟩ := P0
  exact ⟨fun a xs e => b _ _ e (ne_of e e1 (by intro z; cases z)) (ne_of e e2 (by intro z; cases z)), fun a o xs e => b _ _ e (ne_of e e1 (by intro z; cases z)) (ne_of e e2 (by intro z; cases z))⟩
theorem But.of {p c : Addr} {H H' : Hp} (s : Same H H') : But p c H H' := fun b o e _ _ => s b o e
def spLEx (K : PySem.W.Frag) : Sp := fun vs H Q _ => ∃ (p c nl : Addr) (lim : V) (n : Nat) (own : List Str), vs = [.ref p, .ref nl, .int 4] ∧ PoolAt H p c lim n ∧ n + 100 < 1000000000000 ∧ H nl = some (.lst (own.map V.str)) ∧ nl ≠ p ∧ nl ≠ c ∧ own.Nodup ∧ own.length < 60 ∧
  ∀ (v : V) (e : Ex) (H' : Hp), EX own e → Dp K H' v (exD e) → PoolAt H' p c lim (n + own.length + 1) → But p c H H' → Q v H'
section
variable {P : Program} {w : World} {K : PySem.W.Frag} {mg : Str → Option Value} {base : Heap}
theorem fac_in {r : Int} (r0 : 0 ≤ r) (r1 : r < 7) : ∃ f : Int, atI [V.int 0, V.int 0, V.int 1, V.int (-1), V.int 2, V.int (-3), V.int 4] r = some (V.int f) ∧ -4 ≤ f ∧ f ≤ 4 := by
  have : r = 0 ∨ r = 1 ∨ r = 2 ∨ r = 3 ∨ r = 4 ∨ r = 5 ∨ r = 6 := by omega
  rcases this with rfl | rfl | rfl | rfl | rfl | rfl | rfl
  · exact ⟨0, rfl, by decide, by decide⟩
  · exact ⟨0, rfl, by decide, by decide⟩
  · exact ⟨1, rfl, by decide, by decide⟩
  · exact ⟨-1, rfl, by decide, by decide⟩
  · exact ⟨2, rfl, by decide, by decide⟩
  · exact ⟨-3, rfl, by decide, by decide⟩
  · exact ⟨4, rfl, by decide, by decide⟩
theorem ok_LEx {f : Addr} {fd : FuncData} (F : Fun K "_law_expression" "_law_expression" sLEx f fd) (T : TxGen mg) (GD : Has P w K mg base CX0 2 "_law_draw" PDraw spDraw) : FnOk P w K mg base CX0 3 f fd PLEx (spLEx K) := by
  refine F.ok scLEx (fun vs H Q E h => ?_) (fun cdv A outer s H vs Q E hr h => ?_)
  · obtain ⟨p, c, nl, lim, n, own, rfl, _⟩ := h
    rfl
  · obtain ⟨p, c, nl, lim, n, own, rfl, P0, hn, hnl, np, nc, nd, l60, k⟩ := h
    refine ⟨_, (pss_cons (ps_set (i := 3) scLEx.nd rfl (Or.inl rfl) (pe_lst pa_nil))
  (pss_cons (ps_for PassesOwn.never rfl (pi_list (pe_callB cr_sortedS (by rfl) T.n_sorted bb_sorted (pa_cons (pv 1) pa_nil))) (pg_name (i := 4) scLEx.nd rfl (Or.inl rfl))
  (pss_cons (ps_set (i := 5) scLEx.nd rfl (Or.inl rfl) (pe_ix (r := rIxL K) ix_list (pe_lst (pa_cons pe_int (pa_cons pe_int (pa_cons pe_int (pa_cons (pe_un un_neg pe_int) (pa_cons pe_int (pa_cons (pe_un un_neg pe_int) (pa_cons (pv 2) pa_nil)))))))) (pe_callH GD hr rfl pass0 (pa_cons (pv 0) (pa_cons pe_int pa_nil))) (fun _ _ => rfl)))
  (pss_one (ps_if (pt_cmpR op_ne (pv 5) pe_int (nomark _))
  (pss_one (ps_expr (pe_bm PySem.F.plainAttrs_list PySem.F.slot_list_append PySem.F.type_list_append mt_append (pv 3) (pa_cons (pe_tup (pa_cons (pv 4) (pa_cons (pv 5) pa_nil))) pa_nil))))
  pss_nil))))
  (pss_one (ps_ret (pe_tup (pa_cons (pe_op op_sub (pe_callH GD hr rfl pass0 (pa_cons (pv 0) (pa_cons pe_int pa_nil))) pe_int) (pa_cons (pe_callTy call_tuple_of (by rfl) T.n_tuple bb_tuple (pa_cons (pv 3) pa_nil)) pa_nil))))))), ?_⟩
    refine ⟨(by show 0 ≤ sizeLine; decide), fun q hq => ?_⟩
    have s1 := same_new (o := .lst []) hq
    have P1 := P0.same s1
    have qp := P0.ne1 hq
    have qc := P0.ne2 hq
    refine ⟨_, rfl, nl, own, rfl, SqL.of (s1 _ _ hnl), by omega, fun ys L perm srt hL => ?_⟩
    have Lp := P1.ne1 hL
    have Lc := P1.ne2 hL
    have s2 := same_new (o := .lst (ys.map V.str)) hL
    have qL : q ≠ L := ne_of_none upd_same hL
    have ly : ys.length = own.length := perm.length_eq
    have as := sort_asc srt (perm.nodup_iff.mpr nd)
    have L2 : upd (upd H q (.lst [])) L (.lst (ys.map V.str)) L = some (.lst (ys.map V.str)) := upd_same
    have q2 : upd (upd H q (.lst [])) L (.lst (ys.map V.str)) q = some (.lst []) := s2 _ _ upd_same
    refine ⟨L, rfl, ⟨_, SqL.of L2⟩, ?_⟩
    refine for_list (K := K) (a := L) (xs := ys.map V.str) (fun j σ H' => (∃ x4 x5 : Option V, σ = [some (.ref p), some (.ref nl), some (.int 4), some (.ref q), x4, x5]) ∧ PoolAt H' p c lim (n + j) ∧ But p c H H' ∧ H' L = some (.lst (ys.map V.str)) ∧ ∃ (us : List V) (es : List (Str × Int)), H' q = some (.lst us) ∧ us.length ≤ j ∧ Paired (fun x pr => Dp K H' x (.tuple [.str pr.1, .int pr.2])) us es ∧ (∀ pr ∈ es, pr.2 ≠ 0 ∧ -4 ≤ pr.2 ∧ pr.2 ≤ 4) ∧ (es.map Prod.fst).Sublist (ys.take j))
      ⟨⟨_, _, rfl⟩, P1.same s2, But.of (s1.trans s2), L2, [], [], q2, Nat.le_refl _, .nil, fun _ z => (nomatch z), List.Sublist.refl _⟩ (fun j σ H' _ h' => SqL.of h'.2.2.2.1) ?_ ?_
    · rintro j x σ H3 hx ⟨⟨x4, x5, rfl⟩, P3, b3, eL3, us, es, eq3, lu, pu, pe, sub⟩
      have hj : j < ys.length := by
        have := (List.getElem?_eq_some_iff.mp hx).1
        rwa [List.length_map] at this
      obtain ⟨nm, hnm⟩ : ∃ nm, ys[j]? = some nm := ⟨_, List.getElem?_eq_getElem hj⟩
      rw [List.getElem?_map, hnm] at hx
      simp only [Option.map_some, Option.some.injEq] at hx
      subst hx
      refine ⟨_, rfl, _, rfl, _, rfl, (by show 7 ≤ sizeLine; decide), fun D hD => ?_⟩
      have s3 := same_new (o := .lst [V.int 0, V.int 0, V.int 1, V.int (-1), V.int 2, V.int (-3), V.int 4]) hD
      have P4 := P3.same s3
      refine ⟨_, rfl, p, c, lim, n + j, 7, rfl, P4, by omega, by decide, by decide, fun r H4 r0 r1 P5 b5 => ?_⟩
      have eD : H4 D = some (.lst [V.int 0, V.int 0, V.int 1, V.int (-1), V.int 2, V.int (-3), V.int 4]) := b5 _ _ upd_same (P3.ne1 hD) (P3.ne2 hD)
      obtain ⟨fa, hfa, f0, f1⟩ := fac_in r0 r1
      have b4 : But p c H3 H4 := (But.of s3).trans b5
      have b6 := b3.trans b4
      have eL4 := b4 _ _ eL3 Lp Lc
      have eq4 := b4 _ _ eq3 qp qc
      have t4 : Tps H3 H4 := b4.tps P3
      have pu4 : Paired (fun x pr => Dp K H4 x (.tuple [.str pr.1, .int pr.2])) us es := Paired.mapP pu fun _ pr z => Dp.tps t4 z rfl
      have sub2 : (es.map Prod.fst).Sublist (ys.take (j + 1)) := sub.trans (List.take_sublist_take_left (Nat.le_succ j))
      refine ⟨D, _, _, _, rfl, rfl, SqL.of eD, hfa, ?_⟩
      refine ⟨_, rfl, rfl, _, rfl, ?_⟩
      by_cases hz : fa = 0
      · refine iteE (by rw [hz]; rfl) ?_
        exact ⟨⟨_, _, rfl⟩, P5, b6, eL4, us, es, eq4, by omega, pu4, pe, sub2⟩
      · refine iteS (by rw [decide_eq_false (fun z => hz (V.int.inj z))]; rfl) ?_
        refine ⟨_, rfl, .inl ⟨rfl, _, SqL.of eq4⟩, _, rfl, _, rfl, (by show 2 ≤ sizeLine; decide), fun t ht => ?_⟩
        have s5 := same_new (o := .tup [V.str nm, V.int fa]) ht
        have eq5 := s5 _ _ eq4
        refine ⟨q, _, _, rfl, rfl, eq5, small1000 (by omega), ?_⟩
        have t5 : Tps (upd H4 t (.tup [V.str nm, V.int fa])) (upd (upd H4 t (.tup [V.str nm, V.int fa])) q (.lst (us ++ [.ref t]))) := Tps.lst eq5
        have t6 := (Tps.of s5).trans t5
        refine ⟨⟨_, _, rfl⟩, (P5.same s5).upd qp qc, fun b o z h1 h2 => ?_, ?_, us ++ [.ref t], es ++ [(nm, fa)], upd_same, by rw [List.length_append]; show us.length + 1 ≤ j + 1; omega, ?_, ?_, ?_⟩
        · rw [upd_ne (ne_of_none z hq)]
          exact s5 _ _ (b6 _ _ z h1 h2)
        · rw [upd_ne qL.symm]
          exact s5 _ _ eL4
        · exact Paired.snoc (Paired.mapP pu4 fun _ pr z => Dp.tps t6 z rfl) (.tup (SqT.of (t5.1 _ _ upd_same)) (.cons (.str _) (.cons (.int _) .nil)))
        · intro pr hpr
          rcases List.mem_append.mp hpr with z | z
          · exact pe pr z
          · rw [List.mem_singleton.mp z]
            exact ⟨hz, f0, f1⟩
        · rw [List.map_append, take_snoc hnm]
          exact List.Sublist.append sub (List.Sublist.refl _)
    · rintro σ H3 ⟨⟨x4, x5, rfl⟩, P3, b3, eL3, us, es, eq3, lu, pu, pe, sub⟩
      rw [List.length_map] at P3 sub lu
      rw [List.take_length] at sub
      refine ⟨_, rfl, p, c, lim, n + ys.length, 7, rfl, P3, by omega, by decide, by decide, fun r H4 r0 r1 P4 b4 => ?_⟩
      have eq4 := b4 _ _ eq3 qp qc
      have pu4 : Paired (fun x pr => Dp K H4 x (.tuple [.str pr.1, .int pr.2])) us es := Paired.mapP pu fun _ pr z => Dp.tps (b4.tps P3) z rfl
      refine ⟨_, _, rfl, rfl, ?_⟩
      refine ⟨_, rfl, q, us, rfl, .inl ⟨SqL.of eq4, fun l hl => ?_⟩⟩
      have s5 := same_new (o := .tup us) hl
      refine ⟨(by show 2 ≤ sizeLine; decide), fun t ht => ?_⟩
      have s6 := same_new (o := .tup [V.int (r - 3), V.ref l]) ht
      have s7 := s5.trans s6
      refine k _ ⟨r - 3, es⟩ _ ⟨⟨by show -3 ≤ r - 3; omega, by show r - 3 ≤ 3; omega⟩, fun pr hpr => ?_, as.sublist sub, by rw [← ly]; have := sub.length_le; rwa [List.length_map] at this⟩ ?_ (by rw [← ly]; exact (P4.same s7)) (fun b o z h1 h2 => s7 _ _ (b4 _ _ (b3 _ _ z h1 h2) h1 h2))
      · obtain ⟨e1, e2, e3⟩ := pe pr hpr
        exact ⟨perm.mem_iff.mp (sub.subset (List.mem_map.mpr ⟨pr, hpr, rfl⟩)), e1, e2, e3⟩
      · refine .tup (SqT.of upd_same) (.cons (.int _) (.cons (.tup (SqT.of (s6 _ _ upd_same)) ?_) .nil))
        exact DpAll.ofPaired (Paired.mapP pu4 fun _ _ z => z.same s7)
end

/-! ### the law's args and calls -/
abbrev sLAr : Stmt := topS 35
abbrev NLAr : List Str := ["_law_pool_here", "_law_params", "_law_names_here", "_law_args_here", "_law_param"]
abbrev PLAr : List Str := ["_law_pool_here", "_law_params", "_law_names_here"]
theorem scLAr : FnScope NLAr PLAr (defScope sLAr) := ⟨rfl, rfl, rfl, by decide +kernel, rfl, by decide +kernel, by decide +kernel⟩
abbrev sLCa : Stmt := topS 36
abbrev NLCa : List Str := ["_law_pool_here", "_law_env", "_law_head"]
abbrev PLCa : List Str := ["_law_pool_here", "_law_env"]
theorem scLCa : FnScope NLCa PLCa (defScope sLCa) := ⟨rfl, rfl, rfl, by decide +kernel, rfl, by decide +kernel, by decide +kernel⟩
abbrev Head := Str × List (Str × Bool)
def hdaD (h : Head) : PyData := .tuple [.str h.1, .tuple (h.2.map prD)]
def WA (own : List Str) : Arg → Prop
  | .place n => n ∈ own
  | .value e => EX own e
structure WC (own : List Str) (heads : List Head) (c : Cal) : Prop where
  hd : ∃ h ∈ heads, c.1 = h.1 ∧ c.2.map isPl = h.2.map Prod.snd
  as : ∀ a ∈ c.2, WA own a
structure EnvAt (K : PySem.W.Frag) (H : Hp) (p c : Addr) (v : V) (own kinds : List Str) (heads : List Head) : Prop where
  ex : ∃ e nl kl hl hs, v = .ref e ∧ SqT K H e [.ref nl, .ref kl, .ref hl] ∧ H nl = some (.lst (own.map V.str)) ∧ H kl = some (.lst (kinds.map V.str)) ∧ H hl = some (.lst hs) ∧ Paired (fun x h => Dp K H x (hdaD h)) hs heads ∧
    (nl ≠ p ∧ nl ≠ c) ∧ (kl ≠ p ∧ kl ≠ c) ∧ (hl ≠ p ∧ hl ≠ c)
structure EnvOk (own kinds : List Str) (heads : List Head) : Prop where
  o : own.Nodup ∧ own ≠ [] ∧ own.length ≤ 8
  k : kinds ≠ [] ∧ kinds.length ≤ 2
  h : heads ≠ [] ∧ heads.length ≤ 3
  ps : ∀ h ∈ heads, h.2.length ≤ 2 ∧ isName h.1 = true ∧ ∀ p ∈ h.2, isName p.1 = true
theorem noL_hda (h : Head) : noL (hdaD h) = true := by
  simp only [hdaD, noL, noLs, Bool.true_and, Bool.and_true]
  exact noLs_map noL_pr _
theorem EnvAt.but {K : PySem.W.Frag} {H H' : Hp} {p c : Addr} {v : V} {own kinds : List Str} {heads : List Head} {lim : V} {n : Nat} (h : EnvAt K H p c v own kinds heads) (b : But p c H H') (P0 : PoolAt H p c lim n) : EnvAt K H' p c v own kinds heads := by
  obtain ⟨e, nl, kl, hl, hs, e1, e2, e3, e4, e5, e6, e7, e8, e9⟩ := h
  exact ⟨e, nl, kl, hl, hs, e1, (b.tps P0).sqt e2, b _ _ e3 e7.1 e7.2, b _ _ e4 e8.1 e8.2, b _ _ e5 e9.1 e9.2, Paired.mapP e6 fun _ h z => Dp.tps (b.tps P0) z (noL_hda h), e7, e8, e9⟩
def spLAr (K : PySem.W.Frag) : Sp := fun vs H Q _ => ∃ (p c nl : Addr) (v : V) (lim : V) (n : Nat) (own : List Str) (ps : List (Str × Bool)), vs = [.ref p, v, .ref nl] ∧ PoolAt H p c lim n ∧ n + 1000 < 1000000000000 ∧ Dp K H v (.tuple (ps.map prD)) ∧ ps.length ≤ 2 ∧ H nl = some (.lst (own.map V.str)) ∧ nl ≠ p ∧ nl ≠ c ∧ own.Nodup ∧ own ≠ [] ∧ own.length ≤ 8 ∧
  ∀ (v : V) (as : List Arg) (H' : Hp), as.map isPl = ps.map Prod.snd → (∀ a ∈ as, WA own a) → Dp K H' v (.tuple (as.map argD)) → PoolAt H' p c lim (n + 20) → But p c H H' → Q v H'
def spLCa (K : PySem.W.Frag) : Sp := fun vs H Q _ => ∃ (p c : Addr) (v : V) (lim : V) (n : Nat) (own kinds : List Str) (heads : List Head), vs = [.ref p, v] ∧ PoolAt H p c lim n ∧ n + 2000 < 1000000000000 ∧ EnvAt K H p c v own kinds heads ∧ EnvOk own kinds heads ∧
  ∀ (v : V) (cl : Cal) (H' : Hp), WC own heads cl → Dp K H' v (calD cl) → PoolAt H' p c lim (n + 21) → But p c H H' → Q v H'
section
variable {P : Program} {w : World} {K : PySem.W.Frag} {mg : Str → Option Value} {base : Heap}
theorem ok_LAr {f : Addr} {fd : FuncData} (F : Fun K "_law_args" "_law_args" sLAr f fd) (T : TxGen mg) (GD : Has P w K mg base CX0 2 "_law_draw" PDraw spDraw) (GE : Has P w K mg base CX0 3 "_law_expression" PLEx (spLEx K)) : FnOk P w K mg base CX0 4 f fd PLAr (spLAr K) := by
  refine F.ok scLAr (fun vs H Q E h => ?_) (fun cdv A outer s H vs Q E hr h => ?_)
  · obtain ⟨p, c, nl, v, lim, n, own, ps, rfl, _⟩ := h
    rfl
  · obtain ⟨p, c, nl, v, lim, n, own, ps, rfl, P0, hn, hv, lps, hnl, np, nc, nd, ne, l8, k⟩ := h
    have hr2 := hr.mono (j := 2) (by omega)
    refine ⟨_, (pss_cons (ps_set (i := 3) scLAr.nd rfl (Or.inl rfl) (pe_lst pa_nil))
  (pss_cons (ps_for PassesOwn.never rfl (pi_tup (pv 1)) (pg_name (i := 4) scLAr.nd rfl (Or.inl rfl))
  (pss_one (ps_if (pt_val (pe_ix (r := rIxT K) ix_tup (pv 4) pe_int (fun _ _ => rfl)))
  (pss_one (ps_expr (pe_bm PySem.F.plainAttrs_list PySem.F.slot_list_append PySem.F.type_list_append mt_append (pv 3) (pa_cons (pe_tup (pa_cons pe_str (pa_cons (pe_ix (r := rIxL K) ix_list (pv 2) (pe_callH GD hr2 rfl pass0 (pa_cons (pv 0) (pa_cons (pe_callB call_len_seq (by rfl) T.n_len bb_len (pa_cons (pv 2) pa_nil)) pa_nil))) (fun _ _ => rfl)) pa_nil))) pa_nil))))
  (pss_one (ps_expr (pe_bm PySem.F.plainAttrs_list PySem.F.slot_list_append PySem.F.type_list_append mt_append (pv 3) (pa_cons (pe_tup (pa_cons pe_str (pa_cons (pe_callH GE hr rfl pass0 (pa_cons (pv 0) (pa_cons (pv 2) (pa_cons pe_int pa_nil)))) pa_nil))) pa_nil)))))))
  (pss_one (ps_ret (pe_callTy call_tuple_of (by rfl) T.n_tuple bb_tuple (pa_cons (pv 3) pa_nil)))))), ?_⟩
    obtain ⟨a, xs, rfl, hq0, hd⟩ := hv.tupInv
    have pp := DpAll.map hd
    have lx : xs.length = ps.length := Paired.length pp
    refine ⟨(by show 0 ≤ sizeLine; decide), fun q hq => ?_⟩
    have s1 := same_new (o := .lst []) hq
    have P1 := P0.same s1
    have qp := P0.ne1 hq
    have qc := P0.ne2 hq
    have qn := ne_of_none hnl hq
    refine ⟨_, rfl, a, rfl, ⟨_, SqT.same s1 hq0⟩, ?_⟩
    refine for_tup (K := K) (a := a) (xs := xs) (fun j σ H' => (∃ x4 : Option V, σ = [some (.ref p), some (.ref a), some (.ref nl), some (.ref q), x4]) ∧ PoolAt H' p c lim (n + 10 * j) ∧ But p c H H' ∧ H' nl = some (.lst (own.map V.str)) ∧ ∃ (us : List V) (as : List Arg), H' q = some (.lst us) ∧ us.length = j ∧ Paired (fun x g => Dp K H' x (argD g)) us as ∧ as.map isPl = (ps.take j).map Prod.snd ∧ ∀ g ∈ as, WA own g)
      ⟨⟨_, rfl⟩, P1, But.of s1, s1 _ _ hnl, [], [], upd_same, rfl, .nil, rfl, fun _ z => (nomatch z)⟩ (fun j σ H' _ h' => (h'.2.2.1.tps P0).sqt hq0) ?_ ?_
    · rintro j x σ H3 hx ⟨⟨x4, rfl⟩, P3, b3, en3, us, as, eq3, lu, pu, pm, pw⟩
      obtain ⟨pr, hpr, hpd⟩ := Paired.at pp hx
      have hj : j < xs.length := (List.getElem?_eq_some_iff.mp hx).1
      have hpd3 : Dp K H3 x (.tuple [.str pr.1, .bool pr.2]) := Dp.tps (b3.tps P0) hpd rfl
      obtain ⟨d, ds, rfl, hd3, hdd⟩ := hpd3.tupInv
      obtain ⟨u1, u2, rfl, g1, g2⟩ := hdd.two
      rw [Dp.blInv g2] at hd3
      have fin : ∀ (H5 : Hp) (t : Addr) (ga : Arg), isPl ga = pr.2 → WA own ga → H5 q = some (.lst us) → But p c H3 H5 → PoolAt H5 p c lim (n + 10 * j + 10) → Dp K H5 (.ref t) (argD ga) → (us ++ [V.ref t]).length < sizeLine ∧
          ((∃ x4 : Option V, [some (V.ref p), some (.ref a), some (.ref nl), some (.ref q), some (.ref d)] = [some (V.ref p), some (.ref a), some (.ref nl), some (.ref q), x4]) ∧ PoolAt (upd H5 q (.lst (us ++ [.ref t]))) p c lim (n + 10 * (j + 1)) ∧ But p c H (upd H5 q (.lst (us ++ [.ref t]))) ∧ upd H5 q (.lst (us ++ [.ref t])) nl = some (.lst (own.map V.str)) ∧ ∃ (us' : List V) (as : List Arg), upd H5 q (.lst (us ++ [.ref t])) q = some (.lst us') ∧ us'.length = j + 1 ∧ Paired (fun x g => Dp K (upd H5 q (.lst (us ++ [.ref t]))) x (argD g)) us' as ∧ as.map isPl = (ps.take (j + 1)).map Prod.snd ∧ ∀ g ∈ as, WA own g) := by
        intro H5 t ga hg wa eq5 b5 P5 dt
        have t5 : Tps H5 (upd H5 q (.lst (us ++ [.ref t]))) := Tps.lst eq5
        refine ⟨small1000 (by rw [List.length_append]; show us.length + 1 ≤ 1000; omega), ⟨_, rfl⟩, ?_, fun b o z h1 h2 => ?_, ?_, us ++ [.ref t], as ++ [ga], upd_same, by rw [List.length_append, lu]; rfl, ?_, ?_, ?_⟩
        · rw [show n + 10 * (j + 1) = n + 10 * j + 10 by omega]
          exact P5.upd qp qc
        · rw [upd_ne (ne_of_none z hq)]
          exact b5 _ _ (b3 _ _ z h1 h2) h1 h2
        · rw [upd_ne qn]
          exact b5 _ _ en3 np nc
        · exact Paired.snoc (Paired.mapP pu fun _ g z => Dp.tps ((b5.tps P3).trans t5) z (noL_arg g)) (Dp.tps t5 dt (noL_arg ga))
        · rw [List.map_append, pm, take_snoc hpr, List.map_append]
          show _ ++ [isPl ga] = _ ++ [pr.2]
          rw [hg]
        · intro g hgm
          rcases List.mem_append.mp hgm with z | z
          · exact pw g z
          · rw [List.mem_singleton.mp z]; exact wa
      refine ⟨_, rfl, d, _, _, _, rfl, rfl, hd3, rfl, _, rfl, ?_⟩
      cases hb : pr.2 with
      | true =>
        refine iteS rfl ?_
        have lo : 0 < own.length := List.length_pos_iff.mpr ne
        refine ⟨_, rfl, .inl ⟨rfl, _, SqL.of eq3⟩, _, rfl, _, rfl, _, rfl, nl, _, rfl, .inl (SqL.of en3), p, c, lim, n + 10 * j, _, rfl, P3, by omega, by rw [List.length_map]; omega, by rw [List.length_map]; omega, fun r H4 r0 r1 P4 b4 => ?_⟩
        obtain ⟨w, hw, mw⟩ := atI_in (xs := own.map V.str) r0 r1
        obtain ⟨nm, hnm, rfl⟩ := List.mem_map.mp mw
        have en4 := b4 _ _ en3 np nc
        have eq4 := b4 _ _ eq3 qp qc
        refine ⟨nl, _, _, _, rfl, rfl, SqL.of en4, hw, (by show 2 ≤ sizeLine; decide), fun t ht => ?_⟩
        have s5 := same_new (o := .tup [V.str "place", V.str nm]) ht
        obtain ⟨f1, f2⟩ := fin _ t (.place nm) (by rw [hb]; rfl) hnm (s5 _ _ eq4) (fun b o z h1 h2 => s5 _ _ (b4 _ _ z h1 h2)) ((P4.same s5).mono (by omega)) (.tup (SqT.of upd_same) (.cons (.str _) (.cons (.str _) .nil)))
        exact ⟨q, _, _, rfl, rfl, s5 _ _ eq4, by rw [List.length_append] at f1; exact Nat.lt_of_succ_lt f1, f2⟩
      | false =>
        refine iteE rfl ?_
        refine ⟨_, rfl, .inl ⟨rfl, _, SqL.of eq3⟩, _, rfl, _, rfl, p, c, nl, lim, n + 10 * j, own, rfl, P3, by omega, en3, np, nc, nd, by omega, fun w e H4 ex dw P4 b4 => ?_⟩
        have eq4 := b4 _ _ eq3 qp qc
        refine ⟨(by show 2 ≤ sizeLine; decide), fun t ht => ?_⟩
        have s5 := same_new (o := .tup [V.str "value", w]) ht
        obtain ⟨f1, f2⟩ := fin _ t (.value e) (by rw [hb]; rfl) ex (s5 _ _ eq4) (fun b o z h1 h2 => s5 _ _ (b4 _ _ z h1 h2)) ((P4.same s5).mono (by omega)) (.tup (SqT.of upd_same) (.cons (.str _) (.cons (dw.same s5) .nil)))
        exact ⟨q, _, _, rfl, rfl, s5 _ _ eq4, by rw [List.length_append] at f1; exact Nat.lt_of_succ_lt f1, f2⟩
    · rintro σ H3 ⟨⟨x4, rfl⟩, P3, b3, en3, us, as, eq3, lu, pu, pm, pw⟩
      rw [lx, List.take_length] at pm
      refine ⟨_, rfl, q, us, rfl, .inl ⟨SqL.of eq3, fun l hl => ?_⟩⟩
      have s5 := same_new (o := .tup us) hl
      exact k _ as _ pm pw (.tup (SqT.of upd_same) (DpAll.ofPaired (Paired.mapP pu fun _ _ z => z.same s5))) ((P3.same s5).mono (by omega)) (fun b o z h1 h2 => s5 _ _ (b3 _ _ z h1 h2))
theorem ok_LCa {f : Addr} {fd : FuncData} (F : Fun K "_law_call" "_law_call" sLCa f fd) (T : TxGen mg) (GD : Has P w K mg base CX0 2 "_law_draw" PDraw spDraw) (GA : Has P w K mg base CX0 4 "_law_args" PLAr (spLAr K)) : FnOk P w K mg base CX0 5 f fd PLCa (spLCa K) := by
  refine F.ok scLCa (fun vs H Q E h => ?_) (fun cdv A outer s H vs Q E hr h => ?_)
  · obtain ⟨p, c, v, lim, n, own, kinds, heads, rfl, _⟩ := h
    rfl
  · obtain ⟨p, c, v, lim, n, own, kinds, heads, rfl, P0, hn, ev, ok, k⟩ := h
    have hr2 := hr.mono (j := 2) (by omega)
    refine ⟨_, (pss_cons (ps_set (i := 2) scLCa.nd rfl (Or.inl rfl) (pe_ix (r := rIxL K) ix_list (pe_ix (r := rIxT K) ix_tup (pv 1) pe_int (fun _ _ => rfl)) (pe_callH GD hr2 rfl pass0 (pa_cons (pv 0) (pa_cons (pe_callB call_len_seq (by rfl) T.n_len bb_len (pa_cons (pe_ix (r := rIxT K) ix_tup (pv 1) pe_int (fun _ _ => rfl)) pa_nil)) pa_nil))) (fun _ _ => rfl)))
  (pss_one (ps_ret (pe_tup (pa_cons (pe_ix (r := rIxT K) ix_tup (pv 2) pe_int (fun _ _ => rfl)) (pa_cons (pe_callH GA hr rfl pass0 (pa_cons (pv 0) (pa_cons (pe_ix (r := rIxT K) ix_tup (pv 2) pe_int (fun _ _ => rfl)) (pa_cons (pe_ix (r := rIxT K) ix_tup (pv 1) pe_int (fun _ _ => rfl)) pa_nil)))) pa_nil)))))), ?_⟩
    obtain ⟨e, nl, kl, hl, hs, rfl, e2, e3, e4, e5, e6, e7, e8, e9⟩ := ev
    have lh : hs.length = heads.length := Paired.length e6
    have lo : 0 < heads.length := List.length_pos_iff.mpr ok.h.1
    have l3 := ok.h.2
    refine ⟨_, rfl, e, _, _, _, rfl, rfl, e2, rfl, _, rfl, _, rfl, e, _, _, _, rfl, rfl, e2, rfl, hl, _, rfl, .inl (SqL.of e5), p, c, lim, n, _, rfl, P0, by omega, by omega, by omega, fun r H1 r0 r1 P1 b1 => ?_⟩
    obtain ⟨w, hw, mw⟩ := atI_in r0 r1
    obtain ⟨i, hi⟩ := List.mem_iff_getElem?.mp mw
    obtain ⟨h, hh, hdp⟩ := Paired.at e6 hi
    have mh := List.mem_of_getElem? hh
    have t1 := b1.tps P0
    have hdp1 : Dp K H1 w (.tuple [.str h.1, .tuple (h.2.map prD)]) := Dp.tps t1 hdp (noL_hda h)
    obtain ⟨d, ds, rfl, hd, hdd⟩ := hdp1.tupInv
    obtain ⟨u1, u2, rfl, g1, g2⟩ := hdd.two
    rw [g1.strInv] at hd
    refine ⟨hl, _, _, _, rfl, rfl, SqL.of (b1 _ _ e5 e9.1 e9.2), hw, ?_⟩
    refine ⟨_, rfl, d, _, _, _, rfl, rfl, hd, rfl, _, rfl, _, rfl, d, _, _, _, rfl, rfl, hd, rfl, _, rfl, e, _, _, _, rfl, rfl, t1.sqt e2, rfl, p, c, nl, u2, lim, n + 1, own, h.2, rfl, P1, by omega, g2, (ok.ps h mh).1, b1 _ _ e3 e7.1 e7.2, e7.1, e7.2, ok.o.1, ok.o.2.1, ok.o.2.2, fun v as H2 pm pw dv P2 b2 => ?_⟩
    refine ⟨(by show 2 ≤ sizeLine; decide), fun t ht => ?_⟩
    have s3 := same_new (o := .tup [V.str h.1, v]) ht
    exact k _ (h.1, as) _ ⟨⟨h, mh, rfl, pm⟩, pw⟩ (.tup (SqT.of upd_same) (.cons (.str _) (.cons (dv.same s3) .nil))) (P2.same s3) (fun b o z h1 h2 => s3 _ _ (b2 _ _ (b1 _ _ z h1 h2) h1 h2))
end

/-! ### k03: texts and their tokens -/
inductive Tkw : List Nat → SH → Prop
  | nil : Tkw [] [("end", "")]
  | gap {c : Nat} {t : List Nat} {sh : SH} (hc : c = 32 ∨ c = 10) (r : Tkw t sh) : Tkw (c :: t) sh
  | sign {c : Nat} {t : List Nat} {sh : SH} (hc : c ∈ SIG.cps.toList) (r : Tkw t sh) : Tkw (c :: t) (("mark", (⟨#[c]⟩ : Str)) :: sh)
  | word {w t : List Nat} {sh : SH} (hw : w ≠ []) (ha : ∀ c ∈ w, al c = true) (hk : kindOf ⟨w.toArray⟩ ≠ "bad") (hn : NoAl t) (r : Tkw t sh) : Tkw (w ++ t) ((kindOf ⟨w.toArray⟩, (⟨w.toArray⟩ : Str)) :: sh)
theorem Tks.gap2 {t : List Nat} {sh : SH} {c : Nat} (hc : c = 32 ∨ c = 10) (h : Tks t sh) : Tks (c :: t) sh := fun p => by
  obtain ⟨ts, e, k⟩ := h (p ++ [c])
  rw [List.append_assoc, List.length_append] at k
  exact ⟨ts, e, .gap (mid_get p t c) hc k⟩
theorem Tkw.tks {t : List Nat} {sh : SH} (h : Tkw t sh) : Tks t sh := by
  induction h with
  | nil => exact Tks.nil
  | gap hc _ ih => exact Tks.gap2 hc ih
  | sign hc _ ih => exact Tks.sign hc ih
  | word hw ha hk hn _ ih => exact Tks.word hw ha hk hn ih
/-! the same tokens in other forms of a text -/
theorem al_gap : al 32 = false ∧ al 10 = false := by decide +kernel
theorem sig_al {c : Nat} (h : c ∈ SIG.cps.toList) : al c = false := by
  cases e : al c with
  | false => rfl
  | true => exact absurd h (al_plain e).2.2
def f10 (c : Nat) : Nat := if c = 10 then 32 else c
theorem f10_al {c : Nat} (h : al c = true) : f10 c = c := if_neg (al_plain h).2.1
theorem map_id {f : Nat → Nat} : ∀ {w : List Nat}, (∀ c ∈ w, f c = c) → w.map f = w
  | [], _ => rfl
  | c :: r, h => by rw [List.map_cons, h c List.mem_cons_self, map_id fun d hd => h d (List.mem_cons_of_mem _ hd)]
theorem NoAl.cons {c : Nat} {t : List Nat} (h : al c = false) : NoAl (c :: t) := fun d e => by
  cases e
  exact h
theorem NoAl.head {c : Nat} {t : List Nat} (h : NoAl (c :: t)) : al c = false := h c rfl
theorem Tkw.map10 {t : List Nat} {sh : SH} (h : Tkw t sh) : Tkw (t.map f10) sh := by
  induction h with
  | nil => exact .nil
  | gap hc _ ih => exact .gap (by rcases hc with rfl | rfl <;> exact .inl rfl) ih
  | @sign c t sh hc _ ih =>
    have e : f10 c = c := if_neg (sig_gap c hc).2
    rw [List.map_cons, e]
    exact .sign hc ih
  | @word w t sh hw ha hk hn _ ih =>
    rw [List.map_append, map_id fun c hc => f10_al (ha c hc)]
    refine .word hw ha hk ?_ ih
    cases t with
    | nil => exact fun c e => by cases e
    | cons c r =>
      refine NoAl.cons ?_
      have := hn.head
      unfold f10
      split
      · exact al_gap.1
      · exact this
def repF (s c : Nat) : List Nat := if c = s then [32, s, 32, 10] else [c]
theorem repF_al {s : Nat} (hs : s ∈ SIG.cps.toList) : ∀ {w : List Nat}, (∀ c ∈ w, al c = true) → w.flatMap (repF s) = w
  | [], _ => rfl
  | c :: r, h => by
    have e : c ≠ s := fun z => by
      have := h c List.mem_cons_self
      rw [z, sig_al hs] at this
      cases this
    rw [List.flatMap_cons, repF_al hs fun d hd => h d (List.mem_cons_of_mem _ hd)]
    unfold repF
    rw [if_neg e]
    rfl
theorem Tkw.rep {s : Nat} (hs : s ∈ SIG.cps.toList) {t : List Nat} {sh : SH} (h : Tkw t sh) : Tkw (t.flatMap (repF s)) sh := by
  have ns := sig_gap s hs
  induction h with
  | nil => exact .nil
  | @gap c t sh hc _ ih =>
    have e : repF s c = [c] := if_neg fun z => by
      subst z
      rcases hc with z | z
      · exact ns.1 z
      · exact ns.2 z
    rw [List.flatMap_cons, e]
    exact .gap hc ih
  | @sign c t sh hc _ ih =>
    rw [List.flatMap_cons]
    unfold repF
    by_cases q : c = s
    · rw [if_pos q, ← q]
      exact .gap (.inl rfl) (.sign hc (.gap (.inl rfl) (.gap (.inr rfl) (q ▸ ih))))
    · rw [if_neg q]
      exact .sign hc ih
  | @word w t sh hw ha hk hn _ ih =>
    rw [List.flatMap_append, repF_al hs ha]
    refine .word hw ha hk ?_ ih
    cases t with
    | nil => exact fun c e => by cases e
    | cons c r =>
      rw [List.flatMap_cons]
      unfold repF
      by_cases q : c = s
      · rw [if_pos q]
        exact NoAl.cons al_gap.1
      · rw [if_neg q]
        exact NoAl.cons hn.head
theorem Tkw.end2 {t : List Nat} {sh : SH} (h : Tkw t sh) : Tkw (t ++ [32, 32]) sh := by
  induction h with
  | nil => exact .gap (.inl rfl) (.gap (.inl rfl) .nil)
  | gap hc _ ih => exact .gap hc ih
  | sign hc _ ih => exact .sign hc ih
  | @word w t sh hw ha hk hn _ ih =>
    rw [List.append_assoc]
    refine .word hw ha hk ?_ ih
    cases t with
    | nil => exact NoAl.cons al_gap.1
    | cons c r => exact NoAl.cons hn.head
/-! parts of texts -/
/-- whatever stands behind -/
def TkA (w : List Nat) (s : SH) : Prop := ∀ t sh, Tkw t sh → Tkw (w ++ t) (s ++ sh)
/-- a word may stand at the end -/
def TkP (w : List Nat) (s : SH) : Prop := ∀ t sh, NoAl t → Tkw t sh → Tkw (w ++ t) (s ++ sh)
theorem TkA.p {w : List Nat} {s : SH} (h : TkA w s) : TkP w s := fun t sh _ r => h t sh r
theorem TkA.nil : TkA [] [] := fun _ _ r => r
theorem TkA.app {w v : List Nat} {s r : SH} (h : TkA w s) (k : TkA v r) : TkA (w ++ v) (s ++ r) := fun t sh q => by
  rw [List.append_assoc, List.append_assoc]
  exact h _ _ (k _ _ q)
theorem TkA.appP {w v : List Nat} {s r : SH} (h : TkA w s) (k : TkP v r) : TkP (w ++ v) (s ++ r) := fun t sh n q => by
  rw [List.append_assoc, List.append_assoc]
  exact h _ _ (k _ _ n q)
/-- begins with a gap or a sign -/
def Beg (w : List Nat) : Prop := ∃ c r, w = c :: r ∧ al c = false
theorem TkP.app {w v : List Nat} {s r : SH} (h : TkP w s) (b : Beg v) (k : TkA v r) : TkA (w ++ v) (s ++ r) := fun t sh q => by
  rw [List.append_assoc, List.append_assoc]
  refine h _ _ ?_ (k _ _ q)
  obtain ⟨c, l, rfl, e⟩ := b
  exact NoAl.cons e
theorem TkP.appP {w v : List Nat} {s r : SH} (h : TkP w s) (b : Beg v) (k : TkP v r) : TkP (w ++ v) (s ++ r) := fun t sh n q => by
  rw [List.append_assoc, List.append_assoc]
  refine h _ _ ?_ (k _ _ n q)
  obtain ⟨c, l, rfl, e⟩ := b
  exact NoAl.cons e
theorem TkP.word {x : Str} {k : Str} (h : TL.tl x ≠ [] ∧ (∀ c ∈ TL.tl x, al c = true) ∧ kindOf x = k) (hk : k ≠ "bad") : TkP (TL.tl x) [(k, x)] := fun t sh n q => by
  obtain ⟨h1, h2, rfl⟩ := h
  have := Tkw.word h1 h2 (by rw [str_tl]; exact hk) n q
  rw [str_tl] at this
  exact this
theorem TkP.name {x : Str} (h : isName x = true) : TkP (TL.tl x) [("name", x)] := TkP.word (name_al h) (by decide +kernel)
theorem TkP.num (n : Nat) : TkP (TL.tl (numS n)) [("number", numS n)] := TkP.word (num_kind n) (by decide +kernel)
theorem kw_word : ∀ x ∈ KWS, TL.tl x ≠ [] ∧ (∀ c ∈ TL.tl x, al c = true) ∧ kindOf x = "mark" := by decide +kernel
theorem TkP.kw {x : Str} (h : x ∈ KWS) : TkP (TL.tl x) [("mark", x)] := TkP.word (kw_word x h) (by decide +kernel)
/-- a text of signs and gaps -/
def shLit (w : List Nat) : SH := (w.filter fun c => decide (c ∈ SIG.cps.toList)).map fun c => (("mark", (⟨#[c]⟩ : Str)) : Str × Str)
theorem TkA.lit : ∀ {w : List Nat}, (∀ c ∈ w, c = 32 ∨ c = 10 ∨ c ∈ SIG.cps.toList) → TkA w (shLit w)
  | [], _ => TkA.nil
  | c :: r, h => by
    intro t sh q
    have ih := TkA.lit (fun d hd => h d (List.mem_cons_of_mem _ hd)) t sh q
    have hc := h c List.mem_cons_self
    unfold shLit
    by_cases e : c ∈ SIG.cps.toList
    · rw [List.filter_cons, if_pos (decide_eq_true e)]
      exact .sign e ih
    · rw [List.filter_cons, if_neg (by rw [decide_eq_false e]; exact Bool.false_ne_true)]
      refine .gap ?_ ih
      rcases hc with z | z | z
      · exact .inl z
      · exact .inr z
      · exact absurd z e
theorem Beg.app {w v : List Nat} (h : Beg w) : Beg (w ++ v) := by
  obtain ⟨c, r, rfl, e⟩ := h
  exact ⟨c, r ++ v, rfl, e⟩
/-! over texts -/
abbrev TA (z : Str) (s : SH) : Prop := TkA (TL.tl z) s
abbrev TP (z : Str) (s : SH) : Prop := TkP (TL.tl z) s
abbrev BG (z : Str) : Prop := Beg (TL.tl z)
theorem TA.add {a b : Str} {s r : SH} (h : TA a s) (k : TA b r) : TA (a ++ b) (s ++ r) := by
  show TkA (TL.tl (a ++ b)) _
  rw [TL.tl_append]
  exact h.app k
theorem TA.addP {a b : Str} {s r : SH} (h : TA a s) (k : TP b r) : TP (a ++ b) (s ++ r) := by
  show TkP (TL.tl (a ++ b)) _
  rw [TL.tl_append]
  exact h.appP k
theorem TP.add {a b : Str} {s r : SH} (h : TP a s) (g : BG b) (k : TA b r) : TA (a ++ b) (s ++ r) := by
  show TkA (TL.tl (a ++ b)) _
  rw [TL.tl_append]
  exact TkP.app h g k
theorem TP.addP {a b : Str} {s r : SH} (h : TP a s) (g : BG b) (k : TP b r) : TP (a ++ b) (s ++ r) := by
  show TkP (TL.tl (a ++ b)) _
  rw [TL.tl_append]
  exact TkP.appP h g k
theorem BG.add {a b : Str} (h : BG a) : BG (a ++ b) := by
  show Beg (TL.tl (a ++ b))
  rw [TL.tl_append]
  exact Beg.app h
theorem TA.empty : TA Str.empty [] := TkA.nil
abbrev mk (z : Str) : Str × Str := ("mark", z)
abbrev nme (z : Str) : Str × Str := ("name", z)
theorem TA.lt (z : Str) (h : ∀ c ∈ TL.tl z, c = 32 ∨ c = 10 ∨ c ∈ SIG.cps.toList) {s : SH} (e : shLit (TL.tl z) = s) : TA z s := e ▸ TkA.lit h

/-! ### k03: sums, their texts and tokens -/
abbrev Pt3 := Bool × Option Str × Nat
def ptsE (e : Ex) : List Pt3 := e.ts.map (fun p => (decide (p.2 < 0), some p.1, p.2.natAbs)) ++ (if e.c ≠ 0 ∨ e.ts = [] then [(decide (e.c < 0), none, e.c.natAbs)] else [])
def ptS : Option Str × Nat → Str
  | (none, n) => numS n
  | (some x, n) => if n = 1 then x else Str.empty ++ numS n ++ "*" ++ x
def shPt : Option Str × Nat → SH
  | (none, n) => [("number", numS n)]
  | (some x, n) => if n = 1 then [nme x] else [("number", numS n), mk "*", nme x]
def sgM (b : Bool) : Str × Str := mk (if b = true then "-" else "+")
def shTl (l : List Pt3) : SH := l.flatMap fun p => sgM p.1 :: shPt p.2
def shE (e : Ex) : SH := match ptsE e with
  | [] => []
  | p :: r => (if p.1 = true then [mk "-"] else []) ++ (shPt p.2 ++ shTl r)
theorem parts_pts (e : Ex) : partsS e.c e.ts = (ptsE e).map fun p => (p.1, ptS p.2) := by
  unfold partsS ptsE
  rw [List.map_append, List.map_map]
  congr 1
  split <;> rfl
theorem pts_ne (e : Ex) : ptsE e ≠ [] := fun z => by
  unfold ptsE at z
  obtain ⟨z1, z2⟩ := List.append_eq_nil_iff.mp z
  rw [if_pos (.inr (List.map_eq_nil_iff.mp z1))] at z2
  cases z2
/-- sums as they are drawn -/
structure GE (e : Ex) : Prop where
  c : e.c.natAbs < 10
  nm : ∀ p ∈ e.ts, isName p.1 = true ∧ p.1.length ≤ 3 ∧ p.2 ≠ 0 ∧ p.2.natAbs < 10
  up : (e.ts.map Prod.fst).Pairwise asc
  ln : e.ts.length ≤ 8
theorem GE.pt {e : Ex} (h : GE e) : ∀ p ∈ ptsE e, p.2.2 < 10 ∧ ∀ x, p.2.1 = some x → isName x = true ∧ x.length ≤ 3 := by
  intro p hp
  unfold ptsE at hp
  rcases List.mem_append.mp hp with z | z
  · obtain ⟨q, hq, rfl⟩ := List.mem_map.mp z
    have := h.nm q hq
    exact ⟨this.2.2.2, fun x e => by cases e; exact ⟨this.1, this.2.1⟩⟩
  · split at z
    · rw [List.mem_singleton.mp z]
      exact ⟨h.c, fun x e => by cases e⟩
    · cases z
theorem ta_min : TA "-" [mk "-"] := TA.lt _ (by decide +kernel) (by decide +kernel)
theorem ta_star : TA "*" [mk "*"] := TA.lt _ (by decide +kernel) (by decide +kernel)
theorem bg_star : BG "*" := ⟨42, [], by decide +kernel, by decide +kernel⟩
theorem ta_sep (b : Bool) : TA (sepS b) [sgM b] ∧ BG (sepS b) := by
  cases b with
  | true => exact ⟨TA.lt " - " (by decide +kernel) (by decide +kernel), ⟨32, [45, 32], by decide +kernel, by decide +kernel⟩⟩
  | false => exact ⟨TA.lt " + " (by decide +kernel) (by decide +kernel), ⟨32, [43, 32], by decide +kernel, by decide +kernel⟩⟩
theorem empty_add (a : Str) : Str.empty ++ a = a := TL.ext_tl (by rw [TL.tl_append]; rfl)
theorem add_empty (a : Str) : a ++ Str.empty = a := TL.ext_tl (by rw [TL.tl_append]; exact List.append_nil _)
theorem tp_pt {p : Option Str × Nat} (h : ∀ x, p.1 = some x → isName x = true) : TP (ptS p) (shPt p) := by
  obtain ⟨o, n⟩ := p
  cases o with
  | none => exact TkP.num n
  | some x =>
    have hx := h x rfl
    unfold ptS shPt
    by_cases q : n = 1
    · simp only [if_pos q]
      exact TkP.name hx
    · simp only [if_neg q]
      rw [empty_add]
      exact TA.addP (TP.add (TkP.num n) bg_star ta_star) (TkP.name hx)
theorem tp_tail : ∀ {l : List Pt3} {X : Str} {s : SH}, TP X s → (∀ p ∈ l, ∀ x, p.2.1 = some x → isName x = true) → TP (tailS X (l.map fun p => (p.1, ptS p.2))) (s ++ shTl l)
  | [], X, s, h, _ => by
    unfold shTl
    rw [List.flatMap_nil, List.append_nil]
    exact h
  | p :: r, X, s, h, hn => by
    have st := ta_sep p.1
    have h1 : TP (X ++ (sepS p.1 ++ ptS p.2)) (s ++ ([sgM p.1] ++ shPt p.2)) := TP.addP h (BG.add st.2) (TA.addP st.1 (tp_pt (hn p List.mem_cons_self)))
    have := tp_tail h1 fun q hq => hn q (List.mem_cons_of_mem _ hq)
    rw [List.append_assoc] at this
    unfold shTl
    rw [List.flatMap_cons]
    exact this
theorem tp_expr {e : Ex} (h : GE e) : TP (exprS e.c e.ts) (shE e) := by
  have hp := h.pt
  unfold exprS shE
  rw [parts_pts]
  cases q : ptsE e with
  | nil => exact absurd q (pts_ne e)
  | cons p r =>
    rw [q] at hp
    have h0 := tp_pt fun x e => ((hp p List.mem_cons_self).2 x e).1
    have hr : ∀ q ∈ r, ∀ x, q.2.1 = some x → isName x = true := fun q hq x e => ((hp q (List.mem_cons_of_mem _ hq)).2 x e).1
    show TP (tailS (if p.1 = true then "-" ++ ptS p.2 else ptS p.2) (r.map fun p => (p.1, ptS p.2))) ((if p.1 = true then [mk "-"] else []) ++ (shPt p.2 ++ shTl r))
    rw [← List.append_assoc]
    refine tp_tail ?_ hr
    cases p.1 with
    | true => exact TA.addP ta_min h0
    | false => exact h0
theorem num_len10 {n : Nat} (h : n < 10) : (numS n).length = 1 := by
  rw [TL.len_tl, show TL.tl (numS n) = TL.numL n from TL.tl_num n, TL.numL_lt h]
  rfl
theorem pt_len {p : Option Str × Nat} (h : p.2 < 10) (hx : ∀ x, p.1 = some x → x.length ≤ 3) : (ptS p).length ≤ 5 := by
  obtain ⟨o, n⟩ := p
  have ln := num_len10 h
  cases o with
  | none =>
    show (numS n).length ≤ 5
    have : (numS n).length = 1 := ln
    omega
  | some x =>
    have := hx x rfl
    unfold ptS
    by_cases q : n = 1
    · simp only [if_pos q]
      omega
    · simp only [if_neg q]
      rw [empty_add, len_add, len_add]
      have : (numS n).length = 1 := ln
      have l1 : ("*" : Str).length = 1 := by decide +kernel
      omega
theorem tail_len5 {X : Str} {n : Nat} (hX : X.length ≤ n) : ∀ (ps : List (Bool × Str)) (_ : ∀ r ∈ ps, r.2.length ≤ 5), (tailS X ps).length ≤ n + ps.length * 8 := by
  intro ps
  induction ps generalizing X n with
  | nil => intro _; exact hX
  | cons p r ih =>
    intro h
    have h1 := h p List.mem_cons_self
    have l3 : (sepS p.1).length = 3 := by unfold sepS; split <;> decide +kernel
    have := ih (X := X ++ (sepS p.1 ++ p.2)) (n := n + 8) (by rw [len_add, len_add, l3]; omega) (fun q hq => h q (List.mem_cons_of_mem _ hq))
    show (tailS (X ++ (sepS p.1 ++ p.2)) r).length ≤ n + (r.length + 1) * 8
    omega
theorem expr_len {e : Ex} (h : GE e) : (exprS e.c e.ts).length ≤ 80 := by
  have hp := h.pt
  have pn : (ptsE e).length ≤ 9 := by
    have := h.ln
    unfold ptsE
    rw [List.length_append, List.length_map]
    split
    · show e.ts.length + 1 ≤ 9; omega
    · show e.ts.length + 0 ≤ 9; omega
  unfold exprS
  rw [parts_pts]
  cases q : ptsE e with
  | nil => exact absurd q (pts_ne e)
  | cons p r =>
    rw [q] at hp pn
    have pn : r.length + 1 ≤ 9 := pn
    have lm : ("-" : Str).length = 1 := by decide +kernel
    have p0 := pt_len (hp p List.mem_cons_self).1 fun x e => ((hp p List.mem_cons_self).2 x e).2
    show (tailS (if p.1 = true then "-" ++ ptS p.2 else ptS p.2) (r.map fun p => (p.1, ptS p.2))).length ≤ 80
    have := tail_len5 (X := if p.1 = true then "-" ++ ptS p.2 else ptS p.2) (n := 6) (by
      split
      · rw [len_add, lm]; omega
      · omega) (r.map fun p => (p.1, ptS p.2)) fun z hz => by
        obtain ⟨y, hy, rfl⟩ := List.mem_map.mp hz
        exact pt_len (hp y (List.mem_cons_of_mem _ hy)).1 fun x e => ((hp y (List.mem_cons_of_mem _ hy)).2 x e).2
    rw [List.length_map] at this
    omega
/-! the reading of a sum -/
/-- no token that goes on with a sum -/
def Stop (y : Str × Str) : Prop := y ≠ mk "+" ∧ y ≠ mk "-" ∧ y ≠ mk "*"
theorem stop_no {y : Str × Str} {z : Str} {a : Nat} (h : y ≠ mk z) : isMark ((y.1, y.2, a) : TK) z = false := by
  by_cases q : y.1 = "mark"
  · obtain ⟨k, v⟩ := y
    obtain rfl : k = "mark" := q
    exact mark_no fun e => h (by rw [show v = z from e])
  · exact mark_ne q
theorem pt_at {ts : List TK} {p : Option Str × Nat} (hn : p.2 < 10 ^ 12) {i : Nat} {y : Str × Str} {rest : SH} (hy : y ≠ mk "*") (h : (shOf ts).drop i = shPt p ++ y :: rest) : ∃ j, TermAt ts i p.1 p.2 j ∧ (shOf ts).drop j = y :: rest := by
  obtain ⟨o, n⟩ := p
  cases o with
  | none =>
    obtain ⟨⟨a, h1⟩, h2⟩ := sh_at h
    obtain ⟨⟨b, h3⟩, _⟩ := sh_at h2
    exact ⟨i + 1, .num h1 (num_len hn) (num_int hn) h3 (stop_no hy), h2⟩
  | some x =>
    unfold shPt at h
    by_cases q : n = 1
    · simp only [if_pos q] at h
      obtain ⟨⟨a, h1⟩, h2⟩ := sh_at h
      subst q
      exact ⟨i + 1, .name h1, h2⟩
    · simp only [if_neg q] at h
      obtain ⟨⟨a, h1⟩, h2⟩ := sh_at h
      obtain ⟨⟨b, h3⟩, h4⟩ := sh_at h2
      obtain ⟨⟨c, h5⟩, h6⟩ := sh_at h4
      exact ⟨i + 1 + 1 + 1, .mul h1 (num_len hn) (num_int hn) h3 mark_yes h5, h6⟩
def tm3 (p : Pt3) : Tm := (p.1, p.2.1, (p.2.2 : Int))
theorem tail_at {ts : List TK} {y : Str × Str} {rest : SH} (hy : Stop y) : ∀ (r : List Pt3) (p : Pt3) (i : Nat), (∀ x ∈ p :: r, x.2.2 < 10 ^ 12) → (shOf ts).drop i = shPt p.2 ++ (shTl r ++ y :: rest) → ∃ e, TmsAt ts i p.1 ((p :: r).map tm3) e ∧ (shOf ts).drop e = y :: rest
  | [], p, i, ok, h => by
    obtain ⟨j, h1, h2⟩ := pt_at (ok p List.mem_cons_self) hy.2.2 h
    obtain ⟨⟨a, h3⟩, _⟩ := sh_at h2
    exact ⟨j, .last h1 h3 (stop_no hy.1) (stop_no hy.2.1), h2⟩
  | q :: r, p, i, ok, h => by
    have h : (shOf ts).drop i = shPt p.2 ++ (sgM q.1 :: (shPt q.2 ++ (shTl r ++ y :: rest))) := by
      rw [h]
      unfold shTl
      rw [List.flatMap_cons, List.append_assoc]
      rfl
    obtain ⟨j, h1, h2⟩ := pt_at (ok p List.mem_cons_self) (y := sgM q.1) (by unfold sgM; split <;> decide +kernel) h
    obtain ⟨⟨a, h3⟩, h4⟩ := sh_at h2
    obtain ⟨e, h5, h6⟩ := tail_at hy r q (j + 1) (fun x hx => ok x (List.mem_cons_of_mem _ hx)) h4
    refine ⟨e, ?_, h6⟩
    cases z : q.1 with
    | true =>
      rw [z] at h5 h3
      exact .minus h1 h3 (mark_no (by decide +kernel)) mark_yes h5
    | false =>
      rw [z] at h5 h3
      exact .plus h1 h3 mark_yes h5
theorem shPt_head (p : Option Str × Nat) : ∃ k z r, shPt p = (k, z) :: r ∧ k ≠ "mark" := by
  obtain ⟨o, n⟩ := p
  cases o with
  | none => exact ⟨_, _, _, rfl, by decide +kernel⟩
  | some x =>
    unfold shPt
    simp only
    split
    · exact ⟨_, _, _, rfl, by decide +kernel⟩
    · exact ⟨_, _, _, rfl, by decide +kernel⟩
theorem ex_at {ts : List TK} {e : Ex} (g : GE e) {i : Nat} {y : Str × Str} {rest : SH} (hy : Stop y) (h : (shOf ts).drop i = shE e ++ y :: rest) : ∃ j, ExpAt ts i ((ptsE e).map tm3) j ∧ (shOf ts).drop j = y :: rest := by
  have hp := g.pt
  unfold shE at h
  cases q : ptsE e with
  | nil => exact absurd q (pts_ne e)
  | cons p r =>
    rw [q] at h hp
    have ok : ∀ x ∈ p :: r, x.2.2 < 10 ^ 12 := fun x hx => Nat.lt_of_lt_of_le (hp x hx).1 (by decide)
    cases z : p.1 with
    | true =>
      simp only [z, if_pos] at h
      obtain ⟨⟨a, h1⟩, h2⟩ := sh_at h
      have h2 : (shOf ts).drop (i + 1) = shPt p.2 ++ (shTl r ++ y :: rest) := by rw [h2, ← List.append_assoc]; rfl
      obtain ⟨j, h3, h4⟩ := tail_at hy r p (i + 1) ok h2
      rw [z] at h3
      exact ⟨j, ⟨_, h1, .inl ⟨mark_yes, h3⟩⟩, h4⟩
    | false =>
      simp only [z] at h
      rw [if_neg Bool.false_ne_true, List.nil_append, List.append_assoc] at h
      obtain ⟨j, h3, h4⟩ := tail_at hy r p i ok h
      obtain ⟨k, v, s, h5, h6⟩ := shPt_head p.2
      rw [h5] at h
      obtain ⟨⟨a, h1⟩, _⟩ := sh_at h
      rw [z] at h3
      exact ⟨j, ⟨_, h1, .inr ⟨mark_ne h6, h3⟩⟩, h4⟩
theorem sgn_abs (f : Int) : sgn (decide (f < 0)) * ((f.natAbs : Nat) : Int) = f := by
  unfold sgn
  by_cases h : f < 0
  · rw [decide_eq_true h, if_pos rfl]
    omega
  · rw [decide_eq_false h, if_neg Bool.false_ne_true]
    omega
theorem addF_new {fs : Fac} {x : Str} {v : Int} (h : x ∉ fs.map (·.1)) : addF fs x v = fs ++ [(x, v)] := by
  unfold addF
  rw [if_neg]
  intro z
  obtain ⟨p, hp, e⟩ := List.any_eq_true.mp z
  exact h (List.mem_map.mpr ⟨p, hp, of_decide_eq_true e⟩)
theorem fold_ts : ∀ (l : Fac) (c : Int) (fs : Fac), (fs.map (·.1) ++ l.map (·.1)).Nodup → (l.map fun p => tm3 (decide (p.2 < 0), some p.1, p.2.natAbs)).foldl accT (c, fs) = (c, fs ++ l)
  | [], c, fs, _ => by rw [List.append_nil]; rfl
  | p :: r, c, fs, nd => by
    rw [List.map_cons, List.foldl_cons]
    have e : accT (c, fs) (tm3 (decide (p.2 < 0), some p.1, p.2.natAbs)) = (c, fs ++ [p]) := by
      unfold accT tm3
      simp only
      rw [sgn_abs, addF_new fun z => ?_]
      rw [List.map_cons] at nd
      exact (List.nodup_append.mp nd).2.2 _ z _ List.mem_cons_self rfl
    rw [e, fold_ts r c (fs ++ [p]) (by
      rw [List.map_append, List.append_assoc]
      exact nd), List.append_assoc]
    rfl
theorem asc_nodup {l : List Str} (h : l.Pairwise asc) : l.Nodup := h.imp fun {a b} q z => by
  subst z
  unfold asc at q
  exact absurd q (List.lt_irrefl _)
theorem ex_fold {e : Ex} (g : GE e) : ((ptsE e).map tm3).foldl accT (0, []) = (e.c, e.ts) := by
  have nd := asc_nodup g.up
  unfold ptsE
  rw [List.map_append, List.map_map, List.foldl_append]
  have e1 : (e.ts.map (tm3 ∘ fun p => (decide (p.2 < 0), some p.1, p.2.natAbs))) = e.ts.map fun p => tm3 (decide (p.2 < 0), some p.1, p.2.natAbs) := rfl
  rw [e1, fold_ts e.ts 0 [] (by simpa using nd), List.nil_append]
  by_cases h : e.c ≠ 0 ∨ e.ts = []
  · rw [if_pos h]
    show accT (0, e.ts) (decide (e.c < 0), none, ((e.c.natAbs : Nat) : Int)) = _
    unfold accT
    simp only
    rw [sgn_abs, Int.zero_add]
  · rw [if_neg h]
    have : e.c = 0 := Classical.byContradiction fun z => h (.inl z)
    rw [this]
    rfl
theorem srt_pw {l : List Str} (h : PyProof.Rows.sortedS l = true) : l.Pairwise fun a b => ¬ b.cps.toList < a.cps.toList := by
  cases l with
  | nil => exact .nil
  | cons x r => exact rise_pw r x h
theorem asc_le {l : List Str} (h : l.Pairwise asc) : l.Pairwise fun a b => ¬ b.cps.toList < a.cps.toList := h.imp fun {a b} q z => List.lt_irrefl _ (List.lt_trans q z)
theorem ofF_self {fs l : Fac} (up : (fs.map Prod.fst).Pairwise asc) (nz : ∀ p ∈ fs, p.2 ≠ 0) (ho : OfF fs l) : l = fs := by
  obtain ⟨ys, yp, ysd, rfl⟩ := ho
  have nd := asc_nodup up
  have ey : ys = fs.map (·.1) := List.Perm.eq_of_pairwise (le := fun a b : Str => ¬ b.cps.toList < a.cps.toList) (fun a b _ _ q1 q2 => TL.ext_tl (List.le_antisymm (α := Nat) q1 q2)) (srt_pw ysd) (asc_le up) yp
  subst ey
  have e : (fs.map (·.1)).map (fun n => (n, getF fs n)) = fs := by
    rw [List.map_map]
    have : fs.map ((fun n => (n, getF fs n)) ∘ (·.1)) = fs.map id := List.map_congr_left fun p hp => by
      show (p.1, getF fs p.1) = p
      unfold getF
      rw [find_uniq nd hp]
      rfl
    rw [this, List.map_id]
  rw [e]
  exact List.filter_eq_self.mpr fun p hp => decide_eq_true (nz p hp)

/-! ### k03: statements, their lines and tokens -/
def sepH : List SH → SH
  | [] => []
  | [x] => x
  | x :: y :: r => x ++ mk "," :: sepH (y :: r)
def nmsS (ns : List Str) : Str := Txt.join ", " ns
def shNs (ns : List Str) : SH := sepH (ns.map fun x => [nme x])
def argS : Arg → Str
  | .place n => "&" ++ n
  | .value e => exprS e.c e.ts
def shA : Arg → SH
  | .place n => [mk "&", nme n]
  | .value e => shE e
def callS (c : Cal) : Str := c.1 ++ "(" ++ Txt.join ", " (c.2.map argS) ++ ")"
def shC (c : Cal) : SH := nme c.1 :: mk "(" :: (sepH (c.2.map shA) ++ [mk ")"])
def simS : St → Str
  | .set t e => t ++ " = " ++ exprS e.c e.ts
  | .input t => t ++ " = ?"
  | .call none f as => callS (f, as)
  | .call (some t) f as => t ++ " = " ++ callS (f, as)
  | .risk ks => "risk " ++ nmsS ks
  | .raise k => "raise " ++ k
  | .ret e => "return " ++ exprS e.c e.ts
  | _ => ""
def shSim : St → SH
  | .set t e => nme t :: mk "=" :: shE e
  | .input t => [nme t, mk "=", mk "?"]
  | .call none f as => shC (f, as)
  | .call (some t) f as => nme t :: mk "=" :: shC (f, as)
  | .risk ks => mk "risk" :: shNs ks
  | .raise k => [mk "raise", nme k]
  | .ret e => mk "return" :: shE e
  | _ => []
abbrev HdS := Str × SH × List St
def excH (h : Hd) : HdS := ("except " ++ nmsS h.ks, mk "except" :: shNs h.ks, h.b)
def headsS : St → List HdS
  | .ite a b => ("if", [mk "if"], a) :: (if b.isEmpty = true then [] else [("else", [mk "else"], b)])
  | .whl b => [("while", [mk "while"], b)]
  | .try_ b hs f => ("try", [mk "try"], b) :: (hs.map excH ++ (if hs.isEmpty = false ∧ f.isEmpty = true then [] else [(("finally", [mk "finally"], f) : HdS)]))
  | .undo ns b => [("undo " ++ nmsS ns, mk "undo" :: shNs ns, b)]
  | .with_ e l ks b => [(("with " ++ callS e ++ ", " ++ callS l) ++ (if ks.isEmpty = true then Str.empty else " swallow " ++ nmsS ks), mk "with" :: (shC e ++ mk "," :: (shC l ++ (if ks.isEmpty = true then [] else mk "swallow" :: shNs ks))), b)]
  | _ => []
def hdL (ind : Str) (b : Bool) (h : Str) : Str := ind ++ (if b = true then ("} " : Str) else Str.empty) ++ h ++ " {"
def lnHs (f : List St → List Str) (ind : Str) : Bool → List HdS → List Str
  | _, [] => [ind ++ "}"]
  | b, h :: r => hdL ind b h.1 :: (f h.2.2 ++ lnHs f ind true r)
def shHs (f : List St → SH) : Bool → List HdS → SH
  | _, [] => [mk "}"]
  | b, h :: r => (if b = true then [mk "}"] else []) ++ (h.2.1 ++ mk "{" :: (f h.2.2 ++ shHs f true r))
def linS : Nat → Str → St → List Str
  | 0, _, _ => []
  | n + 1, ind, s => if (headsS s).isEmpty = true then [ind ++ simS s] else lnHs (fun b => b.flatMap (linS n (ind ++ "  "))) ind false (headsS s)
def shS : Nat → St → SH
  | 0, _ => []
  | n + 1, s => if (headsS s).isEmpty = true then shSim s else shHs (fun b => b.flatMap (shS n)) false (headsS s)
def linB (n : Nat) (ind : Str) (b : List St) : List Str := b.flatMap (linS n ind)
def shB (n : Nat) (b : List St) : SH := b.flatMap (shS n)
def parS (p : Str × Bool) : Str := if p.2 = true then "&" ++ p.1 else p.1
def shPar (p : Str × Bool) : SH := if p.2 = true then [mk "&", nme p.1] else [nme p.1]
def fnL (n : Nat) (f : Fn) : List Str := ("def " ++ f.name ++ "(" ++ Txt.join ", " (f.ps.map parS) ++ ") {") :: (linB n "  " f.b ++ [("}" : Str)])
def shF (n : Nat) (f : Fn) : SH := mk "def" :: nme f.name :: mk "(" :: (sepH (f.ps.map shPar) ++ mk ")" :: mk "{" :: (shB n f.b ++ [mk "}"]))
def rowL (z : Str) (ns : List Str) : List Str := if ns.isEmpty = true then [] else [z ++ Txt.join " " ns]
def shRow (z : Str) (ns : List Str) : SH := if ns.isEmpty = true then [] else mk z :: ns.map nme
def treeL (n : Nat) (t : Tr) : List Str := rowL "globals " t.names ++ (rowL "kinds " t.kinds ++ (t.keeps.map (fun e => "keep " ++ exprS e.c e.ts) ++ t.fns.flatMap (fnL n)))
def shT (n : Nat) (t : Tr) : SH := shRow "globals" t.names ++ (shRow "kinds" t.kinds ++ (t.keeps.flatMap (fun e => mk "keep" :: shE e) ++ t.fns.flatMap (shF n)))
def textS (n : Nat) (t : Tr) : Str := Txt.join "" ((treeL n t).map fun l => l ++ "\n")
/-! what is drawn -/
def GN (x : Str) : Prop := isName x = true ∧ x.length ≤ 3
def GNs (ns : List Str) : Prop := ns.length ≤ 3 ∧ ∀ x ∈ ns, GN x
def GA : Arg → Prop
  | .place n => GN n
  | .value e => GE e
def GC (c : Cal) : Prop := GN c.1 ∧ c.2.length ≤ 2 ∧ ∀ a ∈ c.2, GA a
mutual
def gS : St → Prop
  | .set t e => GN t ∧ GE e
  | .input t => GN t
  | .raise k => GN k
  | .risk ks => ks ≠ [] ∧ GNs ks
  | .call t f as => (∀ x, t = some x → GN x) ∧ GC (f, as)
  | .ret e => GE e
  | .ite a b => gL a ∧ gL b
  | .whl b => gL b
  | .try_ b hs f => hs.length ≤ 2 ∧ gL b ∧ gHs hs ∧ gL f
  | .undo ns b => (ns ≠ [] ∧ GNs ns) ∧ gL b
  | .with_ e l ks b => GC e ∧ GC l ∧ GNs ks ∧ gL b
def gL : List St → Prop
  | [] => True
  | s :: r => gS s ∧ gL r
def gH : Hd → Prop
  | .mk ks b => (ks ≠ [] ∧ GNs ks) ∧ gL b
def gHs : List Hd → Prop
  | [] => True
  | h :: r => gH h ∧ gHs r
end
theorem gL_mem : ∀ {b : List St}, gL b → ∀ {s : St}, s ∈ b → gS s
  | x :: r, h, s, hs => by
    have h : gS x ∧ gL r := h
    rcases List.mem_cons.mp hs with z | z
    · rw [z]; exact h.1
    · exact gL_mem h.2 z
theorem gHs_mem : ∀ {b : List Hd}, gHs b → ∀ {s : Hd}, s ∈ b → gH s
  | x :: r, h, s, hs => by
    have h : gH x ∧ gHs r := h
    rcases List.mem_cons.mp hs with z | z
    · rw [z]; exact h.1
    · exact gHs_mem h.2 z
/-! the tokens of those texts -/
theorem ta_comma : TkA [44, 32] [mk ","] := by
  have h := TkA.lit (w := [44, 32]) (by decide +kernel)
  rwa [show shLit [44, 32] = [mk ","] by decide +kernel] at h
theorem tp_sep : ∀ {l : List (Str × SH)}, (∀ p ∈ l, TP p.1 p.2) → TkP (TL.joinL [44, 32] (l.map fun p => TL.tl p.1)) (sepH (l.map Prod.snd))
  | [], _ => TkA.nil.p
  | [x], h => h x List.mem_cons_self
  | x :: y :: r, h => by
    have ih := tp_sep (l := y :: r) fun p hp => h p (List.mem_cons_of_mem _ hp)
    have h0 := h x List.mem_cons_self
    exact TkP.appP h0 ⟨44, 32 :: _, rfl, by decide +kernel⟩ (ta_comma.appP ih)
theorem tl_comma : TL.tl (", " : Str) = [44, 32] := by decide +kernel
theorem tp_join {α : Type} {f : α → Str} {g : α → SH} {l : List α} (h : ∀ x ∈ l, TP (f x) (g x)) : TP (Txt.join ", " (l.map f)) (sepH (l.map g)) := by
  have := tp_sep (l := l.map fun x => (f x, g x)) fun p hp => by
    obtain ⟨x, hx, rfl⟩ := List.mem_map.mp hp
    exact h x hx
  rw [List.map_map, List.map_map] at this
  show TkP (TL.tl (Txt.join ", " (l.map f))) _
  rw [TL.join_eq, TL.tl_join, tl_comma, List.map_map]
  exact this
theorem tp_nms {ns : List Str} (h : GNs ns) : TP (nmsS ns) (shNs ns) := by
  have := tp_join (f := id) (g := fun x => [nme x]) (l := ns) fun x hx => TkP.name (h.2 x hx).1
  rwa [List.map_id] at this
theorem tp_rowL : ∀ {ns : List Str}, (∀ x ∈ ns, GN x) → TkP (TL.joinL [32] (ns.map TL.tl)) (ns.map nme)
  | [], _ => TkA.nil.p
  | [x], h => TkP.name (h x List.mem_cons_self).1
  | x :: y :: r, h => by
    have ih := tp_rowL (ns := y :: r) fun p hp => h p (List.mem_cons_of_mem _ hp)
    have g : TkA [32] [] := TkA.lit (w := [32]) (by decide +kernel)
    exact TkP.appP (TkP.name (h x List.mem_cons_self).1) ⟨32, _, rfl, by decide +kernel⟩ (g.appP ih)
theorem tp_row {ns : List Str} (h : ∀ x ∈ ns, GN x) : TP (Txt.join " " ns) (ns.map nme) := by
  show TkP (TL.tl (Txt.join " " ns)) _
  rw [TL.join_eq, TL.tl_join, show TL.tl (" " : Str) = [32] by decide +kernel]
  exact tp_rowL h
theorem ta_amp : TA "&" [mk "&"] := TA.lt _ (by decide +kernel) (by decide +kernel)
theorem tp_arg {a : Arg} (h : GA a) : TP (argS a) (shA a) := by
  cases a with
  | place n => exact TA.addP ta_amp (TkP.name h.1)
  | value e => exact tp_expr h
theorem ta_par : TA "(" [mk "("] ∧ BG "(" := ⟨TA.lt _ (by decide +kernel) (by decide +kernel), ⟨40, [], by decide +kernel, by decide +kernel⟩⟩
theorem ta_rap : TA ")" [mk ")"] ∧ BG ")" := ⟨TA.lt _ (by decide +kernel) (by decide +kernel), ⟨41, [], by decide +kernel, by decide +kernel⟩⟩
theorem ta_call {c : Cal} (h : GC c) : TA (callS c) (shC c) := by
  have h1 := TP.add (TkP.name h.1.1) ta_par.2 ta_par.1
  have h2 := TA.addP h1 (tp_join fun a ha => tp_arg (h.2.2 a ha))
  have h3 := TP.add h2 ta_rap.2 ta_rap.1
  have e : ((([nme c.1] ++ [mk "("]) ++ sepH (c.2.map shA)) ++ [mk ")"]) = shC c := by simp [shC]
  rw [← e]
  exact h3
/-- a keyword and a gap -/
theorem ta_kw {x : Str} (h : x ∈ KWS) : TA (x ++ " ") [mk x] := by
  have := TP.add (TkP.kw h) ⟨32, [], by decide +kernel, by decide +kernel⟩ (TA.lt " " (by decide +kernel) (s := []) (by decide +kernel))
  rwa [List.append_nil] at this
theorem ta_lead {z x : Str} (h : x ∈ KWS) (e : x ++ " " = z) : TA z [mk x] := e ▸ ta_kw h
theorem ta_eq : TA " = " [mk "="] ∧ BG " = " := ⟨TA.lt _ (by decide +kernel) (by decide +kernel), ⟨32, [61, 32], by decide +kernel, by decide +kernel⟩⟩
theorem ta_ask : TA " = ?" [mk "=", mk "?"] ∧ BG " = ?" := ⟨TA.lt _ (by decide +kernel) (by decide +kernel), ⟨32, [61, 32, 63], by decide +kernel, by decide +kernel⟩⟩
theorem tp_sim {s : St} (g : gS s) (h : headsS s = []) : TP (simS s) (shSim s) := by
  cases s with
  | set t e => exact TA.addP (TP.add (TkP.name g.1.1) ta_eq.2 ta_eq.1) (tp_expr g.2)
  | input t => exact (TP.add (TkP.name (show GN t from g).1) ta_ask.2 ta_ask.1).p
  | call t f as =>
    cases t with
    | none => exact (ta_call g.2).p
    | some x => exact (TA.add (TP.add (TkP.name (g.1 x rfl).1) ta_eq.2 ta_eq.1) (ta_call g.2)).p
  | risk ks => exact TA.addP (ta_lead (x := "risk") (by decide +kernel) (by decide +kernel)) (tp_nms g.2)
  | raise k => exact TA.addP (ta_lead (x := "raise") (by decide +kernel) (by decide +kernel)) (TkP.name (show GN k from g).1)
  | ret e => exact TA.addP (ta_lead (x := "return") (by decide +kernel) (by decide +kernel)) (tp_expr g)
  | ite a b => simp [headsS] at h
  | whl b => simp [headsS] at h
  | try_ b hs f => simp [headsS] at h
  | undo ns b => simp [headsS] at h
  | with_ e l ks b => simp [headsS] at h
theorem kw_in : ("if" : Str) ∈ KWS ∧ ("else" : Str) ∈ KWS ∧ ("while" : Str) ∈ KWS ∧ ("try" : Str) ∈ KWS := by decide +kernel
theorem kw_fin : ("finally" : Str) ∈ KWS := by decide +kernel
theorem tp_kw {z : Str} (h : z ∈ KWS) : TP z [mk z] := TkP.kw h
theorem tp_heads {s : St} (g : gS s) : ∀ h ∈ headsS s, TP h.1 h.2.1 ∧ gL h.2.2 := by
  intro h hm
  cases s with
  | ite a b =>
    have g : gL a ∧ gL b := g
    unfold headsS at hm
    rcases List.mem_cons.mp hm with rfl | hm
    · exact ⟨tp_kw kw_in.1, g.1⟩
    · split at hm
      · cases hm
      · rw [List.mem_singleton.mp hm]
        exact ⟨tp_kw kw_in.2.1, g.2⟩
  | whl b =>
    rw [List.mem_singleton.mp hm]
    exact ⟨tp_kw kw_in.2.2.1, g⟩
  | try_ b hs f =>
    have g : hs.length ≤ 2 ∧ gL b ∧ gHs hs ∧ gL f := g
    unfold headsS at hm
    rcases List.mem_cons.mp hm with rfl | hm
    · exact ⟨tp_kw kw_in.2.2.2, g.2.1⟩
    rcases List.mem_append.mp hm with hm | hm
    · obtain ⟨x, hx, rfl⟩ := List.mem_map.mp hm
      have gx := gHs_mem g.2.2.1 hx
      cases x with
      | mk ks b =>
        have gx : (ks ≠ [] ∧ GNs ks) ∧ gL b := gx
        exact ⟨TA.addP (ta_lead (x := "except") (by decide +kernel) (by decide +kernel)) (tp_nms gx.1.2), gx.2⟩
    · split at hm
      · cases hm
      · rw [List.mem_singleton.mp hm]
        exact ⟨tp_kw kw_fin, g.2.2.2⟩
  | undo ns b =>
    have g : (ns ≠ [] ∧ GNs ns) ∧ gL b := g
    rw [List.mem_singleton.mp hm]
    exact ⟨TA.addP (ta_lead (x := "undo") (by decide +kernel) (by decide +kernel)) (tp_nms g.1.2), g.2⟩
  | with_ e l ks b =>
    have g : GC e ∧ GC l ∧ GNs ks ∧ gL b := g
    rw [List.mem_singleton.mp hm]
    have h0 : TA ("with " ++ callS e) ([mk "with"] ++ shC e) := TA.add (ta_lead (x := "with") (by decide +kernel) (by decide +kernel)) (ta_call g.1)
    have hc : TA ", " [mk ","] := by
      show TkA (TL.tl ", ") _
      rw [tl_comma]
      exact ta_comma
    have h1 := TA.add (TA.add h0 hc) (ta_call g.2.1)
    have h2 : TP (if ks.isEmpty = true then Str.empty else " swallow " ++ nmsS ks) (if ks.isEmpty = true then [] else mk "swallow" :: shNs ks) := by
      split
      · exact TA.empty.p
      · have hs : TA " swallow " [mk "swallow"] := by
          have := TA.add (TA.lt " " (by decide +kernel) (s := []) (by decide +kernel)) (ta_kw (x := "swallow") (by decide +kernel))
          rwa [show (" " : Str) ++ ("swallow" ++ " ") = " swallow " by decide +kernel] at this
        exact TA.addP hs (tp_nms g.2.2.1)
    refine ⟨?_, g.2.2.2⟩
    have h3 := TA.addP h1 h2
    simpa using h3
  | set t e => cases hm
  | input t => cases hm
  | call t f as => cases hm
  | risk ks => cases hm
  | raise k => cases hm
  | ret e => cases hm
def lnT (ls : List Str) : List Nat := ls.flatMap fun l => TL.tl l ++ [10]
theorem lnT_app (a b : List Str) : lnT (a ++ b) = lnT a ++ lnT b := List.flatMap_append
theorem lnT_cons (a : Str) (b : List Str) : lnT (a :: b) = (TL.tl a ++ [10]) ++ lnT b := List.flatMap_cons
theorem ta_nl {l : Str} {s : SH} (h : TP l s) : TkA (TL.tl l ++ [10]) s := by
  have := TkP.app h ⟨10, [], rfl, by decide +kernel⟩ (TkA.lit (w := [10]) (by decide +kernel))
  rwa [show shLit [10] = [] by decide +kernel, List.append_nil] at this
theorem ta_flat {f : St → List Str} {g : St → SH} : ∀ {b : List St}, (∀ s ∈ b, TkA (lnT (f s)) (g s)) → TkA (lnT (b.flatMap f)) (b.flatMap g)
  | [], _ => TkA.nil
  | s :: r, h => by
    rw [List.flatMap_cons, List.flatMap_cons, lnT_app]
    exact (h s List.mem_cons_self).app (ta_flat fun x hx => h x (List.mem_cons_of_mem _ hx))
theorem ta_close : TA "}" [mk "}"] := TA.lt _ (by decide +kernel) (by decide +kernel)
theorem ta_back : TA "} " [mk "}"] := TA.lt _ (by decide +kernel) (by decide +kernel)
theorem ta_open : TA " {" [mk "{"] ∧ BG " {" := ⟨TA.lt _ (by decide +kernel) (by decide +kernel), ⟨32, [123], by decide +kernel, by decide +kernel⟩⟩
theorem ta_heads {f : List St → List Str} {g : List St → SH} {ind : Str} (hi : TA ind []) : ∀ {l : List HdS} {b : Bool}, (∀ h ∈ l, TP h.1 h.2.1 ∧ TkA (lnT (f h.2.2)) (g h.2.2)) → TkA (lnT (lnHs f ind b l)) (shHs g b l)
  | [], b, _ => by
    show TkA (lnT [ind ++ "}"]) _
    rw [lnT_cons, show lnT [] = [] from rfl, List.append_nil]
    exact ta_nl (TA.add hi ta_close).p
  | h :: r, b, hh => by
    have h1 := hh h List.mem_cons_self
    have ih := ta_heads (b := true) hi fun x hx => hh x (List.mem_cons_of_mem _ hx)
    show TkA (lnT (hdL ind b h.1 :: (f h.2.2 ++ lnHs f ind true r))) ((if b = true then [mk "}"] else []) ++ (h.2.1 ++ mk "{" :: (g h.2.2 ++ shHs g true r)))
    rw [lnT_cons, lnT_app]
    have hb : TA (if b = true then "} " else Str.empty) (if b = true then [mk "}"] else []) := by
      cases b with
      | true => exact ta_back
      | false => exact TA.empty
    have h0 := TP.add (TA.addP (TA.add hi hb) h1.1) ta_open.2 ta_open.1
    have h2 := (ta_nl h0.p).app (h1.2.app ih)
    simpa [hdL] using h2
theorem ind_add {ind : Str} (h : TA ind []) : TA (ind ++ "  ") [] := TA.add h (TA.lt _ (by decide +kernel) (s := []) (by decide +kernel))
theorem ta_lin : ∀ (n : Nat) {ind : Str} {s : St}, TA ind [] → gS s → TkA (lnT (linS n ind s)) (shS n s)
  | 0, _, _, _, _ => TkA.nil
  | n + 1, ind, s, hi, g => by
    unfold linS shS
    by_cases e : (headsS s).isEmpty = true
    · rw [if_pos e, if_pos e, lnT_cons, show lnT [] = [] from rfl, List.append_nil]
      exact ta_nl (TA.addP hi (tp_sim g (List.isEmpty_iff.mp e)))
    · rw [if_neg e, if_neg e]
      refine ta_heads hi fun h hm => ?_
      have := tp_heads g h hm
      exact ⟨this.1, ta_flat fun x hx => ta_lin n (ind_add hi) (gL_mem this.2 hx)⟩
structure GT (n : Nat) (t : Tr) : Prop where
  nm : t.names.length ≤ 2 ∧ ∀ x ∈ t.names, GN x
  kd : t.kinds.length ≤ 2 ∧ ∀ x ∈ t.kinds, GN x
  kp : t.keeps.length ≤ 1 ∧ ∀ e ∈ t.keeps, GE e
  fn : t.fns.length ≤ 3 ∧ ∀ f ∈ t.fns, GN f.name ∧ (f.ps.length ≤ 2 ∧ ∀ p ∈ f.ps, GN p.1) ∧ gL f.b ∧ dpB f.b ≤ n
  sz : (t.fns.map fun f => szB f.b).sum ≤ 33
theorem tp_par {p : Str × Bool} (h : GN p.1) : TP (parS p) (shPar p) := by
  unfold parS shPar
  cases p.2 with
  | true => exact TA.addP ta_amp (TkP.name h.1)
  | false => exact TkP.name h.1
theorem ta_fn {n : Nat} {f : Fn} (h1 : GN f.name) (h2 : ∀ p ∈ f.ps, GN p.1) (h3 : gL f.b) : TkA (lnT (fnL n f)) (shF n f) := by
  unfold fnL shF
  rw [lnT_cons, lnT_app, show lnT [("}" : Str)] = TL.tl "}" ++ [10] by rw [lnT_cons, show lnT [] = [] from rfl, List.append_nil]]
  have e : TA ") {" [mk ")", mk "{"] ∧ BG ") {" := ⟨TA.lt _ (by decide +kernel) (by decide +kernel), ⟨41, [32, 123], by decide +kernel, by decide +kernel⟩⟩
  have h := TP.add (TA.addP (TP.add (TA.addP (ta_lead (z := "def ") (x := "def") (by decide +kernel) (by decide +kernel)) (TkP.name h1.1)) ta_par.2 ta_par.1) (tp_join fun p hp => tp_par (h2 p hp))) e.2 e.1
  have hb : TkA (lnT (linB n "  " f.b)) (shB n f.b) := ta_flat fun s hs => ta_lin n (TA.lt "  " (by decide +kernel) (s := []) (by decide +kernel)) (gL_mem h3 hs)
  have := (ta_nl h.p).app (hb.app (ta_nl ta_close.p))
  simpa using this
theorem ta_row {z x : Str} (hx : x ∈ KWS) (e : x ++ " " = z) {ns : List Str} (h : ∀ n ∈ ns, GN n) : TkA (lnT (rowL z ns)) (shRow x ns) := by
  unfold rowL shRow
  split
  · exact TkA.nil
  · rw [lnT_cons, show lnT [] = [] from rfl, List.append_nil]
    exact ta_nl (TA.addP (ta_lead hx e) (tp_row h))
theorem ta_map {α : Type} {f : α → List Str} {g : α → SH} : ∀ {b : List α}, (∀ s ∈ b, TkA (lnT (f s)) (g s)) → TkA (lnT (b.flatMap f)) (b.flatMap g)
  | [], _ => TkA.nil
  | s :: r, h => by
    rw [List.flatMap_cons, List.flatMap_cons, lnT_app]
    exact (h s List.mem_cons_self).app (ta_map fun x hx => h x (List.mem_cons_of_mem _ hx))
theorem ta_tree {n : Nat} {t : Tr} (h : GT n t) : TkA (lnT (treeL n t)) (shT n t) := by
  unfold treeL shT
  rw [lnT_app, lnT_app, lnT_app]
  refine TkA.app (ta_row (by decide +kernel) (by decide +kernel) h.nm.2) (TkA.app (ta_row (by decide +kernel) (by decide +kernel) h.kd.2) (TkA.app ?_ (ta_map fun f hf => ta_fn (h.fn.2 f hf).1 (h.fn.2 f hf).2.1.2 (h.fn.2 f hf).2.2.1)))
  have e : t.keeps.map (fun e => "keep " ++ exprS e.c e.ts) = t.keeps.flatMap fun e => ["keep " ++ exprS e.c e.ts] := by rw [List.map_eq_flatMap]
  rw [e]
  refine ta_map fun e he => ?_
  rw [lnT_cons, show lnT [] = [] from rfl, List.append_nil]
  exact ta_nl (TA.addP (ta_lead (x := "keep") (by decide +kernel) (by decide +kernel)) (tp_expr (h.kp.2 e he)))
theorem tl_text (n : Nat) (t : Tr) : TL.tl (textS n t) = lnT (treeL n t) := by
  unfold textS
  rw [TL.join_eq, TL.tl_join, show TL.tl ("" : Str) = [] from rfl, List.map_map]
  have : ∀ ls : List Str, TL.joinL [] (ls.map (TL.tl ∘ fun l => l ++ "\n")) = lnT ls := fun ls => by
    induction ls with
    | nil => rfl
    | cons a r ih =>
      have e : TL.tl (a ++ "\n") = TL.tl a ++ [10] := by rw [TL.tl_append]; rfl
      cases r with
      | nil =>
        show TL.tl (a ++ "\n") = _
        rw [e, lnT_cons, show lnT [] = [] from rfl, List.append_nil]
      | cons b r =>
        show TL.tl (a ++ "\n") ++ ([] ++ TL.joinL [] _) = _
        rw [lnT_cons, e, List.nil_append]
        exact congrArg _ ih
  exact this _
theorem tk_text {n : Nat} {t : Tr} (h : GT n t) : Tkw (TL.tl (textS n t)) (shT n t ++ [((("end", "") : Str × Str))]) := by
  rw [tl_text]
  have := ta_tree h [] _ .nil
  rwa [List.append_nil] at this

/-! ### k03: the Reader over whole texts -/
abbrev sRExp : Stmt := inClass (topS 27) 4
abbrev NRExp : List Str := ["self", "word"]
abbrev PRExp : List Str := ["self", "word"]
theorem scRExp : FnScope NRExp PRExp (defScope sRExp) := ⟨rfl, rfl, rfl, by decide +kernel, rfl, by decide +kernel, by decide +kernel⟩
abbrev sRNms : Stmt := inClass (topS 27) 6
abbrev NRNms : List Str := ["self", "names"]
abbrev PRNms : List Str := ["self"]
theorem scRNms : FnScope NRNms PRNms (defScope sRNms) := ⟨rfl, rfl, rfl, by decide +kernel, rfl, by decide +kernel, by decide +kernel⟩
abbrev sRArg : Stmt := inClass (topS 27) 10
abbrev NRArg : List Str := ["self"]
abbrev PRArg : List Str := ["self"]
theorem scRArg : FnScope NRArg PRArg (defScope sRArg) := ⟨rfl, rfl, rfl, by decide +kernel, rfl, by decide +kernel, by decide +kernel⟩
abbrev sRArgs : Stmt := inClass (topS 27) 11
abbrev NRArgs : List Str := ["self", "args"]
abbrev PRArgs : List Str := ["self"]
theorem scRArgs : FnScope NRArgs PRArgs (defScope sRArgs) := ⟨rfl, rfl, rfl, by decide +kernel, rfl, by decide +kernel, by decide +kernel⟩
/-- a reader before these tokens -/
def RdS (C : Addr) (H : Hp) (S L : Addr) (d : Nat) (ts : List TK) (sh : SH) : Prop := ∃ i : Nat, RdAt C H S L i d ts ∧ (shOf ts).drop i = sh
section
variable {C S L : Addr} {H H' H1 : Hp} {d : Nat} {ts : List TK} {sh : SH}
theorem RdS.same (h : RdS C H S L d ts sh) (s : Same H H') : RdS C H' S L d ts sh := let ⟨i, a, b⟩ := h; ⟨i, a.same s, b⟩
theorem rdF_no {L : Addr} {i d : Nat} {m : Str} (h1 : ("tokens" : Str) ≠ m) (h2 : ("index_of_token" : Str) ≠ m) (h3 : ("depth" : Str) ≠ m) : (rdF L i d).lookup m = none := by
  have f1 : (m == ("tokens" : Str)) = false := beq_eq_false_iff_ne.mpr h1.symm
  have f2 : (m == ("index_of_token" : Str)) = false := beq_eq_false_iff_ne.mpr h2.symm
  have f3 : (m == ("depth" : Str)) = false := beq_eq_false_iff_ne.mpr h3.symm
  unfold rdF
  simp only [List.lookup, f1, f2, f3]
theorem RdS.ins (h : RdS C H S L d ts sh) : ∃ dx i, H S = some (.ins C dx (rdF L i d)) := by
  obtain ⟨i, ⟨dx, xs, e, _⟩, _⟩ := h
  exact ⟨dx, i, e⟩
theorem RdS.tps (h : RdS C H S L d ts sh) (b : Bt S H H') : Tps H H' := by
  obtain ⟨dx, i, e⟩ := h.ins
  exact ⟨fun a xs z => b _ _ z (ne_of z e (by intro z; cases z)), fun a o xs z => b _ _ z (ne_of z e (by intro z; cases z))⟩
/-- a list of the reader's own -/
structure Own (C : Addr) (H : Hp) (S L q : Addr) : Prop where
  S : q ≠ S
  L : q ≠ L
  n : H q = none
theorem RdS.own {q : Addr} (h : RdS C H S L d ts sh) (b : Bt S H0 H) (n : H q = none) : Own C H0 S L q := by
  obtain ⟨i, ⟨dx, xs, e1, e2, _⟩, _⟩ := h
  refine ⟨ne_of_none e1 n |>.symm, ne_of_none e2 n |>.symm, ?_⟩
  cases z : H0 q with
  | none => rfl
  | some o =>
    have qS : q ≠ S := (ne_of_none e1 n).symm
    rw [b _ _ z qS] at n
    cases n
theorem Own.bt {q : Addr} {o : HO} (w : Own C H S L q) (b : Bt S H H1) : Bt S H (upd H1 q o) := fun c o ec hc => by
  rw [upd_ne (ne_of_none ec w.n)]
  exact b _ _ ec hc
theorem Own.rd {q : Addr} {xs : List V} {o : HO} (w : Own C H S L q) (e : H1 q = some (.lst xs)) (h : RdS C H1 S L d ts sh) : RdS C (upd H1 q o) S L d ts sh := by
  obtain ⟨i, ⟨dy, ys, y1, y2, y3⟩, z⟩ := h
  exact ⟨i, ⟨dy, ys, by rw [upd_ne w.S.symm]; exact y1, by rw [upd_ne w.L.symm]; exact y2, Paired.mapP y3 fun _ _ q => q.same fun b zs eb => by rw [upd_ne (ne_of eb e (by intro z; cases z))]; exact eb⟩, z⟩
theorem RdS.tok {y : Str × Str} {r : SH} (h : RdS C H S L d ts (y :: r)) : ∃ (i : Nat) (a : Nat), RdAt C H S L i d ts ∧ ts[i]? = some ((y.1, y.2, a) : TK) ∧ (shOf ts).drop (i + 1) = r := by
  obtain ⟨i, h1, h2⟩ := h
  obtain ⟨⟨a, h3⟩, h4⟩ := sh_at h2
  exact ⟨i, a, h1, h3, h4⟩
end
/-! base methods over RdS -/
def spCurS (C : Addr) : Sp := fun vs H Q _ => ∃ (S L : Addr) (d : Nat) (ts : List TK) (y : Str × Str) (r : SH), vs = [.ref S] ∧ RdS C H S L d ts (y :: r) ∧ ∀ (p : Addr) (a : Nat), H p = some (.tup [.str y.1, .str y.2, .int (a : Nat)]) → Q (.ref p) H
def spNxtS (C : Addr) : Sp := fun vs H Q _ => ∃ (S L : Addr) (d : Nat) (ts : List TK) (y : Str × Str) (r : SH) (wd : Str), vs = [.ref S, .str wd] ∧ RdS C H S L d ts (y :: r) ∧ Q (.bl (decide (y = mk wd))) H
def spAccS (C : Addr) : Sp := fun vs H Q _ => ∃ (S L : Addr) (d : Nat) (ts : List TK) (y : Str × Str) (r : SH) (wd : Str), vs = [.ref S, .str wd] ∧ RdS C H S L d ts (y :: r) ∧
  ((y ≠ mk wd ∧ Q (.bl false) H) ∨ (y = mk wd ∧ ∀ H', Bt S H H' → RdS C H' S L d ts r → Q (.bl true) H'))
def spNamS (C : Addr) : Sp := fun vs H Q _ => ∃ (S L : Addr) (d : Nat) (ts : List TK) (x : Str) (r : SH), vs = [.ref S] ∧ RdS C H S L d ts (nme x :: r) ∧ ∀ H', Bt S H H' → RdS C H' S L d ts r → Q (.str x) H'
def spExpS (C : Addr) : Sp := fun vs H Q _ => ∃ (S L : Addr) (d : Nat) (ts : List TK) (wd : Str) (r : SH), vs = [.ref S, .str wd] ∧ RdS C H S L d ts (mk wd :: r) ∧ ∀ H', Bt S H H' → RdS C H' S L d ts r → Q .non H'
def spSumS (K : PySem.W.Frag) (C : Addr) : Sp := fun vs H Q _ => ∃ (S L : Addr) (d : Nat) (ts : List TK) (e : Ex) (y : Str × Str) (r : SH), vs = [.ref S] ∧ RdS C H S L d ts (shE e ++ y :: r) ∧ GE e ∧ Stop y ∧ ∀ (v : V) (H' : Hp), Bt S H H' → RdS C H' S L d ts (y :: r) → Dp K H' v (exD e) → Q v H'
def spRowS (C : Addr) : Sp := fun vs H Q _ => ∃ (S L : Addr) (d : Nat) (ts : List TK) (ns : List Str) (y : Str × Str) (r : SH), vs = [.ref S] ∧ RdS C H S L d ts (ns.map nme ++ y :: r) ∧ ns ≠ [] ∧ ns.length ≤ 900 ∧ y.1 ≠ "name" ∧ ∀ (p : Addr) (H' : Hp), Bt S H H' → RdS C H' S L d ts (y :: r) → H' p = some (.tup (ns.map V.str)) → Q (.ref p) H'
section
variable {P : Program} {w : World} {K : PySem.W.Frag} {mg : Str → Option Value} {base : Heap} {C : Addr}
theorem HasM.imp {CX : CXT} {k : Nat} {m : Str} {ps : List Str} {sp sp' : Sp} (M : HasM P w K mg base CX k C m ps sp) (h : ∀ vs H Q E, sp' vs H Q E → sp vs H Q E) : HasM P w K mg base CX k C m ps sp' :=
  let ⟨f, fd, a, F, b⟩ := M.ex
  ⟨f, fd, a, ⟨fun vs H Q E q => F.len vs H Q E (h _ _ _ _ q), fun A outer s H a us vs Q E hr e0 b r q => F.run A outer s H a us vs Q E hr e0 b r (h _ _ _ _ q)⟩, b⟩
theorem mark_iff {y : Str × Str} {wd : Str} {a : Nat} : isMark ((y.1, y.2, a) : TK) wd = decide (y = mk wd) := by
  by_cases h : y = mk wd
  · rw [h, decide_eq_true rfl]
    exact mark_yes
  · rw [decide_eq_false h]
    exact stop_no h
theorem cur_S (M : HasM P w K mg base CX0 1 C "current" PRCur (spCurr C)) : HasM P w K mg base CX0 1 C "current" PRCur (spCurS C) := M.imp fun vs H Q E h => by
  obtain ⟨S, L, d, ts, y, r, rfl, h, k⟩ := h
  obtain ⟨i, a, ra, ht, _⟩ := h.tok
  exact ⟨S, L, i, d, ts, _, rfl, ra, ht, fun p hp => k p a hp⟩
theorem nxt_S (M : HasM P w K mg base CX0 2 C "is_next" PRNext (spNext C)) : HasM P w K mg base CX0 2 C "is_next" PRNext (spNxtS C) := M.imp fun vs H Q E h => by
  obtain ⟨S, L, d, ts, y, r, wd, rfl, h, k⟩ := h
  obtain ⟨i, a, ra, ht, _⟩ := h.tok
  exact ⟨S, L, i, d, ts, _, wd, rfl, ra, ht, by rw [mark_iff]; exact k⟩
theorem acc_S (M : HasM P w K mg base CX0 3 C "accept" PRAcc (spAcc C)) : HasM P w K mg base CX0 3 C "accept" PRAcc (spAccS C) := M.imp fun vs H Q E h => by
  obtain ⟨S, L, d, ts, y, r, wd, rfl, h, k⟩ := h
  obtain ⟨i, a, ra, ht, hd⟩ := h.tok
  refine ⟨S, L, i, d, ts, _, wd, rfl, ra, ht, ?_⟩
  rcases k with ⟨h1, k⟩ | ⟨h1, k⟩
  · exact .inl ⟨by rw [mark_iff]; exact decide_eq_false h1, k⟩
  · exact .inr ⟨by rw [mark_iff]; exact decide_eq_true h1, fun H' b ra' => k H' b ⟨_, ra', hd⟩⟩
theorem nam_S (M : HasM P w K mg base CX0 2 C "read_name" PRName (spRName C)) : HasM P w K mg base CX0 2 C "read_name" PRName (spNamS C) := M.imp fun vs H Q E h => by
  obtain ⟨S, L, d, ts, x, r, rfl, h, k⟩ := h
  obtain ⟨i, a, ra, ht, hd⟩ := h.tok
  exact ⟨S, L, i, d, ts, _, rfl, ra, ht, rfl, fun H' b ra' => k H' b ⟨_, ra', hd⟩⟩
theorem ex_dp {H : Hp} {v : V} {e : Ex} (h : ExprAt H v e.c e.ts) : Dp K H v (exD e) := by
  obtain ⟨p, q, ys, rfl, e1, e2, e3⟩ := h
  refine .tup (SqT.of e1) (.cons (.int _) (.cons (.tup (SqT.of e2) ?_) .nil))
  refine DpAll.ofPaired (Paired.mapP e3 fun v r z => ?_)
  obtain ⟨a, rfl, ea⟩ := z
  exact .tup (SqT.of ea) (.cons (.str _) (.cons (.int _) .nil))
theorem sum_S (M : HasM P w K mg base CX0 5 C "read_expression" PRExpr (spExpr C)) : HasM P w K mg base CX0 5 C "read_expression" PRExpr (spSumS K C) := M.imp fun vs H Q E h => by
  obtain ⟨S, L, d, ts, e, y, r, rfl, ⟨i, ra, hd⟩, g, hy, k⟩ := h
  obtain ⟨j, hx, hj⟩ := ex_at g hy hd
  have lp : (ptsE e).length ≤ 9 := by
    have := g.ln
    unfold ptsE
    rw [List.length_append, List.length_map]
    split
    · show e.ts.length + 1 ≤ 9; omega
    · show e.ts.length + 0 ≤ 9; omega
  refine ⟨S, L, i, d, ts, (ptsE e).map tm3, j, rfl, ra, hx, by rw [List.length_map]; omega, fun p l H' b ra' ho he => ?_⟩
  rw [ex_fold g] at ho he
  have el := ofF_self g.up (fun p hp => (g.nm p hp).2.2.1) ho
  subst el
  exact k _ H' b ⟨j, ra', hj⟩ (ex_dp he)
theorem row_S (M : HasM P w K mg base CX0 3 C "read_row" PRRow (spRow C)) : HasM P w K mg base CX0 3 C "read_row" PRRow (spRowS C) := M.imp fun vs H Q E h => by
  obtain ⟨S, L, d, ts, ns, y, r, rfl, ⟨i, ra, hd⟩, n0, n1, hy, k⟩ := h
  have go : ∀ (ns : List Str) (i : Nat), (shOf ts).drop i = ns.map nme ++ y :: r → NamesAt ts i ns ∧ (shOf ts).drop (i + ns.length) = y :: r := fun ns => by
    induction ns with
    | nil => exact fun i h => ⟨fun k nm e => by simp at e, h⟩
    | cons n l ih =>
      intro i h
      obtain ⟨⟨a, h1⟩, h2⟩ := sh_at (x := nme n) (rest := l.map nme ++ y :: r) h
      obtain ⟨h3, h4⟩ := ih (i + 1) h2
      refine ⟨fun k nm e => ?_, by rw [List.length_cons, show i + (l.length + 1) = i + 1 + l.length by omega]; exact h4⟩
      cases k with
      | zero =>
        simp at e
        subst e
        exact ⟨a, h1⟩
      | succ k =>
        obtain ⟨b, hb⟩ := h3 k nm (by simpa using e)
        exact ⟨b, by rw [show i + (k + 1) = i + 1 + k by omega]; exact hb⟩
  obtain ⟨h1, h2⟩ := go ns i hd
  obtain ⟨⟨a, h3⟩, _⟩ := sh_at h2
  exact ⟨S, L, i, d, ts, ns, _, rfl, ra, h1, List.length_pos_iff.mpr n0, by omega, h3, hy, fun p H' b ra' hp => k p H' b ⟨_, ra', h2⟩ hp⟩
theorem ok_RExp {f : Addr} {fd : FuncData} (F : Fun K "expect" "Reader.expect" sRExp f fd) (TR : TxR K C) (MA : HasM P w K mg base CX0 3 C "accept" PRAcc (spAccS C)) : FnOk P w K mg base CX0 4 f fd PRExp (spExpS C) := by
  refine F.ok scRExp (fun vs H Q E h => ?_) (fun cdv A outer s H vs Q E hr h => ?_)
  · obtain ⟨S, L, d, ts, wd, r, rfl, _⟩ := h
    rfl
  · obtain ⟨S, L, d, ts, wd, r, rfl, ra, k⟩ := h
    obtain ⟨dx, i, e1⟩ := ra.ins
    refine ⟨_, (pss_one (ps_if (pt_not (pt_val (pe_methH (pv 0) TR.cl MA hr pass0 (pa_cons (pv 1) pa_nil))))
  (pss_one ps_never)
  pss_nil)), ?_⟩
    exact ⟨_, rfl, S, dx, _, rfl, e1, rfl, _, rfl, S, L, d, ts, _, r, wd, rfl, ra, .inr ⟨rfl, fun H' b ra' => ⟨true, rfl, iteE rfl (k H' b ra')⟩⟩⟩
end
/-! names and args -/
theorem sep_cons {x : SH} {l : List SH} : sepH (x :: l) = x ++ (l.flatMap fun s => mk "," :: s) := by
  induction l generalizing x with
  | nil => show x = x ++ []; rw [List.append_nil]
  | cons y r ih =>
    show x ++ mk "," :: sepH (y :: r) = _
    rw [ih, List.flatMap_cons]
    rfl
def spNmsS (C : Addr) : Sp := fun vs H Q _ => ∃ (S L : Addr) (d : Nat) (ts : List TK) (ns : List Str) (y : Str × Str) (r : SH), vs = [.ref S] ∧ RdS C H S L d ts (shNs ns ++ y :: r) ∧ ns ≠ [] ∧ ns.length ≤ 900 ∧ y ≠ mk "," ∧ ∀ (p : Addr) (H' : Hp), Bt S H H' → RdS C H' S L d ts (y :: r) → H' p = some (.tup (ns.map V.str)) → Q (.ref p) H'
section
variable {P : Program} {w : World} {K : PySem.W.Frag} {mg : Str → Option Value} {base : Heap} {C : Addr}
theorem ok_RNms {f : Addr} {fd : FuncData} (F : Fun K "read_names" "Reader.read_names" sRNms f fd) (T : TxRd mg) (TR : TxR K C) (MN : HasM P w K mg base CX0 2 C "read_name" PRName (spNamS C)) (MA : HasM P w K mg base CX0 3 C "accept" PRAcc (spAccS C)) : FnOk P w K mg base CX0 4 f fd PRNms (spNmsS C) := by
  refine F.ok scRNms (fun vs H Q E h => ?_) (fun cdv A outer s H vs Q E hr h => ?_)
  · obtain ⟨S, L, d, ts, ns, y, r, rfl, _⟩ := h
    rfl
  · obtain ⟨S, L, d, ts, ns, y, r, rfl, ra, n0, n1, hy, k⟩ := h
    have hr2 := hr.mono (j := 2) (by decide)
    refine ⟨_, (pss_cons (ps_set (i := 1) scRNms.nd rfl (Or.inl rfl) (pe_lst (pa_cons (pe_methH0 (pv 0) TR.cl MN hr2 pass0) pa_nil)))
  (pss_cons (ps_while PassesOwn.never (pt_val (pe_methH (pv 0) TR.cl MA hr pass0 (pa_cons pe_str pa_nil)))
  (pss_one (ps_expr (pe_bm PySem.F.plainAttrs_list PySem.F.slot_list_append PySem.F.type_list_append mt_append (pv 1) (pa_cons (pe_methH0 (pv 0) TR.cl MN hr2 pass0) pa_nil)))))
  (pss_one (ps_ret (pe_callTy call_tuple_of (by rfl) T.n_tuple bb_tuple (pa_cons (pv 1) pa_nil)))))), ?_⟩
    obtain ⟨n, l, rfl⟩ : ∃ n l, ns = n :: l := by
      cases ns with
      | nil => exact absurd rfl n0
      | cons n l => exact ⟨n, l, rfl⟩
    have ll : l.length ≤ 900 := by have : l.length + 1 ≤ 900 := n1; omega
    have ra0 : RdS C H S L d ts (nme n :: ((l.flatMap fun x => [mk ",", nme x]) ++ y :: r)) := by
      have e : shNs (n :: l) = nme n :: (l.flatMap fun x => [mk ",", nme x]) := by
        unfold shNs
        rw [List.map_cons, sep_cons, List.flatMap_map]
        rfl
      rw [e] at ra
      exact ra
    obtain ⟨dx, i, e1⟩ := ra0.ins
    refine ⟨_, rfl, S, dx, _, rfl, e1, rfl, S, L, d, ts, n, _, rfl, ra0, fun H1 b1 ra1 => ⟨(by show 1 ≤ sizeLine; decide), fun X hX => ?_⟩⟩
    have w := ra1.own b1 hX
    have s2 := same_new (o := .lst [.str n]) hX
    refine ⟨fun m σ H' => ∃ j : Nat, m = l.length - j ∧ j ≤ l.length ∧ σ = [some (.ref S), some (.ref X)] ∧ Bt S H H' ∧ RdS C H' S L d ts (((l.drop j).flatMap fun x => [mk ",", nme x]) ++ y :: r) ∧ H' X = some (.lst ((n :: l.take j).map V.str)), ⟨_, 0, rfl, Nat.zero_le _, rfl, b1.trans (.of s2), ra1.same s2, upd_same⟩, ?_⟩
    rintro m σ H3 ⟨j, rfl, jl, rfl, b3, ra3, eX⟩
    obtain ⟨dx3, i3, e3⟩ := ra3.ins
    rcases Nat.lt_or_ge j l.length with q | q
    · obtain ⟨nj, hj⟩ : ∃ nj, l[j]? = some nj := ⟨_, List.getElem?_eq_getElem q⟩
      have ed : l.drop j = nj :: l.drop (j + 1) := by
        rw [List.drop_eq_getElem_cons q]
        rw [List.getElem?_eq_getElem q] at hj
        rw [Option.some.inj hj]
      rw [ed, List.flatMap_cons] at ra3
      refine ⟨_, rfl, S, dx3, _, rfl, e3, rfl, S, L, d, ts, mk ",", _, ",", rfl, ra3, .inr ⟨rfl, fun H4 b4 ra4 => ⟨true, rfl, iteS rfl ?_⟩⟩⟩
      refine ⟨fun σ' H' => σ' = [some (.ref S), some (.ref X)] ∧ Bt S H H' ∧ RdS C H' S L d ts (((l.drop (j + 1)).flatMap fun x => [mk ",", nme x]) ++ y :: r) ∧ H' X = some (.lst ((n :: l.take (j + 1)).map V.str)), fun σ' H' ⟨u1, u2, u3, u4⟩ => ⟨l.length - (j + 1), by omega, j + 1, rfl, by omega, u1, u2, u3, u4⟩, ?_⟩
      obtain ⟨dx4, i4, e4⟩ := ra4.ins
      have eX4 := b4 _ _ eX w.S
      refine ⟨_, rfl, .inl ⟨rfl, _, SqL.of eX4⟩, _, rfl, S, dx4, _, rfl, e4, rfl, S, L, d, ts, nj, _, rfl, ra4, fun H5 b5 ra5 => ?_⟩
      have eX5 := b5 _ _ eX4 w.S
      refine ⟨X, _, _, rfl, rfl, eX5, small1000 (by rw [List.length_map, List.length_cons, List.length_take]; omega), rfl, w.bt ((b3.trans b4).trans b5), w.rd eX5 ra5, ?_⟩
      rw [upd_same, take_snoc hj, List.map_cons, List.map_cons, List.map_append]
      rfl
    · have ej : j = l.length := by omega
      subst ej
      rw [List.drop_length] at ra3
      rw [List.take_length] at eX
      refine ⟨_, rfl, S, dx3, _, rfl, e3, rfl, S, L, d, ts, y, r, ",", rfl, ra3, .inl ⟨hy, false, rfl, iteE rfl ?_⟩⟩
      refine ⟨_, rfl, X, _, rfl, .inl ⟨SqL.of eX, fun p hp => ?_⟩⟩
      have s4 := same_new (o := .tup ((n :: l).map V.str)) hp
      exact k p _ (b3.trans (.of s4)) (ra3.same s4) upd_same
/-- read_arg -/
def spArgS (K : PySem.W.Frag) (C : Addr) : Sp := fun vs H Q _ => ∃ (S L : Addr) (d : Nat) (ts : List TK) (a : Arg) (y : Str × Str) (r : SH), vs = [.ref S] ∧ RdS C H S L d ts (shA a ++ y :: r) ∧ GA a ∧ Stop y ∧ ∀ (v : V) (H' : Hp), Bt S H H' → RdS C H' S L d ts (y :: r) → Dp K H' v (argD a) → Q v H'
theorem shE_head (e : Ex) : ∃ y r, shE e = y :: r ∧ (y = mk "-" ∨ y.1 ≠ "mark") := by
  unfold shE
  cases q : ptsE e with
  | nil => exact absurd q (pts_ne e)
  | cons p r =>
    simp only
    cases p.1 with
    | true => exact ⟨_, _, rfl, .inl rfl⟩
    | false =>
      obtain ⟨k, v, s, h5, h6⟩ := shPt_head p.2
      rw [if_neg Bool.false_ne_true, List.nil_append, h5]
      exact ⟨_, _, rfl, .inr h6⟩
theorem shE_no (e : Ex) {z : Str} (hz : mk "-" ≠ mk z) : ∃ y r, shE e = y :: r ∧ y ≠ mk z := by
  obtain ⟨y, r, h, q⟩ := shE_head e
  refine ⟨y, r, h, fun z => ?_⟩
  rcases q with q | q
  · exact hz (q.symm.trans z)
  · rw [z] at q
    exact q rfl
theorem ok_RArg {f : Addr} {fd : FuncData} (F : Fun K "read_arg" "Reader.read_arg" sRArg f fd) (TR : TxR K C) (MN : HasM P w K mg base CX0 2 C "read_name" PRName (spNamS C)) (MA : HasM P w K mg base CX0 3 C "accept" PRAcc (spAccS C)) (ME : HasM P w K mg base CX0 5 C "read_expression" PRExpr (spSumS K C)) : FnOk P w K mg base CX0 6 f fd PRArg (spArgS K C) := by
  refine F.ok scRArg (fun vs H Q E h => ?_) (fun cdv A outer s H vs Q E hr h => ?_)
  · obtain ⟨S, L, d, ts, a, y, r, rfl, _⟩ := h
    rfl
  · obtain ⟨S, L, d, ts, a, y, r, rfl, ra, g, hy, k⟩ := h
    have hr2 := hr.mono (j := 2) (by decide)
    have hr3 := hr.mono (j := 3) (by decide)
    refine ⟨_, (pss_cons (ps_if (pt_val (pe_methH (pv 0) TR.cl MA hr3 pass0 (pa_cons pe_str pa_nil)))
  (pss_one (ps_ret (pe_tup (pa_cons pe_str (pa_cons (pe_methH0 (pv 0) TR.cl MN hr2 pass0) pa_nil)))))
  pss_nil)
  (pss_one (ps_ret (pe_tup (pa_cons pe_str (pa_cons (pe_methH0 (pv 0) TR.cl ME hr pass0) pa_nil)))))), ?_⟩
    obtain ⟨dx, i, e1⟩ := ra.ins
    cases a with
    | place n =>
      refine ⟨_, rfl, S, dx, _, rfl, e1, rfl, S, L, d, ts, mk "&", _, "&", rfl, ra, .inr ⟨rfl, fun H1 b1 ra1 => ⟨true, rfl, iteS rfl ?_⟩⟩⟩
      obtain ⟨dx1, i1, e2⟩ := ra1.ins
      refine ⟨_, rfl, S, dx1, _, rfl, e2, rfl, S, L, d, ts, n, _, rfl, ra1, fun H2 b2 ra2 => ⟨(by show 2 ≤ sizeLine; decide), fun p hp => ?_⟩⟩
      have s3 := same_new (o := .tup [.str "place", .str n]) hp
      exact k _ _ ((b1.trans b2).trans (.of s3)) (ra2.same s3) (.tup (SqT.of upd_same) (.cons (.str _) (.cons (.str _) .nil)))
    | value e =>
      obtain ⟨y0, r0, h0, h1⟩ := shE_no e (z := "&") (by decide +kernel)
      have ra : RdS C H S L d ts (shE e ++ y :: r) := ra
      have ra0 := ra
      rw [h0] at ra0
      refine ⟨_, rfl, S, dx, _, rfl, e1, rfl, S, L, d, ts, y0, _, "&", rfl, ra0, .inl ⟨h1, false, rfl, iteE rfl ?_⟩⟩
      refine ⟨_, rfl, S, dx, _, rfl, e1, rfl, S, L, d, ts, e, y, r, rfl, ra, g, hy, fun v H2 b2 ra2 dv => ⟨(by show 2 ≤ sizeLine; decide), fun p hp => ?_⟩⟩
      have s3 := same_new (o := .tup [.str "value", v]) hp
      exact k _ _ (b2.trans (.of s3)) (ra2.same s3) (.tup (SqT.of upd_same) (.cons (.str _) (.cons (dv.same s3) .nil)))
end

/-! ### k03: read_args, read_param -/
abbrev sRPar : Stmt := inClass (topS 27) 17
abbrev NRPar : List Str := ["self", "by_place"]
abbrev PRPar : List Str := ["self"]
theorem scRPar : FnScope NRPar PRPar (defScope sRPar) := ⟨rfl, rfl, rfl, by decide +kernel, rfl, by decide +kernel, by decide +kernel⟩
def spArgsS (K : PySem.W.Frag) (C : Addr) : Sp := fun vs H Q _ => ∃ (S L : Addr) (d : Nat) (ts : List TK) (as : List Arg) (r : SH), vs = [.ref S] ∧ RdS C H S L d ts (mk "(" :: (sepH (as.map shA) ++ mk ")" :: r)) ∧ as.length ≤ 900 ∧ (∀ a ∈ as, GA a) ∧ ∀ (v : V) (H' : Hp), Bt S H H' → RdS C H' S L d ts r → Dp K H' v (.tuple (as.map argD)) → Q v H'
def spParS (C : Addr) : Sp := fun vs H Q _ => ∃ (S L : Addr) (d : Nat) (ts : List TK) (p : Str × Bool) (r : SH), vs = [.ref S] ∧ RdS C H S L d ts (shPar p ++ r) ∧ ∀ (q : Addr) (H' : Hp), Bt S H H' → RdS C H' S L d ts r → H' q = some (.tup [.str p.1, .bl p.2]) → Q (.ref q) H'
theorem shA_head (a : Arg) {z : Str} (h1 : mk "-" ≠ mk z) (h2 : mk "&" ≠ mk z) : ∃ y r, shA a = y :: r ∧ y ≠ mk z := by
  cases a with
  | place n => exact ⟨_, _, rfl, h2⟩
  | value e => exact shE_no e h1
theorem stop_comma : Stop (mk ",") := ⟨by decide +kernel, by decide +kernel, by decide +kernel⟩
theorem stop_rap : Stop (mk ")") := ⟨by decide +kernel, by decide +kernel, by decide +kernel⟩
theorem rap_comma : mk ")" ≠ mk "," := by decide +kernel
section
variable {P : Program} {w : World} {K : PySem.W.Frag} {mg : Str → Option Value} {base : Heap} {C : Addr}
theorem ok_RArgs {f : Addr} {fd : FuncData} (F : Fun K "read_args" "Reader.read_args" sRArgs f fd) (T : TxRd mg) (TR : TxR K C) (MG : HasM P w K mg base CX0 6 C "read_arg" PRArg (spArgS K C)) (MA : HasM P w K mg base CX0 3 C "accept" PRAcc (spAccS C)) (ME : HasM P w K mg base CX0 4 C "expect" PRExp (spExpS C)) : FnOk P w K mg base CX0 7 f fd PRArgs (spArgsS K C) := by
  refine F.ok scRArgs (fun vs H Q E h => ?_) (fun cdv A outer s H vs Q E hr h => ?_)
  · obtain ⟨S, L, d, ts, as, r, rfl, _⟩ := h
    rfl
  · obtain ⟨S, L, d, ts, as, r, rfl, ra, n1, ga, k⟩ := h
    have hr3 := hr.mono (j := 3) (by decide)
    have hr4 := hr.mono (j := 4) (by decide)
    refine ⟨_, (pss_cons (ps_expr (pe_methH (pv 0) TR.cl ME hr4 pass0 (pa_cons pe_str pa_nil)))
  (pss_cons (ps_set (i := 1) scRArgs.nd rfl (Or.inl rfl) (pe_lst pa_nil))
  (pss_cons (ps_if (pt_val (pe_methH (pv 0) TR.cl MA hr3 pass0 (pa_cons pe_str pa_nil)))
  (pss_one (ps_ret (pe_tup pa_nil)))
  pss_nil)
  (pss_cons (ps_expr (pe_bm PySem.F.plainAttrs_list PySem.F.slot_list_append PySem.F.type_list_append mt_append (pv 1) (pa_cons (pe_methH0 (pv 0) TR.cl MG hr pass0) pa_nil)))
  (pss_cons (ps_while PassesOwn.never (pt_val (pe_methH (pv 0) TR.cl MA hr3 pass0 (pa_cons pe_str pa_nil)))
  (pss_one (ps_expr (pe_bm PySem.F.plainAttrs_list PySem.F.slot_list_append PySem.F.type_list_append mt_append (pv 1) (pa_cons (pe_methH0 (pv 0) TR.cl MG hr pass0) pa_nil)))))
  (pss_cons (ps_expr (pe_methH (pv 0) TR.cl ME hr4 pass0 (pa_cons pe_str pa_nil)))
  (pss_one (ps_ret (pe_callTy call_tuple_of (by rfl) T.n_tuple bb_tuple (pa_cons (pv 1) pa_nil)))))))))), ?_⟩
    obtain ⟨dx, i, e1⟩ := ra.ins
    refine ⟨_, rfl, S, dx, _, rfl, e1, rfl, S, L, d, ts, "(", _, rfl, ra, fun H1 b1 ra1 => ⟨(by show 0 ≤ sizeLine; decide), fun X hX => ?_⟩⟩
    have w := ra1.own b1 hX
    have s2 := same_new (o := .lst []) hX
    have ra2 := ra1.same s2
    have b2 := b1.trans (.of s2)
    have eX2 : upd H1 X (.lst []) X = some (.lst []) := upd_same
    generalize upd H1 X (.lst []) = H2 at *
    obtain ⟨dx2, i2, e2⟩ := ra2.ins
    cases as with
    | nil =>
      have ra2 : RdS C H2 S L d ts (mk ")" :: r) := ra2
      refine ⟨_, rfl, S, dx2, _, rfl, e2, rfl, S, L, d, ts, mk ")", r, ")", rfl, ra2, .inr ⟨rfl, fun H3 b3 ra3 => ⟨true, rfl, iteS rfl ⟨(by show 0 ≤ sizeLine; decide), fun t ht => ?_⟩⟩⟩⟩
      have s4 := same_new (o := .tup []) ht
      exact k _ _ ((b2.trans b3).trans (.of s4)) (ra3.same s4) (.tup (SqT.of upd_same) .nil)
    | cons a l =>
      have ll : l.length ≤ 900 := by have : l.length + 1 ≤ 900 := n1; omega
      have ra2 : RdS C H2 S L d ts (shA a ++ ((l.flatMap fun x => mk "," :: shA x) ++ mk ")" :: r)) := by
        have e : sepH ((a :: l).map shA) ++ mk ")" :: r = shA a ++ ((l.flatMap fun x => mk "," :: shA x) ++ mk ")" :: r) := by
          rw [List.map_cons, sep_cons, List.flatMap_map, List.append_assoc]
        rw [e] at ra2
        exact ra2
      obtain ⟨y0, r0, h0, h1⟩ := shA_head a (z := ")") (by decide +kernel) (by decide +kernel)
      have ra20 := ra2
      rw [h0] at ra20
      refine ⟨_, rfl, S, dx2, _, rfl, e2, rfl, S, L, d, ts, y0, _, ")", rfl, ra20, .inl ⟨h1, false, rfl, iteE rfl ?_⟩⟩
      have hd : ∃ y r', (l.flatMap fun x => mk "," :: shA x) ++ mk ")" :: r = y :: r' ∧ Stop y := by
        cases l with
        | nil => exact ⟨_, _, rfl, stop_rap⟩
        | cons x l => exact ⟨_, _, rfl, stop_comma⟩
      obtain ⟨y1, r1, h2, h3⟩ := hd
      have ra21 := ra2
      rw [h2] at ra21
      refine ⟨_, rfl, .inl ⟨rfl, _, SqL.of eX2⟩, _, rfl, S, dx2, _, rfl, e2, rfl, S, L, d, ts, a, y1, r1, rfl, ra21, ga a List.mem_cons_self, h3, fun va H3 b3 ra3 dva => ?_⟩
      have eX3 := b3 _ _ eX2 w.S
      have ra4 := w.rd (o := .lst ([] ++ [va])) eX3 ra3
      have t4 : Tps H3 (upd H3 X (.lst ([] ++ [va]))) := Tps.lst eX3
      have b4 := w.bt (o := .lst ([] ++ [va])) (b2.trans b3)
      have eX4 : upd H3 X (.lst ([] ++ [va])) X = some (.lst [va]) := upd_same
      refine ⟨X, _, _, rfl, rfl, eX3, small1000 (by show 0 ≤ 1000; decide), ?_⟩
      have dva4 := dva.tps t4 (noL_arg a)
      rw [← h2] at ra4
      generalize upd H3 X (.lst ([] ++ [va])) = H4 at *
      refine ⟨fun m σ H' => ∃ (j : Nat) (xs : List V), m = l.length - j ∧ j ≤ l.length ∧ σ = [some (.ref S), some (.ref X)] ∧ Bt S H H' ∧ RdS C H' S L d ts (((l.drop j).flatMap fun x => mk "," :: shA x) ++ mk ")" :: r) ∧ H' X = some (.lst (va :: xs)) ∧ Dp K H' va (argD a) ∧ Paired (fun v x => Dp K H' v (argD x)) xs (l.take j), ⟨_, 0, [], rfl, Nat.zero_le _, rfl, b4, ra4, eX4, dva4, .nil⟩, ?_⟩
      rintro m σ H5 ⟨j, xs, rfl, jl, rfl, b5, ra5, eX5, dva5, px5⟩
      obtain ⟨dx5, i5, e5⟩ := ra5.ins
      have lxs := Paired.length px5
      rcases Nat.lt_or_ge j l.length with q | q
      · obtain ⟨nj, hj⟩ : ∃ nj, l[j]? = some nj := ⟨_, List.getElem?_eq_getElem q⟩
        have ed : l.drop j = nj :: l.drop (j + 1) := by
          rw [List.drop_eq_getElem_cons q]
          rw [List.getElem?_eq_getElem q] at hj
          rw [Option.some.inj hj]
        rw [ed, List.flatMap_cons] at ra5
        refine ⟨_, rfl, S, dx5, _, rfl, e5, rfl, S, L, d, ts, mk ",", _, ",", rfl, ra5, .inr ⟨rfl, fun H6 b6 ra6 => ⟨true, rfl, iteS rfl ?_⟩⟩⟩
        refine ⟨fun σ' H' => ∃ ys : List V, σ' = [some (.ref S), some (.ref X)] ∧ Bt S H H' ∧ RdS C H' S L d ts (((l.drop (j + 1)).flatMap fun x => mk "," :: shA x) ++ mk ")" :: r) ∧ H' X = some (.lst (va :: ys)) ∧ Dp K H' va (argD a) ∧ Paired (fun v x => Dp K H' v (argD x)) ys (l.take (j + 1)), fun σ' H' ⟨ys, u1, u2, u3, u4, u5, u6⟩ => ⟨l.length - (j + 1), by omega, j + 1, ys, rfl, by omega, u1, u2, u3, u4, u5, u6⟩, ?_⟩
        obtain ⟨dx6, i6, e6⟩ := ra6.ins
        have eX6 := b6 _ _ eX5 w.S
        have hd : ∃ y r', ((l.drop (j + 1)).flatMap fun x => mk "," :: shA x) ++ mk ")" :: r = y :: r' ∧ Stop y := by
          cases l.drop (j + 1) with
          | nil => exact ⟨_, _, rfl, stop_rap⟩
          | cons x l => exact ⟨_, _, rfl, stop_comma⟩
        obtain ⟨y2, r2, h4, h5⟩ := hd
        have ra6 : RdS C H6 S L d ts (shA nj ++ (((l.drop (j + 1)).flatMap fun x => mk "," :: shA x) ++ mk ")" :: r)) := by rw [← List.append_assoc]; exact ra6
        rw [h4] at ra6
        refine ⟨_, rfl, .inl ⟨rfl, _, SqL.of eX6⟩, _, rfl, S, dx6, _, rfl, e6, rfl, S, L, d, ts, nj, y2, r2, rfl, ra6, ga nj (List.mem_cons_of_mem _ (List.mem_of_getElem? hj)), h5, fun vb H7 b7 ra7 dvb => ?_⟩
        have eX7 := b7 _ _ eX6 w.S
        have t67 : Tps H5 H7 := (ra5.tps b6).trans (ra6.tps b7)
        have t7 : Tps H7 (upd H7 X (.lst ((va :: xs) ++ [vb]))) := Tps.lst eX7
        rw [← h4] at ra7
        have lt : (l.take j).length = j := by rw [List.length_take]; omega
        refine ⟨X, _, _, rfl, rfl, eX7, small1000 (by show xs.length + 1 ≤ 1000; omega), xs ++ [vb], rfl, w.bt ((b5.trans b6).trans b7), w.rd eX7 ra7, ?_, (dva5.tps t67 (noL_arg a)).tps t7 (noL_arg a), ?_⟩
        · rw [upd_same]
          rfl
        · rw [take_snoc hj]
          exact Paired.snoc (Paired.mapP px5 fun _ x z => (z.tps t67 (noL_arg x)).tps t7 (noL_arg x)) (dvb.tps t7 (noL_arg nj))
      · have ej : j = l.length := by omega
        subst ej
        rw [List.drop_length] at ra5
        rw [List.take_length] at px5
        refine ⟨_, rfl, S, dx5, _, rfl, e5, rfl, S, L, d, ts, mk ")", r, ",", rfl, ra5, .inl ⟨rap_comma, false, rfl, iteE rfl ?_⟩⟩
        refine ⟨_, rfl, S, dx5, _, rfl, e5, rfl, S, L, d, ts, ")", r, rfl, ra5, fun H6 b6 ra6 => ?_⟩
        have eX6 := b6 _ _ eX5 w.S
        have t6 : Tps H5 H6 := ra5.tps b6
        refine ⟨_, rfl, X, _, rfl, .inl ⟨SqL.of eX6, fun p hp => ?_⟩⟩
        have s7 := same_new (o := .tup (va :: xs)) hp
        exact k _ _ ((b5.trans b6).trans (.of s7)) (ra6.same s7) (.tup (SqT.of upd_same) (.cons ((dva5.tps t6 (noL_arg a)).same s7) (DpAll.ofPaired (Paired.mapP px5 fun _ x z => (z.tps t6 (noL_arg x)).same s7))))
theorem ok_RPar {f : Addr} {fd : FuncData} (F : Fun K "read_param" "Reader.read_param" sRPar f fd) (TR : TxR K C) (MN : HasM P w K mg base CX0 2 C "read_name" PRName (spNamS C)) (MA : HasM P w K mg base CX0 3 C "accept" PRAcc (spAccS C)) : FnOk P w K mg base CX0 4 f fd PRPar (spParS C) := by
  refine F.ok scRPar (fun vs H Q E h => ?_) (fun cdv A outer s H vs Q E hr h => ?_)
  · obtain ⟨S, L, d, ts, p, r, rfl, _⟩ := h
    rfl
  · obtain ⟨S, L, d, ts, ⟨n, b⟩, r, rfl, ra, k⟩ := h
    have hr2 := hr.mono (j := 2) (by decide)
    refine ⟨_, (pss_cons (ps_set (i := 1) scRPar.nd rfl (Or.inl rfl) (pe_methH (pv 0) TR.cl MA hr pass0 (pa_cons pe_str pa_nil)))
  (pss_one (ps_ret (pe_tup (pa_cons (pe_methH0 (pv 0) TR.cl MN hr2 pass0) (pa_cons (pv 1) pa_nil)))))), ?_⟩
    obtain ⟨dx, i, e1⟩ := ra.ins
    cases b with
    | true =>
      have ra : RdS C H S L d ts (mk "&" :: nme n :: r) := ra
      refine ⟨_, rfl, S, dx, _, rfl, e1, rfl, S, L, d, ts, mk "&", _, "&", rfl, ra, .inr ⟨rfl, fun H1 b1 ra1 => ?_⟩⟩
      obtain ⟨dx1, i1, e2⟩ := ra1.ins
      refine ⟨_, rfl, S, dx1, _, rfl, e2, rfl, S, L, d, ts, n, _, rfl, ra1, fun H2 b2 ra2 => ⟨_, rfl, (by show 2 ≤ sizeLine; decide), fun p hp => ?_⟩⟩
      have s3 := same_new (o := .tup [.str n, .bl true]) hp
      exact k _ _ ((b1.trans b2).trans (.of s3)) (ra2.same s3) upd_same
    | false =>
      have ra : RdS C H S L d ts (nme n :: r) := ra
      refine ⟨_, rfl, S, dx, _, rfl, e1, rfl, S, L, d, ts, nme n, _, "&", rfl, ra, .inl ⟨(fun z => by cases z), ?_⟩⟩
      refine ⟨_, rfl, S, dx, _, rfl, e1, rfl, S, L, d, ts, n, _, rfl, ra, fun H2 b2 ra2 => ⟨_, rfl, (by show 2 ≤ sizeLine; decide), fun p hp => ?_⟩⟩
      have s3 := same_new (o := .tup [.str n, .bl false]) hp
      exact k _ _ (b2.trans (.of s3)) (ra2.same s3) upd_same
end

/-! ### k03: read_action -/
abbrev sRAct : Stmt := inClass (topS 27) 14
abbrev NRAct : List Str := ["self", "name", "callee"]
abbrev PRAct : List Str := ["self"]
theorem scRAct : FnScope NRAct PRAct (defScope sRAct) := ⟨rfl, rfl, rfl, by decide +kernel, rfl, by decide +kernel, by decide +kernel⟩
/-- what may stand behind a statement -/
def Nx (y : Str × Str) : Prop := (∃ x, y = nme x ∧ isName x = true) ∨ y ∈ [mk "}", mk "if", mk "while", mk "risk", mk "raise", mk "try", mk "undo", mk "with", mk "return"]
theorem nx_facts : ∀ y ∈ [mk "}", mk "if", mk "while", mk "risk", mk "raise", mk "try", mk "undo", mk "with", mk "return"], y ≠ mk "+" ∧ y ≠ mk "-" ∧ y ≠ mk "*" ∧ y ≠ mk "else" ∧ y ≠ mk "except" ∧ y ≠ mk "finally" ∧ y ≠ mk "," ∧ y ≠ mk "(" ∧ y ≠ mk "?" ∧ y ≠ mk "swallow" ∧ y.2 ≠ "(" := by decide +kernel
theorem Nx.all {y : Str × Str} (h : Nx y) : y ≠ mk "+" ∧ y ≠ mk "-" ∧ y ≠ mk "*" ∧ y ≠ mk "else" ∧ y ≠ mk "except" ∧ y ≠ mk "finally" ∧ y ≠ mk "," ∧ y ≠ mk "(" ∧ y ≠ mk "?" ∧ y ≠ mk "swallow" ∧ y.2 ≠ "(" := by
  rcases h with ⟨x, rfl, hx⟩ | h
  · refine ⟨?_, ?_, ?_, ?_, ?_, ?_, ?_, ?_, ?_, ?_, fun z => ?_⟩
    iterate 10 exact fun z => by cases z
    have z : x = "(" := z
    rw [z] at hx
    exact absurd hx (by decide +kernel)
  · exact nx_facts y h
theorem Nx.stop {y : Str × Str} (h : Nx y) : Stop y := ⟨h.all.1, h.all.2.1, h.all.2.2.1⟩
theorem shE_two {e : Ex} {y : Str × Str} {r : SH} (hy : Nx y) : ∃ z s, shE e ++ y :: r = z :: s ∧ (z.1 ≠ "name" ∨ ∃ u s', s = u :: s' ∧ u.2 ≠ "(") := by
  have sg : ∀ b, (sgM b).2 ≠ "(" := fun b => by cases b <;> decide +kernel
  have par := hy.all.2.2.2.2.2.2.2.2.2.2
  have mn : ("mark" : Str) ≠ "name" := by decide +kernel
  have nn : ("number" : Str) ≠ "name" := by decide +kernel
  unfold shE
  cases q : ptsE e with
  | nil => exact absurd q (pts_ne e)
  | cons p l =>
    obtain ⟨b, o, n⟩ := p
    simp only
    cases b with
    | true => exact ⟨_, _, rfl, .inl mn⟩
    | false =>
      rw [if_neg Bool.false_ne_true, List.nil_append]
      cases o with
      | none => exact ⟨_, _, rfl, .inl nn⟩
      | some x =>
        unfold shPt
        simp only
        split
        · cases l with
          | nil => exact ⟨_, _, rfl, .inr ⟨_, _, rfl, par⟩⟩
          | cons p2 l => exact ⟨_, _, rfl, .inr ⟨_, _, rfl, sg _⟩⟩
        · exact ⟨_, _, rfl, .inl nn⟩
def isAct : St → Prop
  | .set _ _ => True
  | .input _ => True
  | .call _ _ _ => True
  | _ => False
def spActS (K : PySem.W.Frag) (C : Addr) : Sp := fun vs H Q _ => ∃ (S L : Addr) (d : Nat) (ts : List TK) (s : St) (y : Str × Str) (r : SH), vs = [.ref S] ∧ RdS C H S L d ts (shSim s ++ y :: r) ∧ isAct s ∧ gS s ∧ Nx y ∧ ∀ (v : V) (H' : Hp), Bt S H H' → RdS C H' S L d ts (y :: r) → Dp K H' v (stD s) → Q v H'
section
variable {P : Program} {w : World} {K : PySem.W.Frag} {mg : Str → Option Value} {base : Heap} {C : Addr}
theorem ok_RAct {f : Addr} {fd : FuncData} (F : Fun K "read_action" "Reader.read_action" sRAct f fd) (TR : TxR K C) (MC : HasM P w K mg base CX0 1 C "current" PRCur (spCurS C)) (MX : HasM P w K mg base CX0 2 C "is_next" PRNext (spNxtS C)) (MN : HasM P w K mg base CX0 2 C "read_name" PRName (spNamS C)) (MA : HasM P w K mg base CX0 3 C "accept" PRAcc (spAccS C)) (ME : HasM P w K mg base CX0 4 C "expect" PRExp (spExpS C)) (MS : HasM P w K mg base CX0 5 C "read_expression" PRExpr (spSumS K C)) (MG : HasM P w K mg base CX0 7 C "read_args" PRArgs (spArgsS K C)) : FnOk P w K mg base CX0 8 f fd PRAct (spActS K C) := by
  refine F.ok scRAct (fun vs H Q E h => ?_) (fun cdv A outer s H vs Q E hr h => ?_)
  · obtain ⟨S, L, d, ts, s, y, r, rfl, _⟩ := h
    rfl
  · obtain ⟨S, L, d, ts, st, y, r, rfl, ra, ia, g, hy, k⟩ := h
    have hr1 := hr.mono (j := 1) (by decide)
    have hr2 := hr.mono (j := 2) (by decide)
    have hr3 := hr.mono (j := 3) (by decide)
    have hr4 := hr.mono (j := 4) (by decide)
    have hr5 := hr.mono (j := 5) (by decide)
    refine ⟨_, (pss_cons (ps_set (i := 1) scRAct.nd rfl (Or.inl rfl) (pe_methH0 (pv 0) TR.cl MN hr2 pass0))
  (pss_cons (ps_if (pt_val (pe_methH (pv 0) TR.cl MX hr2 pass0 (pa_cons pe_str pa_nil)))
  (pss_one (ps_ret (pe_tup (pa_cons pe_str (pa_cons pe_non (pa_cons (pv 1) (pa_cons (pe_methH0 (pv 0) TR.cl MG hr pass0) pa_nil)))))))
  pss_nil)
  (pss_cons (ps_expr (pe_methH (pv 0) TR.cl ME hr4 pass0 (pa_cons pe_str pa_nil)))
  (pss_cons (ps_if (pt_val (pe_methH (pv 0) TR.cl MA hr3 pass0 (pa_cons pe_str pa_nil)))
  (pss_one (ps_ret (pe_tup (pa_cons pe_str (pa_cons (pv 1) pa_nil)))))
  pss_nil)
  (pss_cons (ps_if (PW.pt (pw_and (pt_cmpR op_eq (pe_ix (r := rIxT K) ix_tup (pe_methH0 (pv 0) TR.cl MC hr1 pass0) pe_int (fun _ _ => rfl)) pe_str (nomark _)) (pw_and1 (pt_cmpR op_eq (pe_ix (r := rIxT K) ix_tup (pe_ix (r := rIxL K) ix_list (pe_fld (pv 0) rfl) (pe_op op_add (pe_fld (pv 0) rfl) pe_int) (fun _ _ => rfl)) pe_int (fun _ _ => rfl)) pe_str (nomark _)))))
  (pss_cons (ps_set (i := 2) scRAct.nd rfl (Or.inl rfl) (pe_methH0 (pv 0) TR.cl MN hr2 pass0))
  (pss_one (ps_ret (pe_tup (pa_cons pe_str (pa_cons (pv 1) (pa_cons (pv 2) (pa_cons (pe_methH0 (pv 0) TR.cl MG hr pass0) pa_nil))))))))
  pss_nil)
  (pss_one (ps_ret (pe_tup (pa_cons pe_str (pa_cons (pv 1) (pa_cons (pe_methH0 (pv 0) TR.cl MS hr5 pass0) pa_nil))))))))))), ?_⟩
    obtain ⟨dx, i, e1⟩ := ra.ins
    have mnn : ¬ (("mark" : Str) = "name") := by decide +kernel
    -- what follows `t =`
    have eqn : ∀ {t : Str} {r' : SH} {H1 : Hp}, RdS C H1 S L d ts (mk "=" :: r') → decide (mk "=" = mk "(") = false := fun _ => by decide +kernel
    cases st with
    | input t =>
      have ra : RdS C H S L d ts (nme t :: mk "=" :: mk "?" :: y :: r) := ra
      refine ⟨_, rfl, S, dx, _, rfl, e1, rfl, S, L, d, ts, t, _, rfl, ra, fun H1 b1 ra1 => ?_⟩
      obtain ⟨dx1, i1, e11⟩ := ra1.ins
      refine ⟨_, rfl, S, dx1, _, rfl, e11, rfl, S, L, d, ts, mk "=", _, "(", rfl, ra1, _, rfl, iteE (by decide +kernel) ?_⟩
      refine ⟨_, rfl, S, dx1, _, rfl, e11, rfl, S, L, d, ts, "=", _, rfl, ra1, fun H2 b2 ra2 => ?_⟩
      obtain ⟨dx2, i2, e2⟩ := ra2.ins
      refine ⟨_, rfl, S, dx2, _, rfl, e2, rfl, S, L, d, ts, mk "?", _, "?", rfl, ra2, .inr ⟨rfl, fun H3 b3 ra3 => ⟨true, rfl, iteS rfl ?_⟩⟩⟩
      refine ⟨_, rfl, (by show 2 ≤ sizeLine; decide), fun p hp => ?_⟩
      have s4 := same_new (o := .tup [.str "input", .str t]) hp
      exact k _ _ (((b1.trans b2).trans b3).trans (.of s4)) (ra3.same s4) (.tup (SqT.of upd_same) (.cons (.str _) (.cons (.str _) .nil)))
    | set t e =>
      have g : GN t ∧ GE e := g
      have ra : RdS C H S L d ts (nme t :: mk "=" :: (shE e ++ y :: r)) := ra
      refine ⟨_, rfl, S, dx, _, rfl, e1, rfl, S, L, d, ts, t, _, rfl, ra, fun H1 b1 ra1 => ?_⟩
      obtain ⟨dx1, i1, e11⟩ := ra1.ins
      refine ⟨_, rfl, S, dx1, _, rfl, e11, rfl, S, L, d, ts, mk "=", _, "(", rfl, ra1, _, rfl, iteE (by decide +kernel) ?_⟩
      refine ⟨_, rfl, S, dx1, _, rfl, e11, rfl, S, L, d, ts, "=", _, rfl, ra1, fun H2 b2 ra2 => ?_⟩
      obtain ⟨dx2, i2, e2⟩ := ra2.ins
      obtain ⟨y0, r0, h0, h1⟩ := shE_no e (z := "?") (by decide +kernel)
      have ra20 := ra2
      rw [h0] at ra20
      refine ⟨_, rfl, S, dx2, _, rfl, e2, rfl, S, L, d, ts, y0, _, "?", rfl, ra20, .inl ⟨h1, false, rfl, iteE rfl ?_⟩⟩
      obtain ⟨z, s, hz, hc⟩ := shE_two (e := e) (r := r) hy
      have ra21 := ra2
      rw [hz] at ra21
      refine ⟨_, rfl, S, dx2, _, rfl, e2, rfl, S, L, d, ts, z, s, rfl, ra21, fun p a hp => ⟨p, _, _, _, rfl, rfl, SqT.of hp, rfl, rfl, decide (z.1 = "name"), by rw [dec_str], ?_⟩⟩
      by_cases zn : z.1 = "name"
      case neg =>
        refine iteE (decide_eq_false zn) ?_
        refine ⟨_, rfl, _, rfl, S, dx2, _, rfl, e2, rfl, S, L, d, ts, e, y, r, rfl, ra2, g.2, hy.stop, fun v H3 b3 ra3 dv => ⟨(by show 3 ≤ sizeLine; decide), fun p hp => ?_⟩⟩
        have s4 := same_new (o := .tup [.str "set", .str t, v]) hp
        exact k _ _ (((b1.trans b2).trans b3).trans (.of s4)) (ra3.same s4) (.tup (SqT.of upd_same) (.cons (.str _) (.cons (.str _) (.cons (dv.same s4) .nil))))
      refine iteS (decide_eq_true zn) ?_
      rcases hc with q | ⟨u, s', rfl, hu⟩
      · exact absurd zn q
      obtain ⟨j, rj, hj⟩ := ra21
      obtain ⟨_, hj1⟩ := sh_at hj
      obtain ⟨⟨a2, hu2⟩, _⟩ := sh_at hj1
      obtain ⟨dx3, xs3, e3, e4, e5⟩ := id rj
      have hl : j + 1 < xs3.length := by rw [Paired.length e5]; exact (List.getElem?_eq_some_iff.mp hu2).1
      obtain ⟨tk', h1, q, h2, h3⟩ := Paired.at e5 (List.getElem?_eq_getElem hl)
      rw [hu2] at h1
      cases h1
      refine ⟨_, rfl, S, C, dx3, _, _, rfl, e3, TR.cl, TR.nT, rfl, _, rfl, S, C, dx3, _, _, rfl, e3, TR.cl, TR.nI, rfl, _, _, rfl, rfl, L, _, _, _, rfl, rfl, SqL.of e4, ?_, q, _, _, _, rfl, rfl, SqT.of h3, rfl, rfl, decide (u.2 = "("), by rw [dec_str], iteE (decide_eq_false hu) ?_⟩
      · exact (atI_nat (j := j + 1) (by rw [List.getElem?_eq_getElem hl, h2]))
      refine ⟨_, rfl, _, rfl, S, dx2, _, rfl, e2, rfl, S, L, d, ts, e, y, r, rfl, ra2, g.2, hy.stop, fun v H3 b3 ra3 dv => ⟨(by show 3 ≤ sizeLine; decide), fun p hp => ?_⟩⟩
      have s4 := same_new (o := .tup [.str "set", .str t, v]) hp
      exact k _ _ (((b1.trans b2).trans b3).trans (.of s4)) (ra3.same s4) (.tup (SqT.of upd_same) (.cons (.str _) (.cons (.str _) (.cons (dv.same s4) .nil))))
    | call t f as =>
      have g : (∀ x, t = some x → GN x) ∧ GC (f, as) := g
      have e2' : as.length ≤ 900 := by have := g.2.2.1; show as.length ≤ 900; have : as.length ≤ 2 := this; omega
      cases t with
      | none =>
        have ra : RdS C H S L d ts (nme f :: mk "(" :: (sepH (as.map shA) ++ mk ")" :: (y :: r))) := by
          have e : shSim (.call none f as) ++ y :: r = nme f :: mk "(" :: (sepH (as.map shA) ++ mk ")" :: (y :: r)) := by simp [shSim, shC]
          rw [e] at ra
          exact ra
        refine ⟨_, rfl, S, dx, _, rfl, e1, rfl, S, L, d, ts, f, _, rfl, ra, fun H1 b1 ra1 => ?_⟩
        obtain ⟨dx1, i1, e11⟩ := ra1.ins
        refine ⟨_, rfl, S, dx1, _, rfl, e11, rfl, S, L, d, ts, mk "(", _, "(", rfl, ra1, _, rfl, iteS (decide_eq_true rfl) ?_⟩
        refine ⟨_, rfl, _, rfl, S, dx1, _, rfl, e11, rfl, S, L, d, ts, as, _, rfl, ra1, e2', g.2.2.2, fun v H2 b2 ra2 dv => ⟨(by show 4 ≤ sizeLine; decide), fun p hp => ?_⟩⟩
        have s4 := same_new (o := .tup [.str "call", .non, .str f, v]) hp
        exact k _ _ ((b1.trans b2).trans (.of s4)) (ra2.same s4) (.tup (SqT.of upd_same) (.cons (.str _) (.cons .non (.cons (.str _) (.cons (dv.same s4) .nil)))))
      | some t =>
        have ra : RdS C H S L d ts (nme t :: mk "=" :: nme f :: mk "(" :: (sepH (as.map shA) ++ mk ")" :: (y :: r))) := by
          have e : shSim (.call (some t) f as) ++ y :: r = nme t :: mk "=" :: nme f :: mk "(" :: (sepH (as.map shA) ++ mk ")" :: (y :: r)) := by simp [shSim, shC]
          rw [e] at ra
          exact ra
        refine ⟨_, rfl, S, dx, _, rfl, e1, rfl, S, L, d, ts, t, _, rfl, ra, fun H1 b1 ra1 => ?_⟩
        obtain ⟨dx1, i1, e11⟩ := ra1.ins
        refine ⟨_, rfl, S, dx1, _, rfl, e11, rfl, S, L, d, ts, mk "=", _, "(", rfl, ra1, _, rfl, iteE (by decide +kernel) ?_⟩
        refine ⟨_, rfl, S, dx1, _, rfl, e11, rfl, S, L, d, ts, "=", _, rfl, ra1, fun H2 b2 ra2 => ?_⟩
        obtain ⟨dx2, i2, e2⟩ := ra2.ins
        refine ⟨_, rfl, S, dx2, _, rfl, e2, rfl, S, L, d, ts, nme f, _, "?", rfl, ra2, .inl ⟨(fun z => by cases z), false, rfl, iteE rfl ?_⟩⟩
        refine ⟨_, rfl, S, dx2, _, rfl, e2, rfl, S, L, d, ts, nme f, _, rfl, ra2, fun p a hp => ⟨p, _, _, _, rfl, rfl, SqT.of hp, rfl, rfl, decide (("name" : Str) = "name"), by rw [dec_str], ?_⟩⟩
        refine iteS (decide_eq_true rfl) ?_
        obtain ⟨j, rj, hj⟩ := id ra2
        obtain ⟨_, hj1⟩ := sh_at hj
        obtain ⟨⟨a2, hu2⟩, _⟩ := sh_at hj1
        obtain ⟨dx3, xs3, e3, e4, e5⟩ := id rj
        have hl : j + 1 < xs3.length := by rw [Paired.length e5]; exact (List.getElem?_eq_some_iff.mp hu2).1
        obtain ⟨tk', h1, q, h2, h3⟩ := Paired.at e5 (List.getElem?_eq_getElem hl)
        rw [hu2] at h1
        cases h1
        refine ⟨_, rfl, S, C, dx3, _, _, rfl, e3, TR.cl, TR.nT, rfl, _, rfl, S, C, dx3, _, _, rfl, e3, TR.cl, TR.nI, rfl, _, _, rfl, rfl, L, _, _, _, rfl, rfl, SqL.of e4, ?_, q, _, _, _, rfl, rfl, SqT.of h3, rfl, rfl, decide (("(" : Str) = "("), by rw [dec_str], iteS (decide_eq_true rfl) ?_⟩
        · exact (atI_nat (j := j + 1) (by rw [List.getElem?_eq_getElem hl, h2]))
        refine ⟨_, rfl, S, dx2, _, rfl, e2, rfl, S, L, d, ts, f, _, rfl, ra2, fun H3 b3 ra3 => ?_⟩
        obtain ⟨dx4, i4, e6⟩ := ra3.ins
        refine ⟨_, rfl, _, rfl, _, rfl, S, dx4, _, rfl, e6, rfl, S, L, d, ts, as, _, rfl, ra3, e2', g.2.2.2, fun v H4 b4 ra4 dv => ⟨(by show 4 ≤ sizeLine; decide), fun p hp => ?_⟩⟩
        have s4 := same_new (o := .tup [.str "call", .str t, .str f, v]) hp
        exact k _ _ ((((b1.trans b2).trans b3).trans b4).trans (.of s4)) (ra4.same s4) (.tup (SqT.of upd_same) (.cons (.str _) (.cons (.str _) (.cons (.str _) (.cons (dv.same s4) .nil)))))
    | _ => exact ia.elim
end

/-! ### k03: read_block, read_statement, read_try, read_with -/
abbrev sRBlk : Stmt := inClass (topS 27) 12
abbrev NRBlk : List Str := ["self", "statements"]
abbrev PRBlk : List Str := ["self"]
theorem scRBlk : FnScope NRBlk PRBlk (defScope sRBlk) := ⟨rfl, rfl, rfl, by decide +kernel, rfl, by decide +kernel, by decide +kernel⟩
abbrev sRStm : Stmt := inClass (topS 27) 13
abbrev NRStm : List Str := ["self", "first", "names"]
abbrev PRStm : List Str := ["self"]
theorem scRStm : FnScope NRStm PRStm (defScope sRStm) := ⟨rfl, rfl, rfl, by decide +kernel, rfl, by decide +kernel, by decide +kernel⟩
abbrev sRTry : Stmt := inClass (topS 27) 15
abbrev NRTry : List Str := ["self", "block", "handlers", "kinds"]
abbrev PRTry : List Str := ["self"]
theorem scRTry : FnScope NRTry PRTry (defScope sRTry) := ⟨rfl, rfl, rfl, by decide +kernel, rfl, by decide +kernel, by decide +kernel⟩
abbrev sRWth : Stmt := inClass (topS 27) 16
abbrev NRWth : List Str := ["self", "name", "first", "last", "kinds"]
abbrev PRWth : List Str := ["self"]
theorem scRWth : FnScope NRWth PRWth (defScope sRWth) := ⟨rfl, rfl, rfl, by decide +kernel, rfl, by decide +kernel, by decide +kernel⟩
def blkH (n : Nat) (b : List St) : SH := mk "{" :: (shB n b ++ [mk "}"])
theorem shHs_true (g : List St → SH) : ∀ l : List HdS, shHs g true l = mk "}" :: l.flatMap fun h => h.2.1 ++ mk "{" :: (g h.2.2 ++ [mk "}"])
  | [] => rfl
  | h :: r => by
    show [mk "}"] ++ (h.2.1 ++ mk "{" :: (g h.2.2 ++ shHs g true r)) = _
    rw [shHs_true g r, List.flatMap_cons]
    simp
theorem shHs_false (g : List St → SH) (h : HdS) (r : List HdS) : shHs g false (h :: r) = (h :: r).flatMap fun h => h.2.1 ++ mk "{" :: (g h.2.2 ++ [mk "}"]) := by
  show [] ++ (h.2.1 ++ mk "{" :: (g h.2.2 ++ shHs g true r)) = _
  rw [shHs_true, List.flatMap_cons]
  simp
theorem shS_heads (n : Nat) {s : St} (h : (headsS s).isEmpty = false) : shS (n + 1) s = (headsS s).flatMap fun h => h.2.1 ++ blkH n h.2.2 := by
  show (if (headsS s).isEmpty = true then shSim s else shHs (fun b => b.flatMap (shS n)) false (headsS s)) = _
  rw [h, if_neg Bool.false_ne_true]
  cases e : headsS s with
  | nil => rw [e] at h; cases h
  | cons x r => rw [shHs_false]; rfl
def shHd (n : Nat) (hs : List Hd) : SH := hs.flatMap fun h => mk "except" :: (shNs h.ks ++ blkH n h.b)
def shFin (n : Nat) (hs : List Hd) (f : List St) : SH := if hs.isEmpty = false ∧ f.isEmpty = true then [] else mk "finally" :: blkH n f
def shSwa (ks : List Str) : SH := if ks.isEmpty = true then [] else mk "swallow" :: shNs ks
theorem sh_ite (n : Nat) (a b : List St) : shS (n + 1) (.ite a b) = mk "if" :: (blkH n a ++ (if b.isEmpty = true then [] else mk "else" :: blkH n b)) := by
  rw [shS_heads n rfl]
  show List.flatMap _ ((("if", [mk "if"], a) : HdS) :: (if b.isEmpty = true then [] else [(("else", [mk "else"], b) : HdS)])) = _
  rw [List.flatMap_cons]
  by_cases e : b.isEmpty = true
  · rw [if_pos e, if_pos e]
    rfl
  · rw [if_neg e, if_neg e]
    simp
theorem sh_whl (n : Nat) (b : List St) : shS (n + 1) (.whl b) = mk "while" :: blkH n b := by
  rw [shS_heads n rfl]
  simp [headsS]
theorem sh_try (n : Nat) (b : List St) (hs : List Hd) (f : List St) : shS (n + 1) (.try_ b hs f) = mk "try" :: (blkH n b ++ (shHd n hs ++ shFin n hs f)) := by
  rw [shS_heads n rfl]
  unfold shHd shFin
  show List.flatMap _ ((("try", [mk "try"], b) : HdS) :: (hs.map excH ++ (if hs.isEmpty = false ∧ f.isEmpty = true then [] else [(("finally", [mk "finally"], f) : HdS)]))) = _
  rw [List.flatMap_cons, List.flatMap_append, List.flatMap_map]
  have e : (fun a => (excH a).2.1 ++ blkH n (excH a).2.2) = fun h : Hd => mk "except" :: (shNs h.ks ++ blkH n h.b) := rfl
  rw [e]
  by_cases q : hs.isEmpty = false ∧ f.isEmpty = true
  · rw [if_pos q, if_pos q]
    rfl
  · rw [if_neg q, if_neg q]
    simp
theorem sh_undo (n : Nat) (ns : List Str) (b : List St) : shS (n + 1) (.undo ns b) = mk "undo" :: (shNs ns ++ blkH n b) := by
  rw [shS_heads n rfl]
  simp [headsS]
theorem sh_with (n : Nat) (e l : Cal) (ks : List Str) (b : List St) : shS (n + 1) (.with_ e l ks b) = mk "with" :: (shC e ++ mk "," :: (shC l ++ (shSwa ks ++ blkH n b))) := by
  rw [shS_heads n rfl]
  unfold shSwa
  simp [headsS]
theorem sh_sim (n : Nat) {s : St} (h : headsS s = []) : shS (n + 1) s = shSim s := by
  show (if (headsS s).isEmpty = true then shSim s else _) = _
  rw [h]
  rfl
theorem nx_head (n : Nat) {s : St} (g : gS s) : ∃ y r, shS (n + 1) s = y :: r ∧ Nx y ∧ y ≠ mk "}" := by
  have mkN : ∀ {z : Str}, mk z ∈ [mk "}", mk "if", mk "while", mk "risk", mk "raise", mk "try", mk "undo", mk "with", mk "return"] → Nx (mk z) := fun h => .inr h
  have nmN : ∀ {x : Str}, GN x → Nx (nme x) ∧ nme x ≠ mk "}" := fun {x} h => ⟨.inl ⟨x, rfl, h.1⟩, fun z => by cases z⟩
  cases s with
  | set t e => exact ⟨_, _, sh_sim n rfl, (nmN g.1).1, (nmN g.1).2⟩
  | input t => exact ⟨_, _, sh_sim n rfl, (nmN g).1, (nmN g).2⟩
  | call t f as =>
    have g : (∀ x, t = some x → GN x) ∧ GC (f, as) := g
    cases t with
    | none => exact ⟨_, _, sh_sim n rfl, (nmN g.2.1).1, (nmN g.2.1).2⟩
    | some t => exact ⟨_, _, sh_sim n rfl, (nmN (g.1 t rfl)).1, (nmN (g.1 t rfl)).2⟩
  | risk ks => exact ⟨_, _, sh_sim n rfl, mkN (by decide +kernel), by decide +kernel⟩
  | raise k => exact ⟨_, _, sh_sim n rfl, mkN (by decide +kernel), by decide +kernel⟩
  | ret e => exact ⟨_, _, sh_sim n rfl, mkN (by decide +kernel), by decide +kernel⟩
  | ite a b => exact ⟨_, _, sh_ite n a b, mkN (by decide +kernel), by decide +kernel⟩
  | whl b => exact ⟨_, _, sh_whl n b, mkN (by decide +kernel), by decide +kernel⟩
  | try_ b hs f => exact ⟨_, _, sh_try n b hs f, mkN (by decide +kernel), by decide +kernel⟩
  | undo ns b => exact ⟨_, _, sh_undo n ns b, mkN (by decide +kernel), by decide +kernel⟩
  | with_ e l ks b => exact ⟨_, _, sh_with n e l ks b, mkN (by decide +kernel), by decide +kernel⟩
structure TxBlk (mg : Str → Option Value) : Prop extends TxRd mg where
  c_DEEPEST : ∃ u, mg "DEEPEST" = some u ∧ RelV (.int 30) u
theorem dt_ne : ¬ (("depth" : Str) = "tokens") := by decide +kernel
theorem putF_dp (L : Addr) (i d j : Nat) : putF "depth" (.int (j : Nat)) (rdF L i d) = rdF L i j := by
  show (if ("tokens" : Str) = "depth" then _ else (("tokens" : Str), V.ref L) :: (if ("index_of_token" : Str) = "depth" then _ else (("index_of_token" : Str), V.int (i : Nat)) :: (if ("depth" : Str) = "depth" then _ else _))) = _
  rw [if_neg td_ne, if_neg id_ne, if_pos rfl]
  rfl
theorem RdS.depth {C S L dx : Addr} {H : Hp} {d j i : Nat} {ts : List TK} {sh : SH} (h : RdS C H S L d ts sh) (e : H S = some (.ins C dx (rdF L i d))) : RdS C (upd H S (.ins C dx (rdF L i j))) S L j ts sh := by
  obtain ⟨i', ⟨dy, xs, e1, e2, e3⟩, e4⟩ := h
  have ei : i' = i := by
    rw [e1] at e
    injection e with e
    injection e with _ _ e
    unfold rdF at e
    simp only [List.cons.injEq, Prod.mk.injEq, V.int.injEq, true_and, and_true] at e
    omega
  subst ei
  refine ⟨i', ⟨dx, xs, upd_same, by rw [upd_ne (ne_of e2 e1 fun z => by cases z)]; exact e2, Paired.mapP e3 fun _ _ q => q.same fun b ys e => ?_⟩, e4⟩
  rw [upd_ne (ne_of e e1 fun z => by cases z)]
  exact e
def spBlkS (K : PySem.W.Frag) (C : Addr) (n : Nat) : Sp := fun vs H Q _ => ∃ (S L : Addr) (d : Nat) (ts : List TK) (b : List St) (r : SH), vs = [.ref S] ∧ RdS C H S L d ts (mk "{" :: (shB n b ++ mk "}" :: r)) ∧ gL b ∧ dpB b ≤ n ∧ szB b ≤ 900 ∧ d + n ≤ 30 ∧ ∀ (v : V) (H' : Hp), Bt S H H' → RdS C H' S L d ts r → Dp K H' v (blD b) → Q v H'
def spStmS (K : PySem.W.Frag) (C : Addr) (n : Nat) : Sp := fun vs H Q _ => ∃ (S L : Addr) (d : Nat) (ts : List TK) (s : St) (y : Str × Str) (r : SH), vs = [.ref S] ∧ RdS C H S L d ts (shS (n + 1) s ++ y :: r) ∧ gS s ∧ dpS s ≤ n ∧ szS s ≤ 900 ∧ d + n ≤ 30 ∧ Nx y ∧ ∀ (v : V) (H' : Hp), Bt S H H' → RdS C H' S L d ts (y :: r) → Dp K H' v (stD s) → Q v H'
def spTryS (K : PySem.W.Frag) (C : Addr) (n : Nat) : Sp := fun vs H Q _ => ∃ (S L : Addr) (d : Nat) (ts : List TK) (b : List St) (hs : List Hd) (f : List St) (y : Str × Str) (r : SH), vs = [.ref S] ∧ RdS C H S L d ts (blkH n b ++ (shHd n hs ++ (shFin n hs f ++ y :: r))) ∧ gS (.try_ b hs f) ∧ dpS (.try_ b hs f) ≤ n ∧ szS (.try_ b hs f) ≤ 900 ∧ d + n ≤ 30 ∧ Nx y ∧ ∀ (v : V) (H' : Hp), Bt S H H' → RdS C H' S L d ts (y :: r) → Dp K H' v (stD (.try_ b hs f)) → Q v H'
def spWthS (K : PySem.W.Frag) (C : Addr) (n : Nat) : Sp := fun vs H Q _ => ∃ (S L : Addr) (d : Nat) (ts : List TK) (e l : Cal) (ks : List Str) (b : List St) (r : SH), vs = [.ref S] ∧ RdS C H S L d ts (shC e ++ mk "," :: (shC l ++ (shSwa ks ++ (blkH n b ++ r)))) ∧ gS (.with_ e l ks b) ∧ dpB b ≤ n ∧ szB b ≤ 900 ∧ d + n ≤ 30 ∧ ∀ (v : V) (H' : Hp), Bt S H H' → RdS C H' S L d ts r → Dp K H' v (stD (.with_ e l ks b)) → Q v H'
theorem blkH_app (n : Nat) (b : List St) (r : SH) : blkH n b ++ r = mk "{" :: (shB n b ++ mk "}" :: r) := by
  unfold blkH
  simp
theorem szB_len : ∀ b : List St, b.length ≤ szB b
  | [] => Nat.le_refl _
  | s :: r => by
    have := szB_len r
    show r.length + 1 ≤ 1 + szS s + szB r
    omega
section
variable {P : Program} {w : World} {K : PySem.W.Frag} {mg : Str → Option Value} {base : Heap} {C : Addr}
theorem ok_RBlk {n : Nat} {f : Addr} {fd : FuncData} (F : Fun K "read_block" "Reader.read_block" sRBlk f fd) (T : TxBlk mg) (TR : TxR K C) (MX : HasM P w K mg base CX0 2 C "is_next" PRNext (spNxtS C)) (MA : HasM P w K mg base CX0 3 C "accept" PRAcc (spAccS C)) (ME : HasM P w K mg base CX0 4 C "expect" PRExp (spExpS C)) (MS : HasM P w K mg base CX0 (9 + 3 * n + 2) C "read_statement" PRStm (spStmS K C n)) : FnOk P w K mg base CX0 (9 + 3 * n + 2 + 1) f fd PRBlk (spBlkS K C (n + 1)) := by
  refine F.ok scRBlk (fun vs H Q E h => ?_) (fun cdv A outer s H vs Q E hr h => ?_)
  · obtain ⟨S, L, d, ts, b, r, rfl, _⟩ := h
    rfl
  · obtain ⟨S, L, d, ts, b, r, rfl, ra, g, hd, hz, hdp, k⟩ := h
    have hr2 := hr.mono (j := 2) (by omega)
    have hr3 := hr.mono (j := 3) (by omega)
    have hr4 := hr.mono (j := 4) (by omega)
    refine ⟨_, (pss_cons (ps_if (PW.pt (pw_and (pt_val (pe_methH (pv 0) TR.cl MX hr2 pass0 (pa_cons pe_str pa_nil))) (pw_and1 (pt_cmpR op_eq (pe_fld (pv 0) rfl) (pe_globE rfl T.c_DEEPEST) (nomark _)))))
  (pss_one ps_never)
  pss_nil)
  (pss_cons (ps_expr (pe_methH (pv 0) TR.cl ME hr4 pass0 (pa_cons pe_str pa_nil)))
  (pss_cons (ps_fldaug (pv 0) pe_int in_add)
  (pss_cons (ps_set (i := 1) scRBlk.nd rfl (Or.inl rfl) (pe_lst pa_nil))
  (pss_cons (ps_while PassesOwn.never (pt_not (pt_val (pe_methH (pv 0) TR.cl MA hr3 pass0 (pa_cons pe_str pa_nil))))
  (pss_one (ps_expr (pe_bm PySem.F.plainAttrs_list PySem.F.slot_list_append PySem.F.type_list_append mt_append (pv 1) (pa_cons (pe_methH0 (pv 0) TR.cl MS hr pass0) pa_nil)))))
  (pss_cons (ps_fldaug (pv 0) pe_int in_sub)
  (pss_one (ps_ret (pe_callTy call_tuple_of (by rfl) T.n_tuple bb_tuple (pa_cons (pv 1) pa_nil)))))))))), ?_⟩
    obtain ⟨dx, i, e1⟩ := ra.ins
    refine ⟨_, rfl, S, dx, _, rfl, e1, rfl, S, L, d, ts, mk "{", _, "{", rfl, ra, _, rfl, iteS (decide_eq_true rfl) ?_⟩
    refine ⟨_, rfl, S, C, dx, _, _, rfl, e1, TR.cl, TR.nD, rfl, rfl, _, rfl, iteE (decide_eq_false fun z => by injection z with z; omega) ?_⟩
    refine ⟨_, rfl, S, dx, _, rfl, e1, rfl, S, L, d, ts, "{", _, rfl, ra, fun H1 b1 ra1 => ?_⟩
    obtain ⟨dx1, i1, e2⟩ := ra1.ins
    refine ⟨_, rfl, S, C, dx1, _, _, rfl, e2, TR.cl, TR.nD, rfl, _, _, rfl, rfl, dx1, _, e2, (by show 3 < 1000; decide), ?_⟩
    rw [show putF "depth" (.int (((d : Nat) : Int) + 1)) (rdF L i1 d) = rdF L i1 (d + 1) from putF_dp L i1 d (d + 1)]
    have ra2 : RdS C (upd H1 S (.ins C dx1 (rdF L i1 (d + 1)))) S L (d + 1) ts (shB (n + 1) b ++ mk "}" :: r) := ra1.depth e2
    have b2 : Bt S H (upd H1 S (.ins C dx1 (rdF L i1 (d + 1)))) := b1.trans bt_upd
    generalize upd H1 S (.ins C dx1 (rdF L i1 (d + 1))) = H2 at *
    refine ⟨(by show 0 ≤ sizeLine; decide), fun X hX => ?_⟩
    have w := ra2.own b2 hX
    have s2 := same_new (o := .lst []) hX
    have lb : b.length ≤ 900 := Nat.le_trans (szB_len b) hz
    refine ⟨fun m σ H' => ∃ (j : Nat) (xs : List V), m = b.length - j ∧ j ≤ b.length ∧ σ = [some (.ref S), some (.ref X)] ∧ Bt S H H' ∧ RdS C H' S L (d + 1) ts (shB (n + 1) (b.drop j) ++ mk "}" :: r) ∧ H' X = some (.lst xs) ∧ Paired (fun v x => Dp K H' v (stD x)) xs (b.take j), ⟨_, 0, [], rfl, Nat.zero_le _, rfl, b2.trans (.of s2), ra2.same s2, upd_same, .nil⟩, ?_⟩
    rintro m σ H5 ⟨j, xs, rfl, jl, rfl, b5, ra5, eX5, px5⟩
    obtain ⟨dx5, i5, e5⟩ := ra5.ins
    have lxs := Paired.length px5
    rcases Nat.lt_or_ge j b.length with q | q
    · obtain ⟨nj, hj⟩ : ∃ nj, b[j]? = some nj := ⟨_, List.getElem?_eq_getElem q⟩
      have mj := List.mem_of_getElem? hj
      have ed : b.drop j = nj :: b.drop (j + 1) := by
        rw [List.drop_eq_getElem_cons q]
        rw [List.getElem?_eq_getElem q] at hj
        rw [Option.some.inj hj]
      have gj := gL_mem g mj
      have ra5 : RdS C H5 S L (d + 1) ts (shS (n + 1) nj ++ (shB (n + 1) (b.drop (j + 1)) ++ mk "}" :: r)) := by
        rw [ed] at ra5
        unfold shB at ra5 ⊢
        rw [List.flatMap_cons, List.append_assoc] at ra5
        exact ra5
      obtain ⟨y0, r0, h0, _, h1⟩ := nx_head n gj
      have ra50 := ra5
      rw [h0] at ra50
      refine ⟨_, rfl, S, dx5, _, rfl, e5, rfl, S, L, d + 1, ts, y0, _, "}", rfl, ra50, .inl ⟨h1, false, rfl, iteS rfl ?_⟩⟩
      refine ⟨fun σ' H' => ∃ ys : List V, σ' = [some (.ref S), some (.ref X)] ∧ Bt S H H' ∧ RdS C H' S L (d + 1) ts (shB (n + 1) (b.drop (j + 1)) ++ mk "}" :: r) ∧ H' X = some (.lst ys) ∧ Paired (fun v x => Dp K H' v (stD x)) ys (b.take (j + 1)), fun σ' H' ⟨ys, u1, u2, u3, u4, u6⟩ => ⟨b.length - (j + 1), by omega, j + 1, ys, rfl, by omega, u1, u2, u3, u4, u6⟩, ?_⟩
      have hh : ∃ y r', shB (n + 1) (b.drop (j + 1)) ++ mk "}" :: r = y :: r' ∧ Nx y := by
        cases e : b.drop (j + 1) with
        | nil => exact ⟨_, _, rfl, .inr (by decide +kernel)⟩
        | cons x l =>
          obtain ⟨y, r', h3, h4, _⟩ := nx_head n (gL_mem g (List.mem_of_mem_drop (by rw [e]; exact List.mem_cons_self)))
          unfold shB
          rw [List.flatMap_cons, h3]
          exact ⟨_, _, rfl, h4⟩
      obtain ⟨y2, r2, h4, h5⟩ := hh
      rw [h4] at ra5
      have dpj : dpS nj ≤ n := by
        have h6 := dpB_eq b
        have : dpS nj ≤ dpIn b := by
          have go : ∀ {l : List St}, nj ∈ l → dpS nj ≤ dpIn l := fun {l} => by
            induction l with
            | nil => exact fun h => nomatch h
            | cons x r ih =>
              intro h
              show dpS nj ≤ max (dpS x) (dpIn r)
              rcases List.mem_cons.mp h with z | z
              · rw [z]; exact Nat.le_max_left _ _
              · exact Nat.le_trans (ih z) (Nat.le_max_right _ _)
          exact go mj
        omega
      refine ⟨_, rfl, .inl ⟨rfl, _, SqL.of eX5⟩, _, rfl, S, dx5, _, rfl, e5, rfl, S, L, d + 1, ts, nj, y2, r2, rfl, ra5, gj, dpj, Nat.le_trans (szS_mem mj) hz, by omega, h5, fun vb H7 b7 ra7 dvb => ?_⟩
      have eX7 := b7 _ _ eX5 w.S
      have t67 : Tps H5 H7 := ra5.tps b7
      have t7 : Tps H7 (upd H7 X (.lst (xs ++ [vb]))) := Tps.lst eX7
      rw [← h4] at ra7
      have lt : (b.take j).length = j := by rw [List.length_take]; omega
      refine ⟨X, _, _, rfl, rfl, eX7, small1000 (by omega), xs ++ [vb], rfl, w.bt (b5.trans b7), w.rd eX7 ra7, upd_same, ?_⟩
      rw [take_snoc hj]
      exact Paired.snoc (Paired.mapP px5 fun _ x z => (z.tps t67 (noL_st x)).tps t7 (noL_st x)) (dvb.tps t7 (noL_st nj))
    · have ej : j = b.length := by omega
      subst ej
      rw [List.drop_length] at ra5
      rw [List.take_length] at px5
      refine ⟨_, rfl, S, dx5, _, rfl, e5, rfl, S, L, d + 1, ts, mk "}", r, "}", rfl, ra5, .inr ⟨rfl, fun H6 b6 ra6 => ⟨true, rfl, iteE rfl ?_⟩⟩⟩
      obtain ⟨dx6, i6, e6⟩ := ra6.ins
      refine ⟨_, rfl, S, C, dx6, _, _, rfl, e6, TR.cl, TR.nD, rfl, _, _, rfl, rfl, dx6, _, e6, (by show 3 < 1000; decide), ?_⟩
      rw [show ((d + 1 : Nat) : Int) - 1 = ((d : Nat) : Int) by omega, putF_dp L i6 (d + 1) d]
      have ra7 : RdS C (upd H6 S (.ins C dx6 (rdF L i6 d))) S L d ts r := ra6.depth e6
      have eX6 := b6 _ _ eX5 w.S
      have t6 : Tps H5 H6 := ra5.tps b6
      have t7 : Tps H6 (upd H6 S (.ins C dx6 (rdF L i6 d))) := Tps.ins e6
      have eX7 : upd H6 S (.ins C dx6 (rdF L i6 d)) X = some (.lst xs) := by rw [upd_ne w.S]; exact eX6
      refine ⟨_, rfl, X, _, rfl, .inl ⟨SqL.of eX7, fun p hp => ?_⟩⟩
      have s7 := same_new (o := .tup xs) hp
      exact k _ _ (((b5.trans b6).trans bt_upd).trans (.of s7)) (ra7.same s7) (.tup (SqT.of upd_same) (by rw [stsD_map]; exact DpAll.ofPaired (Paired.mapP px5 fun _ x z => ((z.tps t6 (noL_st x)).tps t7 (noL_st x)).same s7)))
end

/-! ### k03: read_try, read_with, read_statement -/
theorem shC_app (c : Cal) (r : SH) : shC c ++ r = nme c.1 :: mk "(" :: (sepH (c.2.map shA) ++ mk ")" :: r) := by simp [shC]
theorem sz_hs3 : ∀ {hs : List Hd} {h : Hd}, h ∈ hs → szB h.b ≤ szHs hs
  | .mk ks b :: r, h, hm => by
    show szB h.b ≤ szB b + szHs r
    rcases List.mem_cons.mp hm with z | z
    · rw [z]; exact Nat.le_add_right _ _
    · exact Nat.le_trans (sz_hs3 z) (Nat.le_add_left _ _)
theorem hd_g : ∀ {h : Hd}, gH h → (h.ks ≠ [] ∧ GNs h.ks) ∧ gL h.b
  | .mk _ _, g => g
theorem hdD_eq : ∀ h : Hd, hdD h = .tuple [nmD h.ks, blD h.b]
  | .mk _ _ => rfl
theorem nm_dp {K : PySem.W.Frag} {H : Hp} {p : Addr} {ns : List Str} (h : H p = some (.tup (ns.map V.str))) : Dp K H (.ref p) (nmD ns) := .tup (SqT.of h) (by
  clear h
  induction ns with
  | nil => exact .nil
  | cons n r ih => exact .cons (.str _) ih)
section
variable {P : Program} {w : World} {K : PySem.W.Frag} {mg : Str → Option Value} {base : Heap} {C : Addr}
theorem ok_RTry {n : Nat} {f : Addr} {fd : FuncData} (F : Fun K "read_try" "Reader.read_try" sRTry f fd) (T : TxBlk mg) (TR : TxR K C) (MX : HasM P w K mg base CX0 2 C "is_next" PRNext (spNxtS C)) (MA : HasM P w K mg base CX0 3 C "accept" PRAcc (spAccS C)) (ME : HasM P w K mg base CX0 4 C "expect" PRExp (spExpS C)) (MN : HasM P w K mg base CX0 4 C "read_names" PRNms (spNmsS C)) (MB : HasM P w K mg base CX0 (9 + 3 * n) C "read_block" PRBlk (spBlkS K C n)) : FnOk P w K mg base CX0 (9 + 3 * n + 1) f fd PRTry (spTryS K C n) := by
  refine F.ok scRTry (fun vs H Q E h => ?_) (fun cdv A outer s H vs Q E hr h => ?_)
  · obtain ⟨S, L, d, ts, b, hs, ff, y, r, rfl, _⟩ := h
    rfl
  · obtain ⟨S, L, d, ts, b, hs, ff, y, r, rfl, ra, g, hd, hz, hdp, hy, k⟩ := h
    have hr2 := hr.mono (j := 2) (by omega)
    have hr3 := hr.mono (j := 3) (by omega)
    have hr4 := hr.mono (j := 4) (by omega)
    refine ⟨_, (pss_cons (ps_set (i := 1) scRTry.nd rfl (Or.inl rfl) (pe_methH0 (pv 0) TR.cl MB hr pass0))
  (pss_cons (ps_set (i := 2) scRTry.nd rfl (Or.inl rfl) (pe_lst pa_nil))
  (pss_cons (ps_while PassesOwn.never (pt_val (pe_methH (pv 0) TR.cl MA hr3 pass0 (pa_cons pe_str pa_nil)))
  (pss_cons (ps_set (i := 3) scRTry.nd rfl (Or.inl rfl) (pe_methH0 (pv 0) TR.cl MN hr4 pass0))
  (pss_one (ps_expr (pe_bm PySem.F.plainAttrs_list PySem.F.slot_list_append PySem.F.type_list_append mt_append (pv 2) (pa_cons (pe_tup (pa_cons (pv 3) (pa_cons (pe_methH0 (pv 0) TR.cl MB hr pass0) pa_nil))) pa_nil))))))
  (pss_cons (ps_if (PW.pt (pw_and (pt_truth (pv 2) (by intro _; rfl)) (pw_and1 (pt_not (pt_val (pe_methH (pv 0) TR.cl MX hr2 pass0 (pa_cons pe_str pa_nil)))))))
  (pss_one (ps_ret (pe_tup (pa_cons pe_str (pa_cons (pv 1) (pa_cons (pe_callTy call_tuple_of (by rfl) T.n_tuple bb_tuple (pa_cons (pv 2) pa_nil)) (pa_cons (pe_tup pa_nil) pa_nil)))))))
  pss_nil)
  (pss_cons (ps_expr (pe_methH (pv 0) TR.cl ME hr4 pass0 (pa_cons pe_str pa_nil)))
  (pss_one (ps_ret (pe_tup (pa_cons pe_str (pa_cons (pv 1) (pa_cons (pe_callTy call_tuple_of (by rfl) T.n_tuple bb_tuple (pa_cons (pv 2) pa_nil)) (pa_cons (pe_methH0 (pv 0) TR.cl MB hr pass0) pa_nil)))))))))))), ?_⟩
    have g : hs.length ≤ 2 ∧ gL b ∧ gHs hs ∧ gL ff := g
    have hd : max (dpB b) (max (dpHs hs) (dpB ff)) ≤ n := hd
    have hz : szB b + (szHs hs + szB ff) ≤ 900 := hz
    obtain ⟨dx, i, e1⟩ := ra.ins
    rw [blkH_app] at ra
    refine ⟨_, rfl, S, dx, _, rfl, e1, rfl, S, L, d, ts, b, _, rfl, ra, g.2.1, by omega, by omega, hdp, fun bv H1 b1 ra1 dvb => ⟨(by show 0 ≤ sizeLine; decide), fun X hX => ?_⟩⟩
    have w := ra1.own b1 hX
    have s2 := same_new (o := .lst []) hX
    refine ⟨fun m σ H' => ∃ (j : Nat) (xs : List V) (kv : Option V), m = hs.length - j ∧ j ≤ hs.length ∧ σ = [some (.ref S), some bv, some (.ref X), kv] ∧ Bt S H H' ∧ RdS C H' S L d ts (shHd n (hs.drop j) ++ (shFin n hs ff ++ y :: r)) ∧ H' X = some (.lst xs) ∧ Dp K H' bv (blD b) ∧ Paired (fun v x => Dp K H' v (hdD x)) xs (hs.take j), ⟨_, 0, [], _, rfl, Nat.zero_le _, rfl, b1.trans (.of s2), ra1.same s2, upd_same, dvb.same s2, .nil⟩, ?_⟩
    rintro m σ H5 ⟨j, xs, kv, rfl, jl, rfl, b5, ra5, eX5, dvb5, px5⟩
    obtain ⟨dx5, i5, e5⟩ := ra5.ins
    have lxs := Paired.length px5
    rcases Nat.lt_or_ge j hs.length with q | q
    · obtain ⟨nj, hj⟩ : ∃ nj, hs[j]? = some nj := ⟨_, List.getElem?_eq_getElem q⟩
      have mj := List.mem_of_getElem? hj
      have ed : hs.drop j = nj :: hs.drop (j + 1) := by
        rw [List.drop_eq_getElem_cons q]
        rw [List.getElem?_eq_getElem q] at hj
        rw [Option.some.inj hj]
      have gj := hd_g (gHs_mem g.2.2.1 mj)
      have ra5 : RdS C H5 S L d ts (mk "except" :: (shNs nj.ks ++ mk "{" :: (shB n nj.b ++ mk "}" :: (shHd n (hs.drop (j + 1)) ++ (shFin n hs ff ++ y :: r))))) := by
        have e : shHd n (hs.drop j) ++ (shFin n hs ff ++ y :: r) = mk "except" :: (shNs nj.ks ++ mk "{" :: (shB n nj.b ++ mk "}" :: (shHd n (hs.drop (j + 1)) ++ (shFin n hs ff ++ y :: r)))) := by
          rw [ed]
          simp [shHd, blkH]
        rw [e] at ra5
        exact ra5
      refine ⟨_, rfl, S, dx5, _, rfl, e5, rfl, S, L, d, ts, mk "except", _, "except", rfl, ra5, .inr ⟨rfl, fun H6 b6 ra6 => ⟨true, rfl, iteS rfl ?_⟩⟩⟩
      refine ⟨fun σ' H' => ∃ (ys : List V) (kv' : Option V), σ' = [some (.ref S), some bv, some (.ref X), kv'] ∧ Bt S H H' ∧ RdS C H' S L d ts (shHd n (hs.drop (j + 1)) ++ (shFin n hs ff ++ y :: r)) ∧ H' X = some (.lst ys) ∧ Dp K H' bv (blD b) ∧ Paired (fun v x => Dp K H' v (hdD x)) ys (hs.take (j + 1)), fun σ' H' ⟨ys, kv', u1, u2, u3, u4, u5, u6⟩ => ⟨hs.length - (j + 1), by omega, j + 1, ys, kv', rfl, by omega, u1, u2, u3, u4, u5, u6⟩, ?_⟩
      obtain ⟨dx6, i6, e6⟩ := ra6.ins
      refine ⟨_, rfl, S, dx6, _, rfl, e6, rfl, S, L, d, ts, nj.ks, mk "{", _, rfl, ra6, gj.1.1, Nat.le_trans gj.1.2.1 (by decide), by decide +kernel, fun p H7 b7 ra7 hp => ?_⟩
      obtain ⟨dx7, i7, e7⟩ := ra7.ins
      have eX6 := b6 _ _ eX5 w.S
      have eX7 := b7 _ _ eX6 w.S
      have dj := dp_hs (hs := hs) (List.mem_map.mpr ⟨nj, mj, rfl⟩)
      have sj := sz_hs3 mj
      refine ⟨_, rfl, .inl ⟨rfl, _, SqL.of eX7⟩, _, rfl, _, rfl, S, dx7, _, rfl, e7, rfl, S, L, d, ts, nj.b, _, rfl, ra7, gj.2, by omega, by omega, hdp, fun v H8 b8 ra8 dv => ⟨(by show 2 ≤ sizeLine; decide), fun t ht => ?_⟩⟩
      have eX8 := b8 _ _ eX7 w.S
      have t58 : Tps H5 H8 := ((ra5.tps b6).trans (ra6.tps b7)).trans (ra7.tps b8)
      have s9 := same_new (o := .tup [.ref p, v]) ht
      have eX9 := s9 _ _ eX8
      have dn : Dp K (upd H8 t (.tup [.ref p, v])) (.ref t) (hdD nj) := by
        rw [hdD_eq]
        exact .tup (SqT.of upd_same) (.cons (((nm_dp hp).tps (ra7.tps b8) (noL_nm _)).same s9) (.cons (dv.same s9) .nil))
      have ra9 := ra8.same s9
      have b9 := (((b5.trans b6).trans b7).trans b8).trans (.of s9)
      have t59 : Tps H5 (upd H8 t (.tup [.ref p, v])) := t58.trans (Tps.of s9)
      generalize upd H8 t (.tup [.ref p, v]) = H9 at *
      have tA : Tps H9 (upd H9 X (.lst (xs ++ [.ref t]))) := Tps.lst eX9
      have lt : (hs.take j).length = j := by rw [List.length_take]; omega
      refine ⟨X, _, _, rfl, rfl, eX9, small1000 (by omega), xs ++ [.ref t], _, rfl, w.bt b9, w.rd eX9 ra9, upd_same, (dvb5.tps t59 (noL_bl b)).tps tA (noL_bl b), ?_⟩
      rw [take_snoc hj]
      exact Paired.snoc (Paired.mapP px5 fun _ x z => (z.tps t59 (noL_hd x)).tps tA (noL_hd x)) (dn.tps tA (noL_hd nj))
    · have ej : j = hs.length := by omega
      subst ej
      rw [List.drop_length] at ra5
      rw [List.take_length] at px5
      have ra5 : RdS C H5 S L d ts (shFin n hs ff ++ y :: r) := ra5
      have ex : ∃ y0 r0, shFin n hs ff ++ y :: r = y0 :: r0 ∧ y0 ≠ mk "except" := by
        unfold shFin
        split
        · exact ⟨y, r, rfl, hy.all.2.2.2.2.1⟩
        · exact ⟨_, _, rfl, by decide +kernel⟩
      obtain ⟨y0, r0, h0, h1⟩ := ex
      have ra50 := ra5
      rw [h0] at ra50
      refine ⟨_, rfl, S, dx5, _, rfl, e5, rfl, S, L, d, ts, y0, r0, "except", rfl, ra50, .inl ⟨h1, false, rfl, iteE rfl ?_⟩⟩
      have lx : xs.length = hs.length := by rw [lxs, List.length_take, Nat.min_self]
      have ie : xs.isEmpty = hs.isEmpty := by cases xs <;> cases hs <;> simp_all
      have dvh : ∀ {H' : Hp} {p : Addr}, Tps H5 H' → H' p = some (.tup xs) → Dp K H' (.ref p) (.tuple (hdsD hs)) := fun t e => .tup (SqT.of e) (by rw [hdsD_map]; exact DpAll.ofPaired (Paired.mapP px5 fun _ x z => z.tps t (noL_hd x)))
      have nlh : noL (.tuple (hdsD hs)) = true := by simp only [noL]; exact noL_hds hs
      refine ⟨_, rfl, !xs.isEmpty, .inl ⟨xs, SqL.of eX5, rfl⟩, ?_⟩
      by_cases hE : hs.isEmpty = true
      · have ra5f : RdS C H5 S L d ts (mk "finally" :: (blkH n ff ++ y :: r)) := by
          have e : shFin n hs ff = mk "finally" :: blkH n ff := if_neg fun z => by rw [hE] at z; cases z.1
          rw [e] at ra5
          exact ra5
        refine iteE (by rw [ie, hE]; rfl) ?_
        refine ⟨_, rfl, S, dx5, _, rfl, e5, rfl, S, L, d, ts, "finally", _, rfl, ra5f, fun H6 b6 ra6 => ?_⟩
        obtain ⟨dx6, i6, e6⟩ := ra6.ins
        have eX6 := b6 _ _ eX5 w.S
        have ra6 : RdS C H6 S L d ts (mk "{" :: (shB n ff ++ mk "}" :: y :: r)) := by rw [← blkH_app]; exact ra6
        have t56 := ra5.tps b6
        refine ⟨_, rfl, _, rfl, X, _, rfl, .inl ⟨SqL.of eX6, fun p hp => ?_⟩⟩
        have s7 := same_new (o := .tup xs) hp
        have ra7 := ra6.same s7
        have eh7 : upd H6 p (.tup xs) p = some (.tup xs) := upd_same
        have b57 := (b5.trans b6).trans (.of s7)
        have t57 := t56.trans (Tps.of s7)
        generalize upd H6 p (.tup xs) = H7 at *
        obtain ⟨dx7, i7, e7⟩ := ra7.ins
        refine ⟨_, rfl, S, dx7, _, rfl, e7, rfl, S, L, d, ts, ff, _, rfl, ra7, g.2.2.2, by omega, by omega, hdp, fun v H8 b8 ra8 dv => ⟨(by show 4 ≤ sizeLine; decide), fun t ht => ?_⟩⟩
        have s9 := same_new (o := .tup [.str "try", bv, .ref p, v]) ht
        have t78 := ra7.tps b8
        exact k _ _ ((b57.trans b8).trans (.of s9)) (ra8.same s9) (.tup (SqT.of upd_same) (.cons (.str _) (.cons (((dvb5.tps t57 (noL_bl b)).tps t78 (noL_bl b)).same s9) (.cons (((dvh t57 eh7).tps t78 nlh).same s9) (.cons (dv.same s9) .nil)))))
      have hE : hs.isEmpty = false := Bool.eq_false_iff.mpr hE
      refine iteS (by rw [ie, hE]; rfl) ?_
      refine ⟨_, rfl, S, dx5, _, rfl, e5, rfl, S, L, d, ts, y0, r0, "finally", rfl, ra50, _, rfl, ?_⟩
      by_cases fE : ff.isEmpty = true
      · have e : shFin n hs ff = [] := if_pos ⟨hE, fE⟩
        rw [e] at h0
        obtain ⟨rfl, rfl⟩ : y = y0 ∧ r = r0 := by
          have h0 : y :: r = y0 :: r0 := h0
          injection h0 with a b
          exact ⟨a, b⟩
        refine iteS (by rw [decide_eq_false hy.all.2.2.2.2.2.1]; rfl) ?_
        refine ⟨_, rfl, _, rfl, X, _, rfl, .inl ⟨SqL.of eX5, fun p hp => ⟨(by show 0 ≤ sizeLine; decide), fun q hq => ⟨(by show 4 ≤ sizeLine; decide), fun t ht => ?_⟩⟩⟩⟩
        have s7 := same_new (o := .tup xs) hp
        have s8 := same_new (o := .tup []) hq
        have s9 := same_new (o := .tup [.str "try", bv, .ref p, .ref q]) ht
        have fn : ff = [] := List.isEmpty_iff.mp fE
        have s79 := (s7.trans s8).trans s9
        refine k _ _ (b5.trans (.of s79)) (ra50.same s79) (.tup (SqT.of upd_same) (.cons (.str _) (.cons (dvb5.same s79) (.cons (((dvh (Tps.of s7) upd_same).same s8).same s9) (.cons ?_ .nil)))))
        rw [fn]
        exact .tup (SqT.same s9 (SqT.of upd_same)) .nil
      · have ra5f : RdS C H5 S L d ts (mk "finally" :: (blkH n ff ++ y :: r)) := by
          have e : shFin n hs ff = mk "finally" :: blkH n ff := if_neg fun z => fE z.2
          rw [e] at ra5
          exact ra5
        have ey : y0 = mk "finally" := by
          have e : shFin n hs ff = mk "finally" :: blkH n ff := if_neg fun z => fE z.2
          rw [e] at h0
          have h0 : mk "finally" :: (blkH n ff ++ y :: r) = y0 :: r0 := h0
          injection h0 with a b
          exact a.symm
        refine iteE (by rw [decide_eq_true ey]; rfl) ?_
        refine ⟨_, rfl, S, dx5, _, rfl, e5, rfl, S, L, d, ts, "finally", _, rfl, ra5f, fun H6 b6 ra6 => ?_⟩
        obtain ⟨dx6, i6, e6⟩ := ra6.ins
        have eX6 := b6 _ _ eX5 w.S
        have ra6 : RdS C H6 S L d ts (mk "{" :: (shB n ff ++ mk "}" :: y :: r)) := by rw [← blkH_app]; exact ra6
        have t56 := ra5.tps b6
        refine ⟨_, rfl, _, rfl, X, _, rfl, .inl ⟨SqL.of eX6, fun p hp => ?_⟩⟩
        have s7 := same_new (o := .tup xs) hp
        have ra7 := ra6.same s7
        have eh7 : upd H6 p (.tup xs) p = some (.tup xs) := upd_same
        have b57 := (b5.trans b6).trans (.of s7)
        have t57 := t56.trans (Tps.of s7)
        generalize upd H6 p (.tup xs) = H7 at *
        obtain ⟨dx7, i7, e7⟩ := ra7.ins
        refine ⟨_, rfl, S, dx7, _, rfl, e7, rfl, S, L, d, ts, ff, _, rfl, ra7, g.2.2.2, by omega, by omega, hdp, fun v H8 b8 ra8 dv => ⟨(by show 4 ≤ sizeLine; decide), fun t ht => ?_⟩⟩
        have s9 := same_new (o := .tup [.str "try", bv, .ref p, v]) ht
        have t78 := ra7.tps b8
        exact k _ _ ((b57.trans b8).trans (.of s9)) (ra8.same s9) (.tup (SqT.of upd_same) (.cons (.str _) (.cons (((dvb5.tps t57 (noL_bl b)).tps t78 (noL_bl b)).same s9) (.cons (((dvh t57 eh7).tps t78 nlh).same s9) (.cons (dv.same s9) .nil)))))
theorem ok_RWth {n : Nat} {f : Addr} {fd : FuncData} (F : Fun K "read_with" "Reader.read_with" sRWth f fd) (TR : TxR K C) (MM : HasM P w K mg base CX0 2 C "read_name" PRName (spNamS C)) (MA : HasM P w K mg base CX0 3 C "accept" PRAcc (spAccS C)) (ME : HasM P w K mg base CX0 4 C "expect" PRExp (spExpS C)) (MN : HasM P w K mg base CX0 4 C "read_names" PRNms (spNmsS C)) (MG : HasM P w K mg base CX0 7 C "read_args" PRArgs (spArgsS K C)) (MB : HasM P w K mg base CX0 (9 + 3 * n) C "read_block" PRBlk (spBlkS K C n)) : FnOk P w K mg base CX0 (9 + 3 * n + 1) f fd PRWth (spWthS K C n) := by
  refine F.ok scRWth (fun vs H Q E h => ?_) (fun cdv A outer s H vs Q E hr h => ?_)
  · obtain ⟨S, L, d, ts, e, l, ks, b, r, rfl, _⟩ := h
    rfl
  · obtain ⟨S, L, d, ts, e, l, ks, b, r, rfl, ra, g, hd, hz, hdp, k⟩ := h
    have hr2 := hr.mono (j := 2) (by omega)
    have hr3 := hr.mono (j := 3) (by omega)
    have hr4 := hr.mono (j := 4) (by omega)
    have hr7 := hr.mono (j := 7) (by omega)
    have g : GC e ∧ GC l ∧ GNs ks ∧ gL b := g
    have le : ∀ {c : Cal}, GC c → c.2.length ≤ 900 := fun h => Nat.le_trans h.2.1 (by decide)
    refine ⟨_, (pss_cons (ps_set (i := 1) scRWth.nd rfl (Or.inl rfl) (pe_methH0 (pv 0) TR.cl MM hr2 pass0))
  (pss_cons (ps_set (i := 2) scRWth.nd rfl (Or.inl rfl) (pe_tup (pa_cons (pv 1) (pa_cons (pe_methH0 (pv 0) TR.cl MG hr7 pass0) pa_nil))))
  (pss_cons (ps_expr (pe_methH (pv 0) TR.cl ME hr4 pass0 (pa_cons pe_str pa_nil)))
  (pss_cons (ps_set (i := 1) scRWth.nd rfl (Or.inl rfl) (pe_methH0 (pv 0) TR.cl MM hr2 pass0))
  (pss_cons (ps_set (i := 3) scRWth.nd rfl (Or.inl rfl) (pe_tup (pa_cons (pv 1) (pa_cons (pe_methH0 (pv 0) TR.cl MG hr7 pass0) pa_nil))))
  (pss_cons (ps_set (i := 4) scRWth.nd rfl (Or.inl rfl) (pe_ifExp (pt_val (pe_methH (pv 0) TR.cl MA hr3 pass0 (pa_cons pe_str pa_nil))) (pe_methH0 (pv 0) TR.cl MN hr4 pass0) (pe_tup pa_nil)))
  (pss_one (ps_ret (pe_tup (pa_cons pe_str (pa_cons (pv 2) (pa_cons (pv 3) (pa_cons (pv 4) (pa_cons (pe_methH0 (pv 0) TR.cl MB hr pass0) pa_nil)))))))))))))), ?_⟩
    rw [shC_app] at ra
    obtain ⟨dx, i, e1⟩ := ra.ins
    refine ⟨_, rfl, S, dx, _, rfl, e1, rfl, S, L, d, ts, e.1, _, rfl, ra, fun H1 b1 ra1 => ?_⟩
    obtain ⟨dx1, i1, e2⟩ := ra1.ins
    refine ⟨_, rfl, _, rfl, S, dx1, _, rfl, e2, rfl, S, L, d, ts, e.2, _, rfl, ra1, le g.1, g.1.2.2, fun v1 H2 b2 ra2 dv1 => ⟨(by show 2 ≤ sizeLine; decide), fun p hp => ?_⟩⟩
    have s3 := same_new (o := .tup [.str e.1, v1]) hp
    have df : Dp K (upd H2 p (.tup [.str e.1, v1])) (.ref p) (calD e) := .tup (SqT.of upd_same) (.cons (.str _) (.cons (dv1.same s3) .nil))
    have ra3 := ra2.same s3
    have b3 := (b1.trans b2).trans (.of s3)
    generalize upd H2 p (.tup [.str e.1, v1]) = H3 at *
    obtain ⟨dx3, i3, e4⟩ := ra3.ins
    refine ⟨_, rfl, S, dx3, _, rfl, e4, rfl, S, L, d, ts, ",", _, rfl, ra3, fun H4 b4 ra4 => ?_⟩
    obtain ⟨dx4, i4, e5⟩ := ra4.ins
    rw [shC_app] at ra4
    refine ⟨_, rfl, S, dx4, _, rfl, e5, rfl, S, L, d, ts, l.1, _, rfl, ra4, fun H5 b5 ra5 => ?_⟩
    obtain ⟨dx5, i5, e6⟩ := ra5.ins
    refine ⟨_, rfl, _, rfl, S, dx5, _, rfl, e6, rfl, S, L, d, ts, l.2, _, rfl, ra5, le g.2.1, g.2.1.2.2, fun v2 H6 b6 ra6 dv2 => ⟨(by show 2 ≤ sizeLine; decide), fun q hq => ?_⟩⟩
    have s7 := same_new (o := .tup [.str l.1, v2]) hq
    have df7 : Dp K (upd H6 q (.tup [.str l.1, v2])) (.ref p) (calD e) := (df.tps (((ra3.tps b4).trans (ra4.tps b5)).trans (ra5.tps b6)) (noL_cal e)).same s7
    have dl : Dp K (upd H6 q (.tup [.str l.1, v2])) (.ref q) (calD l) := .tup (SqT.of upd_same) (.cons (.str _) (.cons (dv2.same s7) .nil))
    have ra7 := ra6.same s7
    have b7 := (((b3.trans b4).trans b5).trans b6).trans (.of s7)
    generalize upd H6 q (.tup [.str l.1, v2]) = H7 at *
    obtain ⟨dx7, i7, e7⟩ := ra7.ins
    have key : ∀ (u : Addr) (H' : Hp), Bt S H H' → RdS C H' S L d ts (blkH n b ++ r) → Dp K H' (.ref p) (calD e) → Dp K H' (.ref q) (calD l) → Dp K H' (.ref u) (nmD ks) → tRet (tTup (tCons (tC (.str "with")) (tCons (tVar 2) (tCons (tVar 3) (tCons (tVar 4) (tCons (tMeth C "read_block" (spBlkS K C n) [] E0 (tVar 0) tNil) tNil)))))) { nx := fun _ H' => Q .non H', rt := Q } [some (.ref S), some (.str l.1), some (.ref p), some (.ref q), some (.ref u)] H' := by
      intro u H8 b8 ra8 df8 dl8 du8
      rw [blkH_app] at ra8
      obtain ⟨dx8, i8, e8⟩ := ra8.ins
      refine ⟨_, rfl, _, rfl, _, rfl, _, rfl, S, dx8, _, rfl, e8, rfl, S, L, d, ts, b, r, rfl, ra8, g.2.2.2, hd, hz, hdp, fun v H9 b9 ra9 dv => ⟨(by show 5 ≤ sizeLine; decide), fun t ht => ?_⟩⟩
      have t9 := ra8.tps b9
      have sA := same_new (o := .tup [.str "with", .ref p, .ref q, .ref u, v]) ht
      exact k _ _ ((b8.trans b9).trans (.of sA)) (ra9.same sA) (.tup (SqT.of upd_same) (.cons (.str _) (.cons ((df8.tps t9 (noL_cal e)).same sA) (.cons ((dl8.tps t9 (noL_cal l)).same sA) (.cons ((du8.tps t9 (noL_nm ks)).same sA) (.cons (dv.same sA) .nil))))))
    by_cases hE : ks.isEmpty = true
    · have e9 : shSwa ks = [] := if_pos hE
      rw [e9] at ra7
      have ra7 : RdS C H7 S L d ts (mk "{" :: (shB n b ++ mk "}" :: r)) := by rw [← blkH_app]; exact ra7
      refine ⟨_, rfl, S, dx7, _, rfl, e7, rfl, S, L, d, ts, mk "{", _, "swallow", rfl, ra7, .inl ⟨by decide +kernel, false, rfl, iteE rfl ⟨(by show 0 ≤ sizeLine; decide), fun u hu => ?_⟩⟩⟩
      have s8 := same_new (o := .tup []) hu
      refine key u _ (b7.trans (.of s8)) (by rw [blkH_app]; exact ra7.same s8) (df7.same s8) (dl.same s8) ?_
      rw [List.isEmpty_iff.mp hE]
      exact nm_dp upd_same
    · have e9 : shSwa ks = mk "swallow" :: shNs ks := if_neg hE
      rw [e9] at ra7
      have ra7 : RdS C H7 S L d ts (mk "swallow" :: (shNs ks ++ mk "{" :: (shB n b ++ mk "}" :: r))) := by rw [← blkH_app]; exact ra7
      refine ⟨_, rfl, S, dx7, _, rfl, e7, rfl, S, L, d, ts, mk "swallow", _, "swallow", rfl, ra7, .inr ⟨rfl, fun H8 b8 ra8 => ⟨true, rfl, iteS rfl ?_⟩⟩⟩
      obtain ⟨dx8, i8, e8⟩ := ra8.ins
      have t8 := ra7.tps b8
      refine ⟨_, rfl, S, dx8, _, rfl, e8, rfl, S, L, d, ts, ks, mk "{", _, rfl, ra8, (fun z => hE (by rw [z]; rfl)), Nat.le_trans g.2.2.1.1 (by decide), by decide +kernel, fun u H9 b9 ra9 hu => ?_⟩
      have t9 := ra8.tps b9
      exact key u _ ((b7.trans b8).trans b9) (by rw [blkH_app]; exact ra9) ((df7.tps t8 (noL_cal e)).tps t9 (noL_cal e)) ((dl.tps t8 (noL_cal l)).tps t9 (noL_cal l)) (nm_dp hu)
theorem ok_RStm {n : Nat} {f : Addr} {fd : FuncData} (F : Fun K "read_statement" "Reader.read_statement" sRStm f fd) (TR : TxR K C) (MC : HasM P w K mg base CX0 1 C "current" PRCur (spCurS C)) (MM : HasM P w K mg base CX0 2 C "read_name" PRName (spNamS C)) (MA : HasM P w K mg base CX0 3 C "accept" PRAcc (spAccS C)) (ME : HasM P w K mg base CX0 4 C "expect" PRExp (spExpS C)) (MN : HasM P w K mg base CX0 4 C "read_names" PRNms (spNmsS C)) (MX : HasM P w K mg base CX0 5 C "read_expression" PRExpr (spSumS K C)) (MT : HasM P w K mg base CX0 8 C "read_action" PRAct (spActS K C)) (MB : HasM P w K mg base CX0 (9 + 3 * n) C "read_block" PRBlk (spBlkS K C n)) (MY : HasM P w K mg base CX0 (9 + 3 * n + 1) C "read_try" PRTry (spTryS K C n)) (MW : HasM P w K mg base CX0 (9 + 3 * n + 1) C "read_with" PRWth (spWthS K C n)) : FnOk P w K mg base CX0 (9 + 3 * n + 1 + 1) f fd PRStm (spStmS K C n) := by
  refine F.ok scRStm (fun vs H Q E h => ?_) (fun cdv A outer s H vs Q E hr h => ?_)
  · obtain ⟨S, L, d, ts, s, y, r, rfl, _⟩ := h
    rfl
  · obtain ⟨S, L, d, ts, st, y, r, rfl, ra, g, hd, hz, hdp, hy, k⟩ := h
    have hr1 := hr.mono (j := 1) (by omega)
    have hr2 := hr.mono (j := 2) (by omega)
    have hr3 := hr.mono (j := 3) (by omega)
    have hr4 := hr.mono (j := 4) (by omega)
    have hr5 := hr.mono (j := 5) (by omega)
    have hr8 := hr.mono (j := 8) (by omega)
    have hrB := hr.mono (j := 9 + 3 * n) (by omega)
    refine ⟨_, (pss_cons (ps_if (pt_cmpR op_eq (pe_ix (r := rIxT K) ix_tup (pe_methH0 (pv 0) TR.cl MC hr1 pass0) pe_int (fun _ _ => rfl)) pe_str (nomark _))
  (pss_one (ps_ret (pe_methH0 (pv 0) TR.cl MT hr8 pass0)))
  pss_nil)
  (pss_cons (ps_if (pt_val (pe_methH (pv 0) TR.cl MA hr3 pass0 (pa_cons pe_str pa_nil)))
  (pss_cons (ps_set (i := 1) scRStm.nd rfl (Or.inl rfl) (pe_methH0 (pv 0) TR.cl MB hrB pass0))
  (pss_one (ps_ret (pe_tup (pa_cons pe_str (pa_cons (pv 1) (pa_cons (pe_ifExp (pt_val (pe_methH (pv 0) TR.cl MA hr3 pass0 (pa_cons pe_str pa_nil))) (pe_methH0 (pv 0) TR.cl MB hrB pass0) (pe_tup pa_nil)) pa_nil)))))))
  pss_nil)
  (pss_cons (ps_if (pt_val (pe_methH (pv 0) TR.cl MA hr3 pass0 (pa_cons pe_str pa_nil)))
  (pss_one (ps_ret (pe_tup (pa_cons pe_str (pa_cons (pe_methH0 (pv 0) TR.cl MB hrB pass0) pa_nil)))))
  pss_nil)
  (pss_cons (ps_if (pt_val (pe_methH (pv 0) TR.cl MA hr3 pass0 (pa_cons pe_str pa_nil)))
  (pss_one (ps_ret (pe_tup (pa_cons pe_str (pa_cons (pe_methH0 (pv 0) TR.cl MN hr4 pass0) pa_nil)))))
  pss_nil)
  (pss_cons (ps_if (pt_val (pe_methH (pv 0) TR.cl MA hr3 pass0 (pa_cons pe_str pa_nil)))
  (pss_one (ps_ret (pe_tup (pa_cons pe_str (pa_cons (pe_methH0 (pv 0) TR.cl MM hr2 pass0) pa_nil)))))
  pss_nil)
  (pss_cons (ps_if (pt_val (pe_methH (pv 0) TR.cl MA hr3 pass0 (pa_cons pe_str pa_nil)))
  (pss_one (ps_ret (pe_methH0 (pv 0) TR.cl MY hr pass0)))
  pss_nil)
  (pss_cons (ps_if (pt_val (pe_methH (pv 0) TR.cl MA hr3 pass0 (pa_cons pe_str pa_nil)))
  (pss_cons (ps_set (i := 2) scRStm.nd rfl (Or.inl rfl) (pe_methH0 (pv 0) TR.cl MN hr4 pass0))
  (pss_one (ps_ret (pe_tup (pa_cons pe_str (pa_cons (pv 2) (pa_cons (pe_methH0 (pv 0) TR.cl MB hrB pass0) pa_nil)))))))
  pss_nil)
  (pss_cons (ps_if (pt_val (pe_methH (pv 0) TR.cl MA hr3 pass0 (pa_cons pe_str pa_nil)))
  (pss_one (ps_ret (pe_methH0 (pv 0) TR.cl MW hr pass0)))
  pss_nil)
  (pss_cons (ps_expr (pe_methH (pv 0) TR.cl ME hr4 pass0 (pa_cons pe_str pa_nil)))
  (pss_one (ps_ret (pe_tup (pa_cons pe_str (pa_cons (pe_methH0 (pv 0) TR.cl MX hr5 pass0) pa_nil)))))))))))))), ?_⟩
    obtain ⟨dx, i, e1⟩ := ra.ins
    cases st with
    | set t e =>
      rw [sh_sim n rfl] at ra
      have ra0 : RdS C H S L d ts (nme t :: _) := ra
      refine ⟨_, rfl, S, dx, _, rfl, e1, rfl, S, L, d, ts, nme t, _, rfl, ra0, fun p aa hp => ⟨p, _, _, _, rfl, rfl, SqT.of hp, rfl, rfl, decide (("name" : Str) = "name"), by rw [dec_str], iteS (decide_eq_true rfl) ?_⟩⟩
      exact ⟨_, rfl, S, dx, _, rfl, e1, rfl, S, L, d, ts, _, y, r, rfl, ra, trivial, g, hy, k⟩
    | input t =>
      rw [sh_sim n rfl] at ra
      have ra0 : RdS C H S L d ts (nme t :: _) := ra
      refine ⟨_, rfl, S, dx, _, rfl, e1, rfl, S, L, d, ts, nme t, _, rfl, ra0, fun p aa hp => ⟨p, _, _, _, rfl, rfl, SqT.of hp, rfl, rfl, decide (("name" : Str) = "name"), by rw [dec_str], iteS (decide_eq_true rfl) ?_⟩⟩
      exact ⟨_, rfl, S, dx, _, rfl, e1, rfl, S, L, d, ts, _, y, r, rfl, ra, trivial, g, hy, k⟩
    | call t f as =>
      cases t with
      | none =>
        rw [sh_sim n rfl] at ra
        have ra0 : RdS C H S L d ts (nme f :: _) := ra
        refine ⟨_, rfl, S, dx, _, rfl, e1, rfl, S, L, d, ts, nme f, _, rfl, ra0, fun p aa hp => ⟨p, _, _, _, rfl, rfl, SqT.of hp, rfl, rfl, decide (("name" : Str) = "name"), by rw [dec_str], iteS (decide_eq_true rfl) ?_⟩⟩
        exact ⟨_, rfl, S, dx, _, rfl, e1, rfl, S, L, d, ts, _, y, r, rfl, ra, trivial, g, hy, k⟩
      | some t =>
        rw [sh_sim n rfl] at ra
        have ra0 : RdS C H S L d ts (nme t :: _) := ra
        refine ⟨_, rfl, S, dx, _, rfl, e1, rfl, S, L, d, ts, nme t, _, rfl, ra0, fun p aa hp => ⟨p, _, _, _, rfl, rfl, SqT.of hp, rfl, rfl, decide (("name" : Str) = "name"), by rw [dec_str], iteS (decide_eq_true rfl) ?_⟩⟩
        exact ⟨_, rfl, S, dx, _, rfl, e1, rfl, S, L, d, ts, _, y, r, rfl, ra, trivial, g, hy, k⟩
    | risk ks =>
      have g : ks ≠ [] ∧ GNs ks := g
      have ra : RdS C H S L d ts (mk "risk" :: (shNs ks ++ y :: r)) := ra
      refine ⟨_, rfl, S, dx, _, rfl, e1, rfl, S, L, d, ts, mk "risk", _, rfl, ra, fun p aa hp => ⟨p, _, _, _, rfl, rfl, SqT.of hp, rfl, rfl, decide (("mark" : Str) = "name"), by rw [dec_str], iteE (by decide +kernel) ?_⟩⟩
      refine ⟨_, rfl, S, dx, _, rfl, e1, rfl, S, L, d, ts, mk "risk", _, "if", rfl, ra, .inl ⟨by decide +kernel, false, rfl, iteE rfl ?_⟩⟩
      refine ⟨_, rfl, S, dx, _, rfl, e1, rfl, S, L, d, ts, mk "risk", _, "while", rfl, ra, .inl ⟨by decide +kernel, false, rfl, iteE rfl ?_⟩⟩
      refine ⟨_, rfl, S, dx, _, rfl, e1, rfl, S, L, d, ts, mk "risk", _, "risk", rfl, ra, .inr ⟨rfl, fun H1 b1 ra1 => ⟨true, rfl, iteS rfl ?_⟩⟩⟩
      obtain ⟨dx1, i1, e2⟩ := ra1.ins
      refine ⟨_, rfl, S, dx1, _, rfl, e2, rfl, S, L, d, ts, ks, y, r, rfl, ra1, g.1, Nat.le_trans g.2.1 (by decide), hy.all.2.2.2.2.2.2.1, fun p H2 b2 ra2 hp => ⟨(by show 2 ≤ sizeLine; decide), fun t ht => ?_⟩⟩
      have s3 := same_new (o := .tup [.str "risk", .ref p]) ht
      exact k _ _ ((b1.trans b2).trans (.of s3)) (ra2.same s3) (.tup (SqT.of upd_same) (.cons (.str _) (.cons ((nm_dp hp).same s3) .nil)))
    | raise x =>
      have ra : RdS C H S L d ts (mk "raise" :: nme x :: y :: r) := ra
      refine ⟨_, rfl, S, dx, _, rfl, e1, rfl, S, L, d, ts, mk "raise", _, rfl, ra, fun p aa hp => ⟨p, _, _, _, rfl, rfl, SqT.of hp, rfl, rfl, decide (("mark" : Str) = "name"), by rw [dec_str], iteE (by decide +kernel) ?_⟩⟩
      refine ⟨_, rfl, S, dx, _, rfl, e1, rfl, S, L, d, ts, mk "raise", _, "if", rfl, ra, .inl ⟨by decide +kernel, false, rfl, iteE rfl ?_⟩⟩
      refine ⟨_, rfl, S, dx, _, rfl, e1, rfl, S, L, d, ts, mk "raise", _, "while", rfl, ra, .inl ⟨by decide +kernel, false, rfl, iteE rfl ?_⟩⟩
      refine ⟨_, rfl, S, dx, _, rfl, e1, rfl, S, L, d, ts, mk "raise", _, "risk", rfl, ra, .inl ⟨by decide +kernel, false, rfl, iteE rfl ?_⟩⟩
      refine ⟨_, rfl, S, dx, _, rfl, e1, rfl, S, L, d, ts, mk "raise", _, "raise", rfl, ra, .inr ⟨rfl, fun H1 b1 ra1 => ⟨true, rfl, iteS rfl ?_⟩⟩⟩
      obtain ⟨dx1, i1, e2⟩ := ra1.ins
      refine ⟨_, rfl, S, dx1, _, rfl, e2, rfl, S, L, d, ts, x, _, rfl, ra1, fun H2 b2 ra2 => ⟨(by show 2 ≤ sizeLine; decide), fun t ht => ?_⟩⟩
      have s3 := same_new (o := .tup [.str "raise", .str x]) ht
      exact k _ _ ((b1.trans b2).trans (.of s3)) (ra2.same s3) (.tup (SqT.of upd_same) (.cons (.str _) (.cons (.str _) .nil)))
    | ret e =>
      have ra : RdS C H S L d ts (mk "return" :: (shE e ++ y :: r)) := ra
      refine ⟨_, rfl, S, dx, _, rfl, e1, rfl, S, L, d, ts, mk "return", _, rfl, ra, fun p aa hp => ⟨p, _, _, _, rfl, rfl, SqT.of hp, rfl, rfl, decide (("mark" : Str) = "name"), by rw [dec_str], iteE (by decide +kernel) ?_⟩⟩
      refine ⟨_, rfl, S, dx, _, rfl, e1, rfl, S, L, d, ts, mk "return", _, "if", rfl, ra, .inl ⟨by decide +kernel, false, rfl, iteE rfl ?_⟩⟩
      refine ⟨_, rfl, S, dx, _, rfl, e1, rfl, S, L, d, ts, mk "return", _, "while", rfl, ra, .inl ⟨by decide +kernel, false, rfl, iteE rfl ?_⟩⟩
      refine ⟨_, rfl, S, dx, _, rfl, e1, rfl, S, L, d, ts, mk "return", _, "risk", rfl, ra, .inl ⟨by decide +kernel, false, rfl, iteE rfl ?_⟩⟩
      refine ⟨_, rfl, S, dx, _, rfl, e1, rfl, S, L, d, ts, mk "return", _, "raise", rfl, ra, .inl ⟨by decide +kernel, false, rfl, iteE rfl ?_⟩⟩
      refine ⟨_, rfl, S, dx, _, rfl, e1, rfl, S, L, d, ts, mk "return", _, "try", rfl, ra, .inl ⟨by decide +kernel, false, rfl, iteE rfl ?_⟩⟩
      refine ⟨_, rfl, S, dx, _, rfl, e1, rfl, S, L, d, ts, mk "return", _, "undo", rfl, ra, .inl ⟨by decide +kernel, false, rfl, iteE rfl ?_⟩⟩
      refine ⟨_, rfl, S, dx, _, rfl, e1, rfl, S, L, d, ts, mk "return", _, "with", rfl, ra, .inl ⟨by decide +kernel, false, rfl, iteE rfl ?_⟩⟩
      refine ⟨_, rfl, S, dx, _, rfl, e1, rfl, S, L, d, ts, "return", _, rfl, ra, fun H1 b1 ra1 => ?_⟩
      obtain ⟨dx1, i1, e2⟩ := ra1.ins
      refine ⟨_, rfl, S, dx1, _, rfl, e2, rfl, S, L, d, ts, e, y, r, rfl, ra1, g, hy.stop, fun v H2 b2 ra2 dv => ⟨(by show 2 ≤ sizeLine; decide), fun t ht => ?_⟩⟩
      have s3 := same_new (o := .tup [.str "return", v]) ht
      exact k _ _ ((b1.trans b2).trans (.of s3)) (ra2.same s3) (.tup (SqT.of upd_same) (.cons (.str _) (.cons (dv.same s3) .nil)))
    | whl b =>
      have ra : RdS C H S L d ts (mk "while" :: (mk "{" :: (shB n b ++ mk "}" :: y :: r))) := by
        rw [sh_whl] at ra
        rw [← blkH_app]
        exact ra
      refine ⟨_, rfl, S, dx, _, rfl, e1, rfl, S, L, d, ts, mk "while", _, rfl, ra, fun p aa hp => ⟨p, _, _, _, rfl, rfl, SqT.of hp, rfl, rfl, decide (("mark" : Str) = "name"), by rw [dec_str], iteE (by decide +kernel) ?_⟩⟩
      refine ⟨_, rfl, S, dx, _, rfl, e1, rfl, S, L, d, ts, mk "while", _, "if", rfl, ra, .inl ⟨by decide +kernel, false, rfl, iteE rfl ?_⟩⟩
      refine ⟨_, rfl, S, dx, _, rfl, e1, rfl, S, L, d, ts, mk "while", _, "while", rfl, ra, .inr ⟨rfl, fun H1 b1 ra1 => ⟨true, rfl, iteS rfl ?_⟩⟩⟩
      obtain ⟨dx1, i1, e2⟩ := ra1.ins
      refine ⟨_, rfl, S, dx1, _, rfl, e2, rfl, S, L, d, ts, b, _, rfl, ra1, g, hd, hz, hdp, fun v H2 b2 ra2 dv => ⟨(by show 2 ≤ sizeLine; decide), fun t ht => ?_⟩⟩
      have s3 := same_new (o := .tup [.str "while", v]) ht
      exact k _ _ ((b1.trans b2).trans (.of s3)) (ra2.same s3) (.tup (SqT.of upd_same) (.cons (.str _) (.cons (dv.same s3) .nil)))
    | try_ b hs ff =>
      have ra : RdS C H S L d ts (mk "try" :: (blkH n b ++ (shHd n hs ++ (shFin n hs ff ++ y :: r)))) := by
        rw [sh_try] at ra
        simpa using ra
      refine ⟨_, rfl, S, dx, _, rfl, e1, rfl, S, L, d, ts, mk "try", _, rfl, ra, fun p aa hp => ⟨p, _, _, _, rfl, rfl, SqT.of hp, rfl, rfl, decide (("mark" : Str) = "name"), by rw [dec_str], iteE (by decide +kernel) ?_⟩⟩
      refine ⟨_, rfl, S, dx, _, rfl, e1, rfl, S, L, d, ts, mk "try", _, "if", rfl, ra, .inl ⟨by decide +kernel, false, rfl, iteE rfl ?_⟩⟩
      refine ⟨_, rfl, S, dx, _, rfl, e1, rfl, S, L, d, ts, mk "try", _, "while", rfl, ra, .inl ⟨by decide +kernel, false, rfl, iteE rfl ?_⟩⟩
      refine ⟨_, rfl, S, dx, _, rfl, e1, rfl, S, L, d, ts, mk "try", _, "risk", rfl, ra, .inl ⟨by decide +kernel, false, rfl, iteE rfl ?_⟩⟩
      refine ⟨_, rfl, S, dx, _, rfl, e1, rfl, S, L, d, ts, mk "try", _, "raise", rfl, ra, .inl ⟨by decide +kernel, false, rfl, iteE rfl ?_⟩⟩
      refine ⟨_, rfl, S, dx, _, rfl, e1, rfl, S, L, d, ts, mk "try", _, "try", rfl, ra, .inr ⟨rfl, fun H1 b1 ra1 => ⟨true, rfl, iteS rfl ?_⟩⟩⟩
      obtain ⟨dx1, i1, e2⟩ := ra1.ins
      exact ⟨_, rfl, S, dx1, _, rfl, e2, rfl, S, L, d, ts, b, hs, ff, y, r, rfl, ra1, g, hd, hz, hdp, hy, fun v H2 b2 ra2 dv => k v H2 (b1.trans b2) ra2 dv⟩
    | undo ns b =>
      have g : (ns ≠ [] ∧ GNs ns) ∧ gL b := g
      have ra : RdS C H S L d ts (mk "undo" :: (shNs ns ++ (mk "{" :: (shB n b ++ mk "}" :: y :: r)))) := by
        rw [sh_undo] at ra
        rw [← blkH_app]
        simpa using ra
      refine ⟨_, rfl, S, dx, _, rfl, e1, rfl, S, L, d, ts, mk "undo", _, rfl, ra, fun p aa hp => ⟨p, _, _, _, rfl, rfl, SqT.of hp, rfl, rfl, decide (("mark" : Str) = "name"), by rw [dec_str], iteE (by decide +kernel) ?_⟩⟩
      refine ⟨_, rfl, S, dx, _, rfl, e1, rfl, S, L, d, ts, mk "undo", _, "if", rfl, ra, .inl ⟨by decide +kernel, false, rfl, iteE rfl ?_⟩⟩
      refine ⟨_, rfl, S, dx, _, rfl, e1, rfl, S, L, d, ts, mk "undo", _, "while", rfl, ra, .inl ⟨by decide +kernel, false, rfl, iteE rfl ?_⟩⟩
      refine ⟨_, rfl, S, dx, _, rfl, e1, rfl, S, L, d, ts, mk "undo", _, "risk", rfl, ra, .inl ⟨by decide +kernel, false, rfl, iteE rfl ?_⟩⟩
      refine ⟨_, rfl, S, dx, _, rfl, e1, rfl, S, L, d, ts, mk "undo", _, "raise", rfl, ra, .inl ⟨by decide +kernel, false, rfl, iteE rfl ?_⟩⟩
      refine ⟨_, rfl, S, dx, _, rfl, e1, rfl, S, L, d, ts, mk "undo", _, "try", rfl, ra, .inl ⟨by decide +kernel, false, rfl, iteE rfl ?_⟩⟩
      refine ⟨_, rfl, S, dx, _, rfl, e1, rfl, S, L, d, ts, mk "undo", _, "undo", rfl, ra, .inr ⟨rfl, fun H1 b1 ra1 => ⟨true, rfl, iteS rfl ?_⟩⟩⟩
      obtain ⟨dx1, i1, e2⟩ := ra1.ins
      refine ⟨_, rfl, S, dx1, _, rfl, e2, rfl, S, L, d, ts, ns, mk "{", _, rfl, ra1, g.1.1, Nat.le_trans g.1.2.1 (by decide), by decide +kernel, fun p H2 b2 ra2 hp => ?_⟩
      obtain ⟨dx2, i2, e3⟩ := ra2.ins
      refine ⟨_, rfl, _, rfl, S, dx2, _, rfl, e3, rfl, S, L, d, ts, b, _, rfl, ra2, g.2, hd, hz, hdp, fun v H3 b3 ra3 dv => ⟨(by show 3 ≤ sizeLine; decide), fun t ht => ?_⟩⟩
      have s4 := same_new (o := .tup [.str "undo", .ref p, v]) ht
      exact k _ _ (((b1.trans b2).trans b3).trans (.of s4)) (ra3.same s4) (.tup (SqT.of upd_same) (.cons (.str _) (.cons (((nm_dp hp).tps (ra2.tps b3) (noL_nm _)).same s4) (.cons (dv.same s4) .nil))))
    | with_ e l ks b =>
      have ra : RdS C H S L d ts (mk "with" :: (shC e ++ mk "," :: (shC l ++ (shSwa ks ++ (blkH n b ++ y :: r))))) := by
        rw [sh_with] at ra
        simpa using ra
      refine ⟨_, rfl, S, dx, _, rfl, e1, rfl, S, L, d, ts, mk "with", _, rfl, ra, fun p aa hp => ⟨p, _, _, _, rfl, rfl, SqT.of hp, rfl, rfl, decide (("mark" : Str) = "name"), by rw [dec_str], iteE (by decide +kernel) ?_⟩⟩
      refine ⟨_, rfl, S, dx, _, rfl, e1, rfl, S, L, d, ts, mk "with", _, "if", rfl, ra, .inl ⟨by decide +kernel, false, rfl, iteE rfl ?_⟩⟩
      refine ⟨_, rfl, S, dx, _, rfl, e1, rfl, S, L, d, ts, mk "with", _, "while", rfl, ra, .inl ⟨by decide +kernel, false, rfl, iteE rfl ?_⟩⟩
      refine ⟨_, rfl, S, dx, _, rfl, e1, rfl, S, L, d, ts, mk "with", _, "risk", rfl, ra, .inl ⟨by decide +kernel, false, rfl, iteE rfl ?_⟩⟩
      refine ⟨_, rfl, S, dx, _, rfl, e1, rfl, S, L, d, ts, mk "with", _, "raise", rfl, ra, .inl ⟨by decide +kernel, false, rfl, iteE rfl ?_⟩⟩
      refine ⟨_, rfl, S, dx, _, rfl, e1, rfl, S, L, d, ts, mk "with", _, "try", rfl, ra, .inl ⟨by decide +kernel, false, rfl, iteE rfl ?_⟩⟩
      refine ⟨_, rfl, S, dx, _, rfl, e1, rfl, S, L, d, ts, mk "with", _, "undo", rfl, ra, .inl ⟨by decide +kernel, false, rfl, iteE rfl ?_⟩⟩
      refine ⟨_, rfl, S, dx, _, rfl, e1, rfl, S, L, d, ts, mk "with", _, "with", rfl, ra, .inr ⟨rfl, fun H1 b1 ra1 => ⟨true, rfl, iteS rfl ?_⟩⟩⟩
      obtain ⟨dx1, i1, e2⟩ := ra1.ins
      exact ⟨_, rfl, S, dx1, _, rfl, e2, rfl, S, L, d, ts, e, l, ks, b, y :: r, rfl, ra1, g, hd, hz, hdp, fun v H2 b2 ra2 dv => k v H2 (b1.trans b2) ra2 dv⟩
    | ite a b =>
      have g : gL a ∧ gL b := g
      have hd : max (dpB a) (dpB b) ≤ n := hd
      have hz : szB a + szB b ≤ 900 := hz
      have ra : RdS C H S L d ts (mk "if" :: (mk "{" :: (shB n a ++ mk "}" :: ((if b.isEmpty = true then [] else mk "else" :: blkH n b) ++ y :: r)))) := by
        rw [sh_ite] at ra
        have e : mk "if" :: (blkH n a ++ (if b.isEmpty = true then [] else mk "else" :: blkH n b)) ++ y :: r = mk "if" :: (mk "{" :: (shB n a ++ mk "}" :: ((if b.isEmpty = true then [] else mk "else" :: blkH n b) ++ y :: r))) := by
          rw [← blkH_app]
          simp only [List.cons_append, List.append_assoc]
        rw [← e]
        exact ra
      refine ⟨_, rfl, S, dx, _, rfl, e1, rfl, S, L, d, ts, mk "if", _, rfl, ra, fun p aa hp => ⟨p, _, _, _, rfl, rfl, SqT.of hp, rfl, rfl, decide (("mark" : Str) = "name"), by rw [dec_str], iteE (by decide +kernel) ?_⟩⟩
      refine ⟨_, rfl, S, dx, _, rfl, e1, rfl, S, L, d, ts, mk "if", _, "if", rfl, ra, .inr ⟨rfl, fun H1 b1 ra1 => ⟨true, rfl, iteS rfl ?_⟩⟩⟩
      obtain ⟨dx1, i1, e2⟩ := ra1.ins
      refine ⟨_, rfl, S, dx1, _, rfl, e2, rfl, S, L, d, ts, a, _, rfl, ra1, g.1, by omega, by omega, hdp, fun v H2 b2 ra2 dv => ?_⟩
      obtain ⟨dx2, i2, e3⟩ := ra2.ins
      by_cases hE : b.isEmpty = true
      · rw [if_pos hE] at ra2
        have ra2 : RdS C H2 S L d ts (y :: r) := ra2
        refine ⟨_, rfl, _, rfl, S, dx2, _, rfl, e3, rfl, S, L, d, ts, y, r, "else", rfl, ra2, .inl ⟨hy.all.2.2.2.1, false, rfl, iteE rfl ⟨(by show 0 ≤ sizeLine; decide), fun u hu => ⟨(by show 3 ≤ sizeLine; decide), fun t ht => ?_⟩⟩⟩⟩
        have s4 := same_new (o := .tup []) hu
        have s5 := same_new (o := .tup [.str "if", v, .ref u]) ht
        have s45 := s4.trans s5
        refine k _ _ ((b1.trans b2).trans (.of s45)) (ra2.same s45) (.tup (SqT.of upd_same) (.cons (.str _) (.cons (dv.same s45) (.cons ?_ .nil))))
        rw [List.isEmpty_iff.mp hE]
        exact .tup (SqT.same s5 (SqT.of upd_same)) .nil
      · rw [if_neg hE] at ra2
        have ra2 : RdS C H2 S L d ts (mk "else" :: (mk "{" :: (shB n b ++ mk "}" :: y :: r))) := by rw [← blkH_app]; exact ra2
        refine ⟨_, rfl, _, rfl, S, dx2, _, rfl, e3, rfl, S, L, d, ts, mk "else", _, "else", rfl, ra2, .inr ⟨rfl, fun H3 b3 ra3 => ⟨true, rfl, iteS rfl ?_⟩⟩⟩
        obtain ⟨dx3, i3, e4⟩ := ra3.ins
        have t3 := ra2.tps b3
        refine ⟨_, rfl, S, dx3, _, rfl, e4, rfl, S, L, d, ts, b, _, rfl, ra3, g.2, by omega, by omega, hdp, fun v2 H4 b4 ra4 dv2 => ⟨(by show 3 ≤ sizeLine; decide), fun t ht => ?_⟩⟩
        have t4 := ra3.tps b4
        have s5 := same_new (o := .tup [.str "if", v, v2]) ht
        exact k _ _ ((((b1.trans b2).trans b3).trans b4).trans (.of s5)) (ra4.same s5) (.tup (SqT.of upd_same) (.cons (.str _) (.cons (((dv.tps t3 (noL_bl a)).tps t4 (noL_bl a)).same s5) (.cons (dv2.same s5) .nil))))
end

/-! ### k03: read_function, read_program, parse -/
abbrev sRFun : Stmt := inClass (topS 27) 18
abbrev NRFun : List Str := ["self", "name", "params"]
abbrev PRFun : List Str := ["self"]
theorem scRFun : FnScope NRFun PRFun (defScope sRFun) := ⟨rfl, rfl, rfl, by decide +kernel, rfl, by decide +kernel, by decide +kernel⟩
abbrev sRPrg : Stmt := inClass (topS 27) 19
abbrev NRPrg : List Str := ["self", "names", "kinds", "keeps", "functions"]
abbrev PRPrg : List Str := ["self"]
theorem scRPrg : FnScope NRPrg PRPrg (defScope sRPrg) := ⟨rfl, rfl, rfl, by decide +kernel, rfl, by decide +kernel, by decide +kernel⟩
abbrev sParse : Stmt := topS 28
abbrev NParse : List Str := ["text"]
abbrev PParse : List Str := ["text"]
theorem scParse : FnScope NParse PParse (defScope sParse) := ⟨rfl, rfl, rfl, by decide +kernel, rfl, by decide +kernel, by decide +kernel⟩
def endH : Str × Str := ("end", "")
def spFunS (K : PySem.W.Frag) (C : Addr) (n : Nat) : Sp := fun vs H Q _ => ∃ (S L : Addr) (d : Nat) (ts : List TK) (f : Fn) (r : SH), vs = [.ref S] ∧ RdS C H S L d ts (nme f.name :: mk "(" :: (sepH (f.ps.map shPar) ++ mk ")" :: mk "{" :: (shB n f.b ++ mk "}" :: r))) ∧ f.ps.length ≤ 900 ∧ gL f.b ∧ dpB f.b ≤ n ∧ szB f.b ≤ 900 ∧ d + n ≤ 30 ∧ ∀ (v : V) (H' : Hp), Bt S H H' → RdS C H' S L d ts r → Dp K H' v (fnD f) → Q v H'
def spPrgS (K : PySem.W.Frag) (C : Addr) (n : Nat) : Sp := fun vs H Q _ => ∃ (S L : Addr) (ts : List TK) (t : Tr), vs = [.ref S] ∧ RdS C H S L 0 ts (shT n t ++ [endH]) ∧ GT n t ∧ ∀ (v : V) (H' : Hp), Bt S H H' → Dp K H' v (trD t) → Q v H'
theorem shPar_head (p : Str × Bool) : ∃ y r, shPar p = y :: r ∧ y ≠ mk ")" := by
  unfold shPar
  split
  · exact ⟨_, _, rfl, by decide +kernel⟩
  · exact ⟨_, _, rfl, fun z => by cases z⟩
theorem T3_head (n : Nat) (l : List Fn) : ∃ y r, l.flatMap (shF n) ++ [endH] = y :: r ∧ (y = mk "def" ∨ y = endH) := by
  cases l with
  | nil => exact ⟨_, _, rfl, .inr rfl⟩
  | cons f r => exact ⟨_, _, rfl, .inl rfl⟩
theorem T2_head (n : Nat) (es : List Ex) (l : List Fn) : ∃ y r, es.flatMap (fun e => mk "keep" :: shE e) ++ (l.flatMap (shF n) ++ [endH]) = y :: r ∧ (y = mk "keep" ∨ y = mk "def" ∨ y = endH) := by
  cases es with
  | nil =>
    obtain ⟨y, r, h, q⟩ := T3_head n l
    exact ⟨y, r, h, .inr q⟩
  | cons e r => exact ⟨_, _, rfl, .inl rfl⟩
theorem T1_head (n : Nat) (ks : List Str) (es : List Ex) (l : List Fn) : ∃ y r, shRow "kinds" ks ++ (es.flatMap (fun e => mk "keep" :: shE e) ++ (l.flatMap (shF n) ++ [endH])) = y :: r ∧ (y = mk "kinds" ∨ y = mk "keep" ∨ y = mk "def" ∨ y = endH) := by
  unfold shRow
  split
  · obtain ⟨y, r, h, q⟩ := T2_head n es l
    exact ⟨y, r, h, .inr q⟩
  · exact ⟨_, _, rfl, .inl rfl⟩
section
variable {P : Program} {w : World} {K : PySem.W.Frag} {mg : Str → Option Value} {base : Heap} {C : Addr}
theorem ok_RBlks {fb fs ft fw : Addr} {db ds dt dw : FuncData} (FB : Fun K "read_block" "Reader.read_block" sRBlk fb db) (FS : Fun K "read_statement" "Reader.read_statement" sRStm fs ds) (FT : Fun K "read_try" "Reader.read_try" sRTry ft dt) (FW : Fun K "read_with" "Reader.read_with" sRWth fw dw) (T : TxBlk mg) (TR : TxR K C)
    (mb : Meth K C "read_block" fb) (bb : Binds K db PRBlk []) (ms : Meth K C "read_statement" fs) (bs : Binds K ds PRStm []) (mt : Meth K C "read_try" ft) (bt : Binds K dt PRTry []) (mw : Meth K C "read_with" fw) (bw : Binds K dw PRWth [])
    (MC : HasM P w K mg base CX0 1 C "current" PRCur (spCurS C)) (MX : HasM P w K mg base CX0 2 C "is_next" PRNext (spNxtS C)) (MM : HasM P w K mg base CX0 2 C "read_name" PRName (spNamS C)) (MA : HasM P w K mg base CX0 3 C "accept" PRAcc (spAccS C)) (ME : HasM P w K mg base CX0 4 C "expect" PRExp (spExpS C)) (MN : HasM P w K mg base CX0 4 C "read_names" PRNms (spNmsS C)) (MS : HasM P w K mg base CX0 5 C "read_expression" PRExpr (spSumS K C)) (MG : HasM P w K mg base CX0 7 C "read_args" PRArgs (spArgsS K C)) (MT : HasM P w K mg base CX0 8 C "read_action" PRAct (spActS K C)) : ∀ n, FnOk P w K mg base CX0 (9 + 3 * n) fb db PRBlk (spBlkS K C n) := by
  intro n
  induction n with
  | zero => exact ⟨fun vs H Q E h => by obtain ⟨_, _, _, _, _, _, _, _, _, h, _⟩ := h; exact (no_dp h).elim, fun _ _ _ _ _ _ _ _ _ _ _ _ _ h => by obtain ⟨_, _, _, _, _, _, _, _, _, h, _⟩ := h; exact (no_dp h).elim⟩
  | succ n ih =>
    have MB : HasM P w K mg base CX0 (9 + 3 * n) C "read_block" PRBlk (spBlkS K C n) := ⟨fb, db, mb, ih, bb⟩
    have MY : HasM P w K mg base CX0 (9 + 3 * n + 1) C "read_try" PRTry (spTryS K C n) := ⟨ft, dt, mt, ok_RTry FT T TR MX MA ME MN MB, bt⟩
    have MW : HasM P w K mg base CX0 (9 + 3 * n + 1) C "read_with" PRWth (spWthS K C n) := ⟨fw, dw, mw, ok_RWth FW TR MM MA ME MN MG MB, bw⟩
    have MZ : HasM P w K mg base CX0 (9 + 3 * n + 2) C "read_statement" PRStm (spStmS K C n) := ⟨fs, ds, ms, ok_RStm FS TR MC MM MA ME MN MS MT MB MY MW, bs⟩
    have r := ok_RBlk FB T TR MX MA ME MZ
    rw [show 9 + 3 * n + 2 + 1 = 9 + 3 * (n + 1) by omega] at r
    exact r
theorem ok_RFun {n : Nat} {f : Addr} {fd : FuncData} (F : Fun K "read_function" "Reader.read_function" sRFun f fd) (T : TxBlk mg) (TR : TxR K C) (MM : HasM P w K mg base CX0 2 C "read_name" PRName (spNamS C)) (MA : HasM P w K mg base CX0 3 C "accept" PRAcc (spAccS C)) (ME : HasM P w K mg base CX0 4 C "expect" PRExp (spExpS C)) (MP : HasM P w K mg base CX0 4 C "read_param" PRPar (spParS C)) (MB : HasM P w K mg base CX0 (9 + 3 * n) C "read_block" PRBlk (spBlkS K C n)) : FnOk P w K mg base CX0 (9 + 3 * n + 1) f fd PRFun (spFunS K C n) := by
  refine F.ok scRFun (fun vs H Q E h => ?_) (fun cdv A outer s H vs Q E hr h => ?_)
  · obtain ⟨S, L, d, ts, fn, r, rfl, _⟩ := h
    rfl
  · obtain ⟨S, L, d, ts, fn, r, rfl, ra, n1, g, hd, hz, hdp, k⟩ := h
    have hr2 := hr.mono (j := 2) (by omega)
    have hr3 := hr.mono (j := 3) (by omega)
    have hr4 := hr.mono (j := 4) (by omega)
    refine ⟨_, (pss_cons (ps_set (i := 1) scRFun.nd rfl (Or.inl rfl) (pe_methH0 (pv 0) TR.cl MM hr2 pass0))
  (pss_cons (ps_expr (pe_methH (pv 0) TR.cl ME hr4 pass0 (pa_cons pe_str pa_nil)))
  (pss_cons (ps_set (i := 2) scRFun.nd rfl (Or.inl rfl) (pe_lst pa_nil))
  (C8.pss_cut (ps_if (pt_not (pt_val (pe_methH (pv 0) TR.cl MA hr3 pass0 (pa_cons pe_str pa_nil))))
  (pss_cons (ps_expr (pe_bm PySem.F.plainAttrs_list PySem.F.slot_list_append PySem.F.type_list_append mt_append (pv 2) (pa_cons (pe_methH0 (pv 0) TR.cl MP hr4 pass0) pa_nil)))
  (pss_cons (ps_while PassesOwn.never (pt_val (pe_methH (pv 0) TR.cl MA hr3 pass0 (pa_cons pe_str pa_nil)))
  (pss_one (ps_expr (pe_bm PySem.F.plainAttrs_list PySem.F.slot_list_append PySem.F.type_list_append mt_append (pv 2) (pa_cons (pe_methH0 (pv 0) TR.cl MP hr4 pass0) pa_nil)))))
  (pss_one (ps_expr (pe_methH (pv 0) TR.cl ME hr4 pass0 (pa_cons pe_str pa_nil))))))
  pss_nil)
  (pss_one (ps_ret (pe_tup (pa_cons (pv 1) (pa_cons (pe_callTy call_tuple_of (by rfl) T.n_tuple bb_tuple (pa_cons (pv 2) pa_nil)) (pa_cons (pe_methH0 (pv 0) TR.cl MB hr pass0) pa_nil)))))))))), ?_⟩
    obtain ⟨dx, i, e1⟩ := ra.ins
    refine ⟨_, rfl, S, dx, _, rfl, e1, rfl, S, L, d, ts, fn.name, _, rfl, ra, fun H1 b1 ra1 => ?_⟩
    obtain ⟨dx1, i1, e2⟩ := ra1.ins
    refine ⟨_, rfl, S, dx1, _, rfl, e2, rfl, S, L, d, ts, "(", _, rfl, ra1, fun H2 b2 ra2 => ⟨(by show 0 ≤ sizeLine; decide), fun X hX => ?_⟩⟩
    have w := ra2.own (b1.trans b2) hX
    have s3 := same_new (o := .lst []) hX
    have ra3 := ra2.same s3
    have b3 := (b1.trans b2).trans (.of s3)
    have eX3 : upd H2 X (.lst []) X = some (.lst []) := upd_same
    generalize upd H2 X (.lst []) = H3 at *
    obtain ⟨dx3, i3, e3⟩ := ra3.ins
    refine ⟨fun σ H' => ∃ xs : List V, σ = [some (.ref S), some (.str fn.name), some (.ref X)] ∧ Bt S H H' ∧ RdS C H' S L d ts (mk "{" :: (shB n fn.b ++ mk "}" :: r)) ∧ H' X = some (.lst xs) ∧ Paired (fun v x => Dp K H' v (prD x)) xs fn.ps, ?_, ?_⟩
    · cases hp : fn.ps with
      | nil =>
        rw [hp] at ra3
        have ra3 : RdS C H3 S L d ts (mk ")" :: mk "{" :: (shB n fn.b ++ mk "}" :: r)) := ra3
        refine ⟨_, rfl, S, dx3, _, rfl, e3, rfl, S, L, d, ts, mk ")", _, ")", rfl, ra3, .inr ⟨rfl, fun H4 b4 ra4 => ⟨true, rfl, iteE rfl ?_⟩⟩⟩
        exact ⟨[], rfl, b3.trans b4, ra4, b4 _ _ eX3 w.S, .nil⟩
      | cons a l =>
        rw [hp] at n1
        have ll : l.length ≤ 900 := by have : l.length + 1 ≤ 900 := n1; omega
        have ra3 : RdS C H3 S L d ts (shPar a ++ ((l.flatMap fun x => mk "," :: shPar x) ++ mk ")" :: mk "{" :: (shB n fn.b ++ mk "}" :: r))) := by
          have e : sepH (fn.ps.map shPar) ++ mk ")" :: mk "{" :: (shB n fn.b ++ mk "}" :: r) = shPar a ++ ((l.flatMap fun x => mk "," :: shPar x) ++ mk ")" :: mk "{" :: (shB n fn.b ++ mk "}" :: r)) := by
            rw [hp, List.map_cons, sep_cons, List.flatMap_map, List.append_assoc]
          rw [e] at ra3
          exact ra3
        obtain ⟨y0, r0, h0, h1⟩ := shPar_head a
        have ra30 := ra3
        rw [h0] at ra30
        refine ⟨_, rfl, S, dx3, _, rfl, e3, rfl, S, L, d, ts, y0, _, ")", rfl, ra30, .inl ⟨h1, false, rfl, iteS rfl ?_⟩⟩
        refine ⟨_, rfl, .inl ⟨rfl, _, SqL.of eX3⟩, _, rfl, S, dx3, _, rfl, e3, rfl, S, L, d, ts, a, _, rfl, ra3, fun p0 H4 b4 ra4 hp0 => ?_⟩
        have eX4 := b4 _ _ eX3 w.S
        have ra5 := w.rd (o := .lst ([] ++ [.ref p0])) eX4 ra4
        have t5 : Tps H4 (upd H4 X (.lst ([] ++ [.ref p0]))) := Tps.lst eX4
        have b5 := w.bt (o := .lst ([] ++ [.ref p0])) (b3.trans b4)
        have eX5 : upd H4 X (.lst ([] ++ [.ref p0])) X = some (.lst [.ref p0]) := upd_same
        have dpr : ∀ {H' : Hp} {q : Addr} {x : Str × Bool}, H' q = some (.tup [.str x.1, .bl x.2]) → Dp K H' (.ref q) (prD x) := fun e => .tup (SqT.of e) (.cons (.str _) (.cons (.bl _) .nil))
        refine ⟨X, _, _, rfl, rfl, eX4, small1000 (by show 0 ≤ 1000; decide), ?_⟩
        have dva5 := (dpr hp0).tps t5 (noL_pr a)
        generalize upd H4 X (.lst ([] ++ [.ref p0])) = H5 at *
        refine ⟨fun m σ H' => ∃ (j : Nat) (xs : List V), m = l.length - j ∧ j ≤ l.length ∧ σ = [some (.ref S), some (.str fn.name), some (.ref X)] ∧ Bt S H H' ∧ RdS C H' S L d ts (((l.drop j).flatMap fun x => mk "," :: shPar x) ++ mk ")" :: mk "{" :: (shB n fn.b ++ mk "}" :: r)) ∧ H' X = some (.lst (.ref p0 :: xs)) ∧ Dp K H' (.ref p0) (prD a) ∧ Paired (fun v x => Dp K H' v (prD x)) xs (l.take j), ⟨_, 0, [], rfl, Nat.zero_le _, rfl, b5, ra5, eX5, dva5, .nil⟩, ?_⟩
        rintro m σ H6 ⟨j, xs, rfl, jl, rfl, b6, ra6, eX6, dva6, px6⟩
        obtain ⟨dx6, i6, e6⟩ := ra6.ins
        have lxs := Paired.length px6
        rcases Nat.lt_or_ge j l.length with q | q
        · obtain ⟨nj, hj⟩ : ∃ nj, l[j]? = some nj := ⟨_, List.getElem?_eq_getElem q⟩
          have ed : l.drop j = nj :: l.drop (j + 1) := by
            rw [List.drop_eq_getElem_cons q]
            rw [List.getElem?_eq_getElem q] at hj
            rw [Option.some.inj hj]
          have ra6 : RdS C H6 S L d ts (mk "," :: (shPar nj ++ (((l.drop (j + 1)).flatMap fun x => mk "," :: shPar x) ++ mk ")" :: mk "{" :: (shB n fn.b ++ mk "}" :: r)))) := by
            rw [ed, List.flatMap_cons, List.append_assoc] at ra6
            exact ra6
          refine ⟨_, rfl, S, dx6, _, rfl, e6, rfl, S, L, d, ts, mk ",", _, ",", rfl, ra6, .inr ⟨rfl, fun H7 b7 ra7 => ⟨true, rfl, iteS rfl ?_⟩⟩⟩
          refine ⟨fun σ' H' => ∃ ys : List V, σ' = [some (.ref S), some (.str fn.name), some (.ref X)] ∧ Bt S H H' ∧ RdS C H' S L d ts (((l.drop (j + 1)).flatMap fun x => mk "," :: shPar x) ++ mk ")" :: mk "{" :: (shB n fn.b ++ mk "}" :: r)) ∧ H' X = some (.lst (.ref p0 :: ys)) ∧ Dp K H' (.ref p0) (prD a) ∧ Paired (fun v x => Dp K H' v (prD x)) ys (l.take (j + 1)), fun σ' H' ⟨ys, u1, u2, u3, u4, u5, u6⟩ => ⟨l.length - (j + 1), by omega, j + 1, ys, rfl, by omega, u1, u2, u3, u4, u5, u6⟩, ?_⟩
          obtain ⟨dx7, i7, e7⟩ := ra7.ins
          have eX7 := b7 _ _ eX6 w.S
          refine ⟨_, rfl, .inl ⟨rfl, _, SqL.of eX7⟩, _, rfl, S, dx7, _, rfl, e7, rfl, S, L, d, ts, nj, _, rfl, ra7, fun p1 H8 b8 ra8 hp1 => ?_⟩
          have eX8 := b8 _ _ eX7 w.S
          have t68 : Tps H6 H8 := (ra6.tps b7).trans (ra7.tps b8)
          have t8 : Tps H8 (upd H8 X (.lst ((.ref p0 :: xs) ++ [.ref p1]))) := Tps.lst eX8
          have lt : (l.take j).length = j := by rw [List.length_take]; omega
          refine ⟨X, _, _, rfl, rfl, eX8, small1000 (by show xs.length + 1 ≤ 1000; omega), xs ++ [.ref p1], rfl, w.bt ((b6.trans b7).trans b8), w.rd eX8 ra8, ?_, (dva6.tps t68 (noL_pr a)).tps t8 (noL_pr a), ?_⟩
          · rw [upd_same]
            rfl
          · rw [take_snoc hj]
            exact Paired.snoc (Paired.mapP px6 fun _ x z => (z.tps t68 (noL_pr x)).tps t8 (noL_pr x)) ((dpr hp1).tps t8 (noL_pr nj))
        · have ej : j = l.length := by omega
          subst ej
          rw [List.drop_length] at ra6
          rw [List.take_length] at px6
          refine ⟨_, rfl, S, dx6, _, rfl, e6, rfl, S, L, d, ts, mk ")", _, ",", rfl, ra6, .inl ⟨rap_comma, false, rfl, iteE rfl ?_⟩⟩
          refine ⟨_, rfl, S, dx6, _, rfl, e6, rfl, S, L, d, ts, ")", _, rfl, ra6, fun H7 b7 ra7 => ?_⟩
          have t7 := ra6.tps b7
          exact ⟨_, rfl, b6.trans b7, ra7, b7 _ _ eX6 w.S, .cons (dva6.tps t7 (noL_pr a)) (Paired.mapP px6 fun _ x z => z.tps t7 (noL_pr x))⟩
    · rintro σ H4 ⟨xs, rfl, b4, ra4, eX4, px4⟩
      refine ⟨_, rfl, _, rfl, X, _, rfl, .inl ⟨SqL.of eX4, fun p hp => ?_⟩⟩
      have s5 := same_new (o := .tup xs) hp
      have ra5 := ra4.same s5
      have ep : upd H4 p (.tup xs) p = some (.tup xs) := upd_same
      have b5 := b4.trans (.of s5)
      have px5 : Paired (fun v x => Dp K (upd H4 p (.tup xs)) v (prD x)) xs fn.ps := Paired.mapP px4 fun _ x z => z.same s5
      generalize upd H4 p (.tup xs) = H5 at *
      obtain ⟨dx5, i5, e5⟩ := ra5.ins
      refine ⟨_, rfl, S, dx5, _, rfl, e5, rfl, S, L, d, ts, fn.b, _, rfl, ra5, g, hd, hz, hdp, fun v H6 b6 ra6 dv => ⟨(by show 3 ≤ sizeLine; decide), fun t ht => ?_⟩⟩
      have t6 := ra5.tps b6
      have s7 := same_new (o := .tup [.str fn.name, .ref p, v]) ht
      exact k _ _ ((b5.trans b6).trans (.of s7)) (ra6.same s7) (.tup (SqT.of upd_same) (.cons (.str _) (.cons (.tup (SqT.same s7 (t6.sqt (SqT.of ep))) (DpAll.ofPaired (Paired.mapP px5 fun _ x z => (z.tps t6 (noL_pr x)).same s7))) (.cons (dv.same s7) .nil))))
end

/-! ### k03: read_program, parse -/
theorem kg : mk "globals" ≠ mk "kinds" ∧ ∀ y, (y = mk "kinds" ∨ y = mk "keep" ∨ y = mk "def" ∨ y = endH) → y ≠ mk "globals" ∧ y.1 ≠ "name" ∧ ((y = mk "keep" ∨ y = mk "def" ∨ y = endH) → y ≠ mk "kinds") := by
  refine ⟨by decide +kernel, fun y h => ?_⟩
  rcases h with rfl | rfl | rfl | rfl
  · exact ⟨by decide +kernel, by decide +kernel, fun z => absurd z (by decide +kernel)⟩
  · exact ⟨by decide +kernel, by decide +kernel, fun _ => by decide +kernel⟩
  · exact ⟨by decide +kernel, by decide +kernel, fun _ => by decide +kernel⟩
  · exact ⟨by decide +kernel, by decide +kernel, fun _ => by decide +kernel⟩
theorem sum_mem {l : List Nat} {x : Nat} (h : x ∈ l) : x ≤ l.sum := by
  induction l with
  | nil => cases h
  | cons a r ih =>
    rw [List.sum_cons]
    rcases List.mem_cons.mp h with z | z
    · omega
    · have := ih z
      omega
section
variable {P : Program} {w : World} {K : PySem.W.Frag} {mg : Str → Option Value} {base : Heap} {C : Addr}
theorem ok_RPrg {n : Nat} {f : Addr} {fd : FuncData} (F : Fun K "read_program" "Reader.read_program" sRPrg f fd) (T : TxBlk mg) (TR : TxR K C) (hn30 : n ≤ 30) (MC : HasM P w K mg base CX0 1 C "current" PRCur (spCurS C)) (MA : HasM P w K mg base CX0 3 C "accept" PRAcc (spAccS C)) (MR : HasM P w K mg base CX0 3 C "read_row" PRRow (spRowS C)) (MS : HasM P w K mg base CX0 5 C "read_expression" PRExpr (spSumS K C)) (MF : HasM P w K mg base CX0 (9 + 3 * n + 1) C "read_function" PRFun (spFunS K C n)) : FnOk P w K mg base CX0 (9 + 3 * n + 1 + 1) f fd PRPrg (spPrgS K C n) := by
  refine F.ok scRPrg (fun vs H Q E h => ?_) (fun cdv A outer s H vs Q E hr h => ?_)
  · obtain ⟨S, L, ts, t, rfl, _⟩ := h
    rfl
  · obtain ⟨S, L, ts, t, rfl, ra, g, k⟩ := h
    have hr1 := hr.mono (j := 1) (by omega)
    have hr3 := hr.mono (j := 3) (by omega)
    have hr5 := hr.mono (j := 5) (by omega)
    refine ⟨_, (C8.pss_cut (ps_set (i := 1) scRPrg.nd rfl (Or.inl rfl) (pe_ifExp (pt_val (pe_methH (pv 0) TR.cl MA hr3 pass0 (pa_cons pe_str pa_nil))) (pe_methH0 (pv 0) TR.cl MR hr3 pass0) (pe_tup pa_nil)))
  (C8.pss_cut (ps_set (i := 2) scRPrg.nd rfl (Or.inl rfl) (pe_ifExp (pt_val (pe_methH (pv 0) TR.cl MA hr3 pass0 (pa_cons pe_str pa_nil))) (pe_methH0 (pv 0) TR.cl MR hr3 pass0) (pe_tup pa_nil)))
  (pss_cons (ps_set (i := 3) scRPrg.nd rfl (Or.inl rfl) (pe_lst pa_nil))
  (pss_cons (ps_while PassesOwn.never (pt_val (pe_methH (pv 0) TR.cl MA hr3 pass0 (pa_cons pe_str pa_nil)))
  (pss_one (ps_expr (pe_bm PySem.F.plainAttrs_list PySem.F.slot_list_append PySem.F.type_list_append mt_append (pv 3) (pa_cons (pe_methH0 (pv 0) TR.cl MS hr5 pass0) pa_nil)))))
  (pss_cons (ps_set (i := 4) scRPrg.nd rfl (Or.inl rfl) (pe_lst pa_nil))
  (pss_cons (ps_while PassesOwn.never (pt_val (pe_methH (pv 0) TR.cl MA hr3 pass0 (pa_cons pe_str pa_nil)))
  (pss_one (ps_expr (pe_bm PySem.F.plainAttrs_list PySem.F.slot_list_append PySem.F.type_list_append mt_append (pv 4) (pa_cons (pe_methH0 (pv 0) TR.cl MF hr pass0) pa_nil)))))
  (pss_cons (ps_if (pt_cmpR op_ne (pe_ix (r := rIxT K) ix_tup (pe_methH0 (pv 0) TR.cl MC hr1 pass0) pe_int (fun _ _ => rfl)) pe_str (nomark _))
  (pss_one ps_never)
  pss_nil)
  (pss_one (ps_ret (pe_tup (pa_cons (pv 1) (pa_cons (pv 2) (pa_cons (pe_callTy call_tuple_of (by rfl) T.n_tuple bb_tuple (pa_cons (pv 3) pa_nil)) (pa_cons (pe_callTy call_tuple_of (by rfl) T.n_tuple bb_tuple (pa_cons (pv 4) pa_nil)) pa_nil)))))))))))))), ?_⟩
    have ra : RdS C H S L 0 ts (shRow "globals" t.names ++ (shRow "kinds" t.kinds ++ (t.keeps.flatMap (fun e => mk "keep" :: shE e) ++ (t.fns.flatMap (shF n) ++ [endH])))) := by
      unfold shT at ra
      simpa only [List.append_assoc] using ra
    obtain ⟨dx, i, e1⟩ := ra.ins
    refine ⟨fun σ H' => ∃ u : Addr, σ = [some (.ref S), some (.ref u), none, none, none] ∧ Bt S H H' ∧ RdS C H' S L 0 ts (shRow "kinds" t.kinds ++ (t.keeps.flatMap (fun e => mk "keep" :: shE e) ++ (t.fns.flatMap (shF n) ++ [endH]))) ∧ Dp K H' (.ref u) (nmD t.names), ?_, ?_⟩
    · obtain ⟨y, r, hy, cy⟩ := T1_head n t.kinds t.keeps t.fns
      by_cases hE : t.names.isEmpty = true
      · have ra0 := ra
        rw [show shRow "globals" t.names = [] from if_pos hE, List.nil_append] at ra ra0
        rw [hy] at ra0
        refine ⟨_, rfl, S, dx, _, rfl, e1, rfl, S, L, 0, ts, y, r, "globals", rfl, ra0, .inl ⟨(kg.2 y cy).1, false, rfl, iteE rfl ⟨(by show 0 ≤ sizeLine; decide), fun u hu => ?_⟩⟩⟩
        have s2 := same_new (o := .tup []) hu
        refine ⟨u, rfl, .of s2, ra.same s2, ?_⟩
        rw [List.isEmpty_iff.mp hE]
        exact nm_dp upd_same
      · rw [show shRow "globals" t.names = mk "globals" :: t.names.map nme from if_neg hE] at ra
        refine ⟨_, rfl, S, dx, _, rfl, e1, rfl, S, L, 0, ts, mk "globals", _, "globals", rfl, ra, .inr ⟨rfl, fun H1 b1 ra1 => ⟨true, rfl, iteS rfl ?_⟩⟩⟩
        obtain ⟨dx1, i1, e2⟩ := ra1.ins
        have ra1 : RdS C H1 S L 0 ts (t.names.map nme ++ (shRow "kinds" t.kinds ++ (t.keeps.flatMap (fun e => mk "keep" :: shE e) ++ (t.fns.flatMap (shF n) ++ [endH])))) := ra1
        rw [hy] at ra1
        refine ⟨_, rfl, S, dx1, _, rfl, e2, rfl, S, L, 0, ts, t.names, y, r, rfl, ra1, (fun z => hE (by rw [z]; rfl)), by have := g.nm.1; omega, (kg.2 y cy).2.1, fun u H2 b2 ra2 hu => ?_⟩
        rw [← hy] at ra2
        exact ⟨u, rfl, b1.trans b2, ra2, nm_dp hu⟩
    rintro σ H1 ⟨u, rfl, b1, ra1, du⟩
    obtain ⟨dx1, i1, e2⟩ := ra1.ins
    refine ⟨fun σ H' => ∃ v : Addr, σ = [some (.ref S), some (.ref u), some (.ref v), none, none] ∧ Bt S H H' ∧ RdS C H' S L 0 ts (t.keeps.flatMap (fun e => mk "keep" :: shE e) ++ (t.fns.flatMap (shF n) ++ [endH])) ∧ Dp K H' (.ref u) (nmD t.names) ∧ Dp K H' (.ref v) (nmD t.kinds), ?_, ?_⟩
    · obtain ⟨y, r, hy, cy⟩ := T2_head n t.keeps t.fns
      have cy' : y = mk "kinds" ∨ y = mk "keep" ∨ y = mk "def" ∨ y = endH := .inr cy
      by_cases hE : t.kinds.isEmpty = true
      · have ra0 := ra1
        rw [show shRow "kinds" t.kinds = [] from if_pos hE, List.nil_append] at ra1 ra0
        rw [hy] at ra0
        refine ⟨_, rfl, S, dx1, _, rfl, e2, rfl, S, L, 0, ts, y, r, "kinds", rfl, ra0, .inl ⟨(kg.2 y cy').2.2 cy, false, rfl, iteE rfl ⟨(by show 0 ≤ sizeLine; decide), fun v hv => ?_⟩⟩⟩
        have s2 := same_new (o := .tup []) hv
        refine ⟨v, rfl, b1.trans (.of s2), ra1.same s2, du.same s2, ?_⟩
        rw [List.isEmpty_iff.mp hE]
        exact nm_dp upd_same
      · rw [show shRow "kinds" t.kinds = mk "kinds" :: t.kinds.map nme from if_neg hE] at ra1
        refine ⟨_, rfl, S, dx1, _, rfl, e2, rfl, S, L, 0, ts, mk "kinds", _, "kinds", rfl, ra1, .inr ⟨rfl, fun H2 b2 ra2 => ⟨true, rfl, iteS rfl ?_⟩⟩⟩
        obtain ⟨dx2, i2, e3⟩ := ra2.ins
        have t2 := ra1.tps b2
        have ra2 : RdS C H2 S L 0 ts (t.kinds.map nme ++ (t.keeps.flatMap (fun e => mk "keep" :: shE e) ++ (t.fns.flatMap (shF n) ++ [endH]))) := ra2
        rw [hy] at ra2
        refine ⟨_, rfl, S, dx2, _, rfl, e3, rfl, S, L, 0, ts, t.kinds, y, r, rfl, ra2, (fun z => hE (by rw [z]; rfl)), by have := g.kd.1; omega, (kg.2 y cy').2.1, fun v H3 b3 ra3 hv => ?_⟩
        have t3 := ra2.tps b3
        rw [← hy] at ra3
        exact ⟨v, rfl, (b1.trans b2).trans b3, ra3, (du.tps t2 (noL_nm _)).tps t3 (noL_nm _), nm_dp hv⟩
    rintro σ H2 ⟨v, rfl, b2, ra2, du2, dv2⟩
    refine ⟨(by show 0 ≤ sizeLine; decide), fun X hX => ?_⟩
    have w := ra2.own b2 hX
    have s3 := same_new (o := .lst []) hX
    have lk := g.kp.1
    have lf := g.fn.1
    refine ⟨fun m σ H' => ∃ (j : Nat) (xs : List V), m = t.keeps.length - j ∧ j ≤ t.keeps.length ∧ σ = [some (.ref S), some (.ref u), some (.ref v), some (.ref X), none] ∧ Bt S H H' ∧ RdS C H' S L 0 ts ((t.keeps.drop j).flatMap (fun e => mk "keep" :: shE e) ++ (t.fns.flatMap (shF n) ++ [endH])) ∧ H' X = some (.lst xs) ∧ Dp K H' (.ref u) (nmD t.names) ∧ Dp K H' (.ref v) (nmD t.kinds) ∧ Paired (fun v x => Dp K H' v (exD x)) xs (t.keeps.take j), ⟨_, 0, [], rfl, Nat.zero_le _, rfl, b2.trans (.of s3), ra2.same s3, upd_same, du2.same s3, dv2.same s3, .nil⟩, ?_⟩
    rintro m σ H5 ⟨j, xs, rfl, jl, rfl, b5, ra5, eX5, du5, dv5, px5⟩
    obtain ⟨dx5, i5, e5⟩ := ra5.ins
    have lxs := Paired.length px5
    rcases Nat.lt_or_ge j t.keeps.length with q | q
    · obtain ⟨nj, hj⟩ : ∃ nj, t.keeps[j]? = some nj := ⟨_, List.getElem?_eq_getElem q⟩
      have mj := List.mem_of_getElem? hj
      have ed : t.keeps.drop j = nj :: t.keeps.drop (j + 1) := by
        rw [List.drop_eq_getElem_cons q]
        rw [List.getElem?_eq_getElem q] at hj
        rw [Option.some.inj hj]
      have ra5 : RdS C H5 S L 0 ts (mk "keep" :: (shE nj ++ ((t.keeps.drop (j + 1)).flatMap (fun e => mk "keep" :: shE e) ++ (t.fns.flatMap (shF n) ++ [endH])))) := by
        rw [ed, List.flatMap_cons, List.append_assoc] at ra5
        exact ra5
      refine ⟨_, rfl, S, dx5, _, rfl, e5, rfl, S, L, 0, ts, mk "keep", _, "keep", rfl, ra5, .inr ⟨rfl, fun H6 b6 ra6 => ⟨true, rfl, iteS rfl ?_⟩⟩⟩
      refine ⟨fun σ' H' => ∃ ys : List V, σ' = [some (.ref S), some (.ref u), some (.ref v), some (.ref X), none] ∧ Bt S H H' ∧ RdS C H' S L 0 ts ((t.keeps.drop (j + 1)).flatMap (fun e => mk "keep" :: shE e) ++ (t.fns.flatMap (shF n) ++ [endH])) ∧ H' X = some (.lst ys) ∧ Dp K H' (.ref u) (nmD t.names) ∧ Dp K H' (.ref v) (nmD t.kinds) ∧ Paired (fun v x => Dp K H' v (exD x)) ys (t.keeps.take (j + 1)), fun σ' H' ⟨ys, u1, u2, u3, u4, u5, u6, u7⟩ => ⟨t.keeps.length - (j + 1), by omega, j + 1, ys, rfl, by omega, u1, u2, u3, u4, u5, u6, u7⟩, ?_⟩
      obtain ⟨dx6, i6, e6⟩ := ra6.ins
      have eX6 := b6 _ _ eX5 w.S
      obtain ⟨y, r, hy, cy⟩ := T2_head n (t.keeps.drop (j + 1)) t.fns
      rw [hy] at ra6
      have st : Stop y := by
        rcases cy with rfl | rfl | rfl
        · exact ⟨by decide +kernel, by decide +kernel, by decide +kernel⟩
        · exact ⟨by decide +kernel, by decide +kernel, by decide +kernel⟩
        · exact ⟨by decide +kernel, by decide +kernel, by decide +kernel⟩
      refine ⟨_, rfl, .inl ⟨rfl, _, SqL.of eX6⟩, _, rfl, S, dx6, _, rfl, e6, rfl, S, L, 0, ts, nj, y, r, rfl, ra6, g.kp.2 nj mj, st, fun x H7 b7 ra7 dvx => ?_⟩
      have eX7 := b7 _ _ eX6 w.S
      have t57 : Tps H5 H7 := (ra5.tps b6).trans (ra6.tps b7)
      have t7 : Tps H7 (upd H7 X (.lst (xs ++ [x]))) := Tps.lst eX7
      rw [← hy] at ra7
      have lt : (t.keeps.take j).length = j := by rw [List.length_take]; omega
      refine ⟨X, _, _, rfl, rfl, eX7, small1000 (by omega), xs ++ [x], rfl, w.bt ((b5.trans b6).trans b7), w.rd eX7 ra7, upd_same, (du5.tps t57 (noL_nm _)).tps t7 (noL_nm _), (dv5.tps t57 (noL_nm _)).tps t7 (noL_nm _), ?_⟩
      rw [take_snoc hj]
      exact Paired.snoc (Paired.mapP px5 fun _ x z => (z.tps t57 (noL_ex x)).tps t7 (noL_ex x)) (dvx.tps t7 (noL_ex nj))
    have ej : j = t.keeps.length := by omega
    subst ej
    rw [List.drop_length] at ra5
    rw [List.take_length] at px5
    have ra5 : RdS C H5 S L 0 ts (t.fns.flatMap (shF n) ++ [endH]) := ra5
    obtain ⟨y, r, hy, cy⟩ := T3_head n t.fns
    have ra50 := ra5
    rw [hy] at ra50
    have yk : y ≠ mk "keep" := by
      rcases cy with rfl | rfl
      · decide +kernel
      · decide +kernel
    refine ⟨_, rfl, S, dx5, _, rfl, e5, rfl, S, L, 0, ts, y, r, "keep", rfl, ra50, .inl ⟨yk, false, rfl, iteE rfl ?_⟩⟩
    refine ⟨(by show 0 ≤ sizeLine; decide), fun Y hY => ?_⟩
    have wY := ra5.own b5 hY
    have s6 := same_new (o := .lst []) hY
    have XY : X ≠ Y := ne_of_none eX5 hY
    refine ⟨fun m σ H' => ∃ (j : Nat) (ys : List V), m = t.fns.length - j ∧ j ≤ t.fns.length ∧ σ = [some (.ref S), some (.ref u), some (.ref v), some (.ref X), some (.ref Y)] ∧ Bt S H H' ∧ RdS C H' S L 0 ts ((t.fns.drop j).flatMap (shF n) ++ [endH]) ∧ H' X = some (.lst xs) ∧ H' Y = some (.lst ys) ∧ Dp K H' (.ref u) (nmD t.names) ∧ Dp K H' (.ref v) (nmD t.kinds) ∧ Paired (fun v x => Dp K H' v (exD x)) xs t.keeps ∧ Paired (fun v x => Dp K H' v (fnD x)) ys (t.fns.take j), ⟨_, 0, [], rfl, Nat.zero_le _, rfl, b5.trans (.of s6), ra5.same s6, s6 _ _ eX5, upd_same, du5.same s6, dv5.same s6, Paired.mapP px5 fun _ x z => z.same s6, .nil⟩, ?_⟩
    rintro m σ H7 ⟨j, ys, rfl, jl, rfl, b7, ra7, eX7, eY7, du7, dv7, px7, py7⟩
    obtain ⟨dx7, i7, e7⟩ := ra7.ins
    have lys := Paired.length py7
    rcases Nat.lt_or_ge j t.fns.length with q | q
    · obtain ⟨nj, hj⟩ : ∃ nj, t.fns[j]? = some nj := ⟨_, List.getElem?_eq_getElem q⟩
      have mj := List.mem_of_getElem? hj
      have ed : t.fns.drop j = nj :: t.fns.drop (j + 1) := by
        rw [List.drop_eq_getElem_cons q]
        rw [List.getElem?_eq_getElem q] at hj
        rw [Option.some.inj hj]
      have gj := g.fn.2 nj mj
      have ra7 : RdS C H7 S L 0 ts (mk "def" :: nme nj.name :: mk "(" :: (sepH (nj.ps.map shPar) ++ mk ")" :: mk "{" :: (shB n nj.b ++ mk "}" :: ((t.fns.drop (j + 1)).flatMap (shF n) ++ [endH])))) := by
        rw [ed, List.flatMap_cons] at ra7
        unfold shF at ra7 ⊢
        simpa only [List.append_assoc, List.cons_append, List.nil_append] using ra7
      refine ⟨_, rfl, S, dx7, _, rfl, e7, rfl, S, L, 0, ts, mk "def", _, "def", rfl, ra7, .inr ⟨rfl, fun H8 b8 ra8 => ⟨true, rfl, iteS rfl ?_⟩⟩⟩
      refine ⟨fun σ' H' => ∃ zs : List V, σ' = [some (.ref S), some (.ref u), some (.ref v), some (.ref X), some (.ref Y)] ∧ Bt S H H' ∧ RdS C H' S L 0 ts ((t.fns.drop (j + 1)).flatMap (shF n) ++ [endH]) ∧ H' X = some (.lst xs) ∧ H' Y = some (.lst zs) ∧ Dp K H' (.ref u) (nmD t.names) ∧ Dp K H' (.ref v) (nmD t.kinds) ∧ Paired (fun v x => Dp K H' v (exD x)) xs t.keeps ∧ Paired (fun v x => Dp K H' v (fnD x)) zs (t.fns.take (j + 1)), fun σ' H' ⟨zs, u1, u2, u3, u4, u5, u6, u7, u8, u9⟩ => ⟨t.fns.length - (j + 1), by omega, j + 1, zs, rfl, by omega, u1, u2, u3, u4, u5, u6, u7, u8, u9⟩, ?_⟩
      obtain ⟨dx8, i8, e8⟩ := ra8.ins
      have eX8 := b8 _ _ eX7 w.S
      have eY8 := b8 _ _ eY7 wY.S
      have szj : szB nj.b ≤ 900 := by
        have := sum_mem (l := t.fns.map fun f => szB f.b) (List.mem_map.mpr ⟨nj, mj, rfl⟩)
        have := g.sz
        omega
      refine ⟨_, rfl, .inl ⟨rfl, _, SqL.of eY8⟩, _, rfl, S, dx8, _, rfl, e8, rfl, S, L, 0, ts, nj, _, rfl, ra8, Nat.le_trans gj.2.1.1 (by decide), gj.2.2.1, gj.2.2.2, szj, by omega, fun x H9 b9 ra9 dvx => ?_⟩
      have eX9 := b9 _ _ eX8 w.S
      have eY9 := b9 _ _ eY8 wY.S
      have t79 : Tps H7 H9 := (ra7.tps b8).trans (ra8.tps b9)
      have t9 : Tps H9 (upd H9 Y (.lst (ys ++ [x]))) := Tps.lst eY9
      have lt : (t.fns.take j).length = j := by rw [List.length_take]; omega
      refine ⟨Y, _, _, rfl, rfl, eY9, small1000 (by omega), ys ++ [x], rfl, wY.bt ((b7.trans b8).trans b9), wY.rd eY9 ra9, by rw [upd_ne XY]; exact eX9, upd_same, (du7.tps t79 (noL_nm _)).tps t9 (noL_nm _), (dv7.tps t79 (noL_nm _)).tps t9 (noL_nm _), Paired.mapP px7 fun _ x z => (z.tps t79 (noL_ex x)).tps t9 (noL_ex x), ?_⟩
      rw [take_snoc hj]
      exact Paired.snoc (Paired.mapP py7 fun _ x z => (z.tps t79 (noL_fn x)).tps t9 (noL_fn x)) (dvx.tps t9 (noL_fn nj))
    · have ej : j = t.fns.length := by omega
      subst ej
      rw [List.drop_length] at ra7
      rw [List.take_length] at py7
      have ra7 : RdS C H7 S L 0 ts (endH :: []) := ra7
      refine ⟨_, rfl, S, dx7, _, rfl, e7, rfl, S, L, 0, ts, endH, _, "def", rfl, ra7, .inl ⟨by decide +kernel, false, rfl, iteE rfl ?_⟩⟩
      refine ⟨_, rfl, S, dx7, _, rfl, e7, rfl, S, L, 0, ts, endH, _, rfl, ra7, fun p aa hp => ⟨p, _, _, _, rfl, rfl, SqT.of hp, rfl, rfl, _, rfl, iteE (by decide +kernel) ?_⟩⟩
      refine ⟨_, rfl, _, rfl, _, rfl, X, _, rfl, .inl ⟨SqL.of eX7, fun k1 hk1 => ?_⟩⟩
      have s8 := same_new (o := .tup xs) hk1
      refine ⟨_, rfl, Y, _, rfl, .inl ⟨SqL.of (s8 _ _ eY7), fun q1 hq1 => ⟨(by show 4 ≤ sizeLine; decide), fun t1 ht1 => ?_⟩⟩⟩
      have s9 := same_new (o := .tup ys) hq1
      have s10 := same_new (o := .tup [.ref u, .ref v, .ref k1, .ref q1]) ht1
      have s11 := (s8.trans s9).trans s10
      exact k _ _ (b7.trans (.of s11)) (.tup (SqT.of upd_same) (.cons (du7.same s11) (.cons (dv7.same s11) (.cons (.tup (SqT.same (s9.trans s10) (SqT.of upd_same)) (DpAll.ofPaired (Paired.mapP px7 fun _ x z => z.same s11))) (.cons (.tup (SqT.same s10 (SqT.of upd_same)) (DpAll.ofPaired (Paired.mapP py7 fun _ x z => z.same s11))) .nil)))))
def spParseS (K : PySem.W.Frag) (n : Nat) : Sp := fun vs H Q _ => ∃ (z : Str) (t : Tr), vs = [.str z] ∧ z.length ≤ 1000000 ∧ Tkw (TL.tl z) (shT n t ++ [endH]) ∧ GT n t ∧ ∀ (v : V) (H' : Hp), Same H H' → Dp K H' v (trD t) → Q v H'
theorem tkz_len {t : List Nat} {a : Nat} {ts : List TK} (h : Tkz t a ts) : ts.length + a ≤ t.length + 1 := by
  induction h with
  | fin h => subst h; show 1 + _ ≤ _; omega
  | gap _ _ _ ih => omega
  | sign _ _ _ ih => rw [List.length_cons]; omega
  | word _ _ _ lt _ _ ih => rw [List.length_cons]; omega
  | bad h _ _ _ =>
    have := (List.getElem?_eq_some_iff.mp h).1
    show 1 + _ ≤ _
    omega
theorem ok_Parse {n : Nat} {f : Addr} {fd : FuncData} (F : Fun K "parse" "parse" sParse f fd) (ni : mg "isinstance" = none) (ns : mg "str" = none) (TR : TxR K C) (HC : HasC P w K mg base CX0 3 "Reader" C PRIni (spRIni C)) (MP : HasM P w K mg base CX0 (9 + 3 * n + 1 + 1) C "read_program" PRPrg (spPrgS K C n)) :
    FnOk P w K mg base CX0 (9 + 3 * n + 1 + 1 + 1) f fd PParse (spParseS K n) := by
  refine F.ok scParse (fun vs H Q E h => ?_) (fun cdv A outer s H vs Q E hr h => ?_)
  · obtain ⟨z, t, rfl, _⟩ := h
    rfl
  · obtain ⟨z, t, rfl, hz, tk, g, k⟩ := h
    have hr4 := hr.mono (j := 4) (by omega)
    have T : mg "isinstance" = none ∧ mg "str" = none := ⟨ni, ns⟩
    refine ⟨_, (pss_cons (ps_if (pt_not (pt_val (pe_callB call_isi (by rfl) T.1 bb_isinstance (pa_cons (pv 0) (pa_cons (pe_bltn (v := .ty "str") (by rfl) T.2 bb_str rfl) pa_nil)))))
  (pss_one ps_never)
  pss_nil)
  (pss_one (ps_ret (pe_methH0 (pe_makeH HC hr4 rfl pass0 (pa_cons (pv 0) pa_nil)) TR.cl MP hr pass0)))), ?_⟩
    obtain ⟨ts, et, ht⟩ := tk.tks []
    have ht : Tkz z.cps.toList 0 ts := ht
    have zl : z.length = z.cps.toList.length := Array.length_toList.symm
    have lts : ts.length ≤ 1000001 := by
      have := tkz_len ht
      omega
    refine ⟨_, rfl, _, _, _, _, _, rfl, .ty _, .base (.str z), kit_ty (r := true) (by decide +kernel), _, rfl, iteE rfl ?_⟩
    refine ⟨_, rfl, fun x dx hx hdx hne => ⟨x, dx, z, ts, rfl, upd_same, hz, ht, lts, fun L H1 b1 ra1 => ⟨rfl, ?_⟩⟩⟩
    obtain ⟨dy, _, e1, _⟩ := id ra1
    refine ⟨x, dy, _, rfl, e1, rfl, x, L, ts, t, rfl, ⟨0, ra1, by rw [List.drop_zero]; exact et⟩, g, fun v H2 b2 dv => k v H2 (fun b o e => ?_) dv⟩
    have bx : b ≠ x := fun q => by rw [q, hx] at e; cases e
    have bd : b ≠ dx := fun q => by rw [q, hdx] at e; cases e
    exact b2 _ _ (b1 _ _ (by rw [upd_ne bx, upd_ne bd]; exact e) bx) bx
end

/-! ### k03: show_arg, show_call, simple_line -/
abbrev sShArg : Stmt := topS 3
abbrev NShArg : List Str := ["arg"]
abbrev PShArg : List Str := ["arg"]
theorem scShArg : FnScope NShArg PShArg (defScope sShArg) := ⟨rfl, rfl, rfl, by decide +kernel, rfl, by decide +kernel, by decide +kernel⟩
abbrev sShCal : Stmt := topS 4
abbrev NShCal : List Str := ["name", "args", "arg"]
abbrev PShCal : List Str := ["name", "args"]
theorem scShCal : FnScope NShCal PShCal (defScope sShCal) := ⟨rfl, rfl, rfl, by decide +kernel, rfl, by decide +kernel, by decide +kernel⟩
abbrev sShSim : Stmt := topS 5
abbrev NShSim : List Str := ["statement", "name", "expression", "callee", "args", "kinds", "kind"]
abbrev PShSim : List Str := ["statement"]
theorem scShSim : FnScope NShSim PShSim (defScope sShSim) := ⟨rfl, rfl, rfl, by decide +kernel, rfl, by decide +kernel, by decide +kernel⟩
theorem ex_D {K : PySem.W.Frag} {H : Hp} {v : V} {e : Ex} (h : Dp K H v (exD e)) : ∃ p, v = .ref p ∧ ExprD K H (.ref p) e.c e.ts := by
  obtain ⟨p, xs, rfl, hq, hd⟩ := h.tupInv
  obtain ⟨x, y, rfl, h1, h2⟩ := hd.two
  obtain ⟨q, ys, rfl, hq2, hd2⟩ := h2.tupInv
  rw [h1.intInv] at hq
  refine ⟨p, rfl, p, q, ys, rfl, hq, hq2, Paired.mapP (DpAll.map (f := fun p : Str × Int => PyData.tuple [.str p.1, .int p.2]) hd2) fun v r z => ?_⟩
  have z : Dp K H v (.tuple [.str r.1, .int r.2]) := z
  obtain ⟨a, xs, rfl, hq, hd⟩ := z.tupInv
  obtain ⟨x, y, rfl, h1, h2⟩ := hd.two
  rw [h1.strInv, h2.intInv] at hq
  exact ⟨a, rfl, hq⟩
theorem GE.fac {e : Ex} (g : GE e) : FacOk e.ts ∧ e.c.natAbs < 2 ^ 64 := ⟨⟨Nat.le_trans g.ln (by decide), fun p hp => ⟨Nat.le_trans (g.nm p hp).2.1 (by decide), Nat.lt_of_lt_of_le (g.nm p hp).2.2.2 (by decide)⟩⟩, Nat.lt_of_lt_of_le g.c (by decide)⟩
theorem arg_len {a : Arg} (g : GA a) : (argS a).length ≤ 80 := by
  cases a with
  | place n =>
    have l : ("&" : Str).length = 1 := by decide +kernel
    have := (show GN n from g).2
    show ("&" ++ n).length ≤ 80
    rw [len_add, l]
    omega
  | value e => exact expr_len g
theorem joins_len {ys : List Str} {m : Nat} (h : ∀ y ∈ ys, y.length ≤ m) : (ys.map (·.length)).sum + ys.length * (", " : Str).length ≤ ys.length * (m + 2) := by
  have := sum_len h
  have l : (", " : Str).length = 2 := by decide +kernel
  rw [l, Nat.mul_add]
  omega
theorem call_len {c : Cal} (g : GC c) : (callS c).length ≤ 170 := by
  unfold callS
  have l1 : ("(" : Str).length = 1 := by decide +kernel
  have l2 : (")" : Str).length = 1 := by decide +kernel
  have := join_len ", " (c.2.map argS)
  have hj := joins_len (ys := c.2.map argS) (m := 80) fun y hy => by
    obtain ⟨a, ha, rfl⟩ := List.mem_map.mp hy
    exact arg_len (g.2.2 a ha)
  rw [List.length_map] at hj
  have := g.2.1
  have := g.1.2
  have h3 : c.2.length * 82 ≤ 164 := by omega
  rw [len_add, len_add, len_add, l1, l2]
  have h4 := join_len ", " (c.2.map argS)
  rw [List.length_map] at h4
  omega
theorem nms_len {ns : List Str} (g : GNs ns) : (nmsS ns).length ≤ 15 := by
  unfold nmsS
  have hj := joins_len (ys := ns) (m := 3) fun y hy => (g.2 y hy).2
  have h4 := join_len ", " ns
  have := g.1
  omega
def spShA (K : PySem.W.Frag) : Sp := fun vs H Q _ => ∃ (v : V) (a : Arg), vs = [v] ∧ Dp K H v (argD a) ∧ GA a ∧ ∀ H', Same H H' → Q (.str (argS a)) H'
def spShC (K : PySem.W.Frag) : Sp := fun vs H Q _ => ∃ (v : V) (c : Cal), vs = [.str c.1, v] ∧ Dp K H v (.tuple (c.2.map argD)) ∧ GC c ∧ ∀ H', Same H H' → Q (.str (callS c)) H'
section
variable {P : Program} {w : World} {K : PySem.W.Frag} {mg : Str → Option Value} {base : Heap} {C : Addr}
theorem ok_ShArg {f : Addr} {fd : FuncData} (F : Fun K "show_arg" "show_arg" sShArg f fd) (GX : Has P w K mg base CX0 2 "show_expression" PShExpr (spShExpr K)) : FnOk P w K mg base CX0 3 f fd PShArg (spShA K) := by
  refine F.ok scShArg (fun vs H Q E h => ?_) (fun cdv A outer s H vs Q E hr h => ?_)
  · obtain ⟨v, a, rfl, _⟩ := h
    rfl
  · obtain ⟨v, a, rfl, hv, g, k⟩ := h
    refine ⟨_, (pss_cons (ps_if (pt_cmpR op_eq (pe_ix (r := rIxT K) ix_tup (pv 0) pe_int (fun _ _ => rfl)) pe_str (nomark _))
  (pss_one (ps_ret (pe_op op_add_str pe_str (pe_ix (r := rIxT K) ix_tup (pv 0) pe_int (fun _ _ => rfl)))))
  pss_nil)
  (pss_one (ps_ret (pe_callH GX hr rfl pass0 (pa_cons (pe_ix (r := rIxT K) ix_tup (pv 0) pe_int (fun _ _ => rfl)) pa_nil))))), ?_⟩
    cases a with
    | place n =>
      have hv : Dp K H v (.tuple [.str "place", .str n]) := hv
      obtain ⟨p, xs, rfl, hq, hd⟩ := hv.tupInv
      obtain ⟨x, y, rfl, h1, h2⟩ := hd.two
      rw [h1.strInv, h2.strInv] at hq
      refine ⟨_, rfl, p, _, _, _, rfl, rfl, hq, rfl, rfl, _, rfl, iteS (decide_eq_true rfl) ?_⟩
      refine ⟨_, rfl, p, _, _, _, rfl, rfl, hq, rfl, _, _, rfl, rfl, ?_, k _ (Same.refl _)⟩
      have := (show GN n from g).2
      have l : ("&" : Str).length = 1 := by decide +kernel
      have e24 : sizeLine = 2 ^ 24 := rfl
      omega
    | value e =>
      have hv : Dp K H v (.tuple [.str "value", exD e]) := hv
      obtain ⟨p, xs, rfl, hq, hd⟩ := hv.tupInv
      obtain ⟨x, y, rfl, h1, h2⟩ := hd.two
      rw [h1.strInv] at hq
      refine ⟨_, rfl, p, _, _, _, rfl, rfl, hq, rfl, rfl, _, rfl, iteE (by decide +kernel) ?_⟩
      obtain ⟨q, rfl, hx⟩ := ex_D h2
      exact ⟨_, rfl, p, _, _, _, rfl, rfl, hq, rfl, q, e.c, e.ts, rfl, hx, (GE.fac g).1, (GE.fac g).2, k⟩
theorem ok_ShCal {f : Addr} {fd : FuncData} (F : Fun K "show_call" "show_call" sShCal f fd) (GA' : Has P w K mg base CX0 3 "show_arg" PShArg (spShA K)) : FnOk P w K mg base CX0 4 f fd PShCal (spShC K) := by
  refine F.ok scShCal (fun vs H Q E h => ?_) (fun cdv A outer s H vs Q E hr h => ?_)
  · obtain ⟨v, c, rfl, _⟩ := h
    rfl
  · obtain ⟨v, ⟨fn, as⟩, rfl, hv, g, k⟩ := h
    refine ⟨_, (pss_one (ps_ret (pe_op op_add_str (pe_op op_add_str (pe_op op_add_str (pv 0) pe_str) (pe_join pe_str (pe_lc (own := [("arg", 2)]) (g := gName 2) (tt := tYes) rfl scShCal.nd (pi_tup (pv 1)) (blkOk_by (own := [("arg", 2)]) (N := NShCal) (sc := (defScope sShCal)) (by decide +kernel)) (fun _ _ _ _ _ => (pg_name (i := 2) scShCal.nd rfl (Or.inl rfl))) (fun _ _ _ _ _ => pts_nil) (fun _ _ _ _ _ => (pe_callH GA' hr rfl pass0 (pa_cons (pv 2) pa_nil)))))) pe_str))), ?_⟩
    have e24 : sizeLine = 2 ^ 24 := rfl
    have l1 : ("(" : Str).length = 1 := by decide +kernel
    have l2 : (")" : Str).length = 1 := by decide +kernel
    obtain ⟨p, xs, rfl, hq, hd⟩ := hv.tupInv
    have px := DpAll.map (f := argD) hd
    have lx := Paired.length px
    have la : as.length ≤ 2 := g.2.1
    have ln : fn.length ≤ 3 := g.1.2
    have hj := joins_len (ys := as.map argS) (m := 80) fun y hy => by
      obtain ⟨a, ha, rfl⟩ := List.mem_map.mp hy
      exact arg_len (g.2.2 a ha)
    rw [List.length_map] at hj
    have h4 := join_len ", " (as.map argS)
    rw [List.length_map] at h4
    refine ⟨_, rfl, _, _, rfl, rfl, by show fn.length + _ ≤ _; rw [l1, e24]; omega, ⟨_, rfl⟩, _, rfl, p, rfl, ⟨_, hq⟩, fun D hD => lc_map (walk_tup (K := K) (a := p) (xs := xs)) (fun i => V.str ((as.map argS).getD i "")) hD (by show xs.length ≤ 1000; rw [lx]; show as.length ≤ 1000; omega) (fun H' s' => SqT.same s' hq) ?_ ?_⟩
    · rintro i x H1 H2 k1 hi s1 ⟨rfl, hx⟩ kk
      obtain ⟨a, ha, dx⟩ := Paired.at px hx
      have ma := List.mem_of_getElem? ha
      refine ⟨rfl, _, rfl, x, a, rfl, dx.same s1, g.2.2 a ma, fun H3 s3 => ?_⟩
      have e : (as.map argS).getD i "" = argS a := by
        rw [List.getD_eq_getElem?_getD, List.getElem?_map, ha]
        rfl
      rw [← e]
      exact kk _ s3
    · intro H1 s1 eD
      have eD : H1 D = some (.lst ((as.map argS).map V.str)) := by
        rw [eD, lx]
        congr 2
        refine List.ext_getElem? fun i => ?_
        rw [List.getElem?_map, List.getElem?_map, List.getElem?_map]
        by_cases hi : i < as.length
        · rw [List.getElem?_range hi, List.getElem?_eq_getElem hi]
          simp [List.getD_eq_getElem?_getD, hi]
        · rw [List.getElem?_eq_none (by simpa using hi), List.getElem?_eq_none (by simpa using hi)]
          rfl
      refine ⟨_, D, as.map argS, rfl, rfl, .inl (SqL.of eD), ?_, ?_⟩
      · rw [List.length_map]
        omega
      · refine ⟨_, _, rfl, rfl, by show (fn ++ "(").length + _ ≤ _; rw [len_add, l1, e24]; omega, _, _, rfl, rfl, by show (fn ++ "(" ++ _).length + _ ≤ _; rw [len_add, len_add, l1, l2, e24]; omega, k H1 s1⟩
end

/-! ### k03: simple_line -/
theorem nm_inv {K : PySem.W.Frag} {H : Hp} {v : V} {ns : List Str} (h : Dp K H v (nmD ns)) : ∃ a, v = .ref a ∧ SqT K H a (ns.map V.str) := by
  obtain ⟨a, xs, rfl, hq, hd⟩ := h.tupInv
  have e : ∀ {xs : List V} {ns : List Str}, DpAll K H xs (ns.map PyData.str) → xs = ns.map V.str := fun {xs ns} => by
    induction ns generalizing xs with
    | nil => intro h; cases h; rfl
    | cons n r ih =>
      intro h
      obtain ⟨x, l, rfl, h1, h2⟩ := DpAll.consInv h
      rw [h1.strInv, ih h2]
      rfl
  rw [e hd] at hq
  exact ⟨a, rfl, hq⟩
def spShS (K : PySem.W.Frag) : Sp := fun vs H Q _ => ∃ (v : V) (s : St), vs = [v] ∧ Dp K H v (stD s) ∧ gS s ∧ headsS s = [] ∧ ∀ H', Same H H' → Q (.str (simS s)) H'
theorem sep2 : (", " : Str).length = 2 := by decide +kernel
theorem nms_sum {ns : List Str} (g : GNs ns) : (ns.map (·.length)).sum + ns.length * (", " : Str).length ≤ 15 := by
  have hj := joins_len (ys := ns) (m := 3) fun y hy => (g.2 y hy).2
  have := g.1
  omega
section
variable {P : Program} {w : World} {K : PySem.W.Frag} {mg : Str → Option Value} {base : Heap} {C : Addr}
theorem ok_ShSim {f : Addr} {fd : FuncData} (F : Fun K "simple_line" "simple_line" sShSim f fd) (GX : Has P w K mg base CX0 2 "show_expression" PShExpr (spShExpr K)) (GL : Has P w K mg base CX0 4 "show_call" PShCal (spShC K)) : FnOk P w K mg base CX0 5 f fd PShSim (spShS K) := by
  refine F.ok scShSim (fun vs H Q E h => ?_) (fun cdv A outer s H vs Q E hr h => ?_)
  · obtain ⟨v, st, rfl, _⟩ := h
    rfl
  · obtain ⟨v, st, rfl, hv, g, h0, k⟩ := h
    have hr2 := hr.mono (j := 2) (by decide)
    refine ⟨_, (pss_cons (ps_match (pv 0) (pcs_cons scShSim.nd (pm_seq rfl (pms_cons pm_str (pms_cons (pm_as (i := 1) rfl (Or.inl rfl)) (pms_cons (pm_as (i := 2) rfl (Or.inl rfl)) pms_nil))))
  (pss_one (ps_ret (pe_joined (.cons (pe_fmt (pv 1)) (.cons pe_str (.cons (pe_fmt (pe_callH GX hr2 rfl pass0 (pa_cons (pv 2) pa_nil))) .nil))))))
  (pcs_cons scShSim.nd (pm_seq rfl (pms_cons pm_str (pms_cons (pm_as (i := 1) rfl (Or.inl rfl)) pms_nil)))
  (pss_one (ps_ret (pe_joined (.cons (pe_fmt (pv 1)) (.cons pe_str .nil)))))
  (pcs_cons scShSim.nd (pm_seq rfl (pms_cons pm_str (pms_cons pm_non (pms_cons (pm_as (i := 3) rfl (Or.inl rfl)) (pms_cons (pm_as (i := 4) rfl (Or.inl rfl)) pms_nil)))))
  (pss_one (ps_ret (pe_callH GL hr rfl pass0 (pa_cons (pv 3) (pa_cons (pv 4) pa_nil)))))
  (pcs_cons scShSim.nd (pm_seq rfl (pms_cons pm_str (pms_cons (pm_as (i := 1) rfl (Or.inl rfl)) (pms_cons (pm_as (i := 3) rfl (Or.inl rfl)) (pms_cons (pm_as (i := 4) rfl (Or.inl rfl)) pms_nil)))))
  (pss_one (ps_ret (pe_joined (.cons (pe_fmt (pv 1)) (.cons pe_str (.cons (pe_fmt (pe_callH GL hr rfl pass0 (pa_cons (pv 3) (pa_cons (pv 4) pa_nil)))) .nil))))))
  (pcs_cons scShSim.nd (pm_seq rfl (pms_cons pm_str (pms_cons (pm_as (i := 5) rfl (Or.inl rfl)) pms_nil)))
  (pss_one (ps_ret (pe_op op_add_str pe_str (pe_join pe_str (pv 5)))))
  (pcs_cons scShSim.nd (pm_seq rfl (pms_cons pm_str (pms_cons (pm_as (i := 6) rfl (Or.inl rfl)) pms_nil)))
  (pss_one (ps_ret (pe_op op_add_str pe_str (pv 6))))
  pcs_nil)))))))
  (pss_one (ps_ret (pe_op op_add_str pe_str (pe_callH GX hr2 rfl pass0 (pa_cons (pe_ix (r := rIxT K) ix_tup (pv 0) pe_int (fun _ _ => rfl)) pa_nil)))))), ?_⟩
    have e24 : sizeLine = 2 ^ 24 := rfl
    have l0 : Str.empty.length = 0 := rfl
    have l3 : (" = " : Str).length = 3 := by decide +kernel
    have l4 : (" = ?" : Str).length = 4 := by decide +kernel
    have l5 : ("risk " : Str).length = 5 := by decide +kernel
    have l6 : ("raise " : Str).length = 6 := by decide +kernel
    have l7 : ("return " : Str).length = 7 := by decide +kernel
    obtain ⟨a, xs, rfl, hq, hd⟩ := stInv hv
    refine ⟨_, rfl, ?_⟩
    cases st <;> simp only [wordS] at hq
    case set t e =>
      have g : GN t ∧ GE e := g
      have lt := g.1.2
      have le := expr_len g.2
      obtain ⟨x, y, rfl, h1, h2⟩ := DpAll.two hd
      rw [h1.strInv] at hq
      obtain ⟨q, rfl, hx⟩ := ex_D h2
      refine case_hit hq rfl ⟨_, _, rfl, _, _, rfl, ?_⟩
      have k : ∀ H', Same H H' → Q (.str (Str.empty ++ t ++ " = " ++ exprS e.c e.ts)) H' := fun H' s' => by rw [empty_add]; exact k H' s'
      refine ⟨_, rfl, .inl ⟨t, rfl, by rw [e24]; omega, t, rfl, by simp only [len_add, l0, e24]; omega, " = ", rfl, by simp only [len_add, l0, l3, e24]; omega, _, rfl, q, e.c, e.ts, rfl, hx, (GE.fac g.2).1, (GE.fac g.2).2, fun H' s' => .inl ⟨_, rfl, by rw [e24]; omega, _, rfl, by simp only [len_add, l0, l3, e24]; omega, k H' s'⟩⟩⟩
    case input t =>
      have lt := (show GN t from g).2
      obtain ⟨x, rfl, h1⟩ := DpAll.one hd
      rw [h1.strInv] at hq
      have k : Q (.str (Str.empty ++ t ++ " = ?")) H := by rw [empty_add]; exact k H (Same.refl _)
      refine case_len hq (Nat.ne_of_beq_eq_false rfl) ?_
      refine case_hit hq rfl ⟨_, _, rfl, ?_⟩
      refine ⟨_, rfl, .inl ⟨t, rfl, by rw [e24]; omega, t, rfl, by simp only [len_add, l0, e24]; omega, " = ?", rfl, by simp only [len_add, l0, l4, e24]; omega, k⟩⟩
    case call t f as =>
      have g : (∀ x, t = some x → GN x) ∧ GC (f, as) := g
      have lc := call_len g.2
      obtain ⟨x, y, z, rfl, h1, h2, h3⟩ := DpAll.three hd
      rw [h2.strInv] at hq
      refine case_len hq (Nat.ne_of_beq_eq_false rfl) ?_
      refine case_len hq (Nat.ne_of_beq_eq_false rfl) ?_
      cases t with
      | none =>
        have hx : x = .non := by cases h1; rfl
        subst hx
        refine case_hit hq rfl ⟨_, _, rfl, (?_ : mNon _ _ _)⟩
        unfold mNon
        rw [if_pos rfl]
        refine ⟨_, _, rfl, _, _, rfl, ?_⟩
        exact ⟨_, rfl, _, rfl, z, (f, as), rfl, h3, g.2, k⟩
      | some t =>
        have lt := (g.1 t rfl).2
        have hx : x = .str t := Dp.strInv h1
        subst hx
        refine case_hit hq rfl ⟨_, _, rfl, (?_ : mNon _ _ _)⟩
        unfold mNon
        rw [if_neg (fun z => by cases z)]
        refine case_hit hq rfl ⟨_, _, rfl, _, _, rfl, _, _, rfl, ?_⟩
        have k : ∀ H', Same H H' → Q (.str (Str.empty ++ t ++ " = " ++ callS (f, as))) H' := fun H' s' => by rw [empty_add]; exact k H' s'
        refine ⟨_, rfl, .inl ⟨t, rfl, by rw [e24]; omega, t, rfl, by simp only [len_add, l0, e24]; omega, " = ", rfl, by simp only [len_add, l0, l3, e24]; omega, _, rfl, _, rfl, z, (f, as), rfl, h3, g.2, fun H' s' => .inl ⟨_, rfl, by rw [e24]; omega, _, rfl, by simp only [len_add, l0, l3, e24]; omega, k H' s'⟩⟩⟩
    case risk ks =>
      have g : ks ≠ [] ∧ GNs ks := g
      have ls := nms_sum g.2
      have ll := nms_len g.2
      obtain ⟨x, rfl, h1⟩ := DpAll.one hd
      obtain ⟨b, rfl, hb⟩ := nm_inv h1
      refine case_len hq (Nat.ne_of_beq_eq_false rfl) ?_
      refine case_word hq rfl (by decide +kernel) ?_
      refine case_len hq (Nat.ne_of_beq_eq_false rfl) ?_
      refine case_len hq (Nat.ne_of_beq_eq_false rfl) ?_
      refine case_hit hq rfl ⟨_, _, rfl, ?_⟩
      refine ⟨⟨_, rfl⟩, _, rfl, _, b, ks, rfl, rfl, .inr hb, by omega, _, _, rfl, rfl, by show _ + (nmsS ks).length ≤ _; rw [l5, e24]; omega, k H (Same.refl _)⟩
    case raise x =>
      have lt := (show GN x from g).2
      obtain ⟨y, rfl, h1⟩ := DpAll.one hd
      rw [h1.strInv] at hq
      refine case_len hq (Nat.ne_of_beq_eq_false rfl) ?_
      refine case_word hq rfl (by decide +kernel) ?_
      refine case_len hq (Nat.ne_of_beq_eq_false rfl) ?_
      refine case_len hq (Nat.ne_of_beq_eq_false rfl) ?_
      refine case_word hq rfl (by decide +kernel) ?_
      refine case_hit hq rfl ⟨_, _, rfl, ?_⟩
      exact ⟨_, rfl, _, _, rfl, rfl, by rw [l6, e24]; omega, k H (Same.refl _)⟩
    case ret e =>
      have g : GE e := g
      have le := expr_len g
      obtain ⟨y, rfl, h1⟩ := DpAll.one hd
      obtain ⟨q, rfl, hx⟩ := ex_D h1
      refine case_len hq (Nat.ne_of_beq_eq_false rfl) ?_
      refine case_word hq rfl (by decide +kernel) ?_
      refine case_len hq (Nat.ne_of_beq_eq_false rfl) ?_
      refine case_len hq (Nat.ne_of_beq_eq_false rfl) ?_
      refine case_word hq rfl (by decide +kernel) ?_
      refine case_word hq rfl (by decide +kernel) ?_
      refine ⟨_, rfl, a, _, _, _, rfl, rfl, hq, rfl, q, e.c, e.ts, rfl, hx, (GE.fac g).1, (GE.fac g).2, fun H' s' => ⟨_, _, rfl, rfl, by rw [l7, e24]; omega, k H' s'⟩⟩
    case ite a b => simp [headsS] at h0
    case whl b => simp [headsS] at h0
    case try_ b hs f => simp [headsS] at h0
    case undo ns b => simp [headsS] at h0
    case with_ e l ks b => simp [headsS] at h0
end

/-! ### a join within a comprehension -/
theorem pe_joinK {X : Cx} {K : PySem.W.Frag} {o e : Expr} {to te : TE} {apos pos : Pos} (hK : X.K = K) (ho : PE X o to) (he : PE X e te) (hs : starEach [e] X.env = [(false, eval e X.env)] := by rfl) (hbase : attributeBase o "join" X.env (eval o X.env) = eval o X.env := by rfl) (hline : (apos.endLine == pos.line) = true := by rfl) :
    PE X (.Call (.Attribute o "join" apos) [e] [] pos) (tM1 (fun x xs H Q => ∃ a p, ∃ ys : List Str, x = .str a ∧ xs = [.ref p] ∧ (SqL K H p (ys.map V.str) ∨ SqT K H p (ys.map V.str)) ∧
      (ys.map (·.length)).sum + ys.length * a.length ≤ 16777216 ∧ Q (.str (Txt.join a ys)) H) to te) := by
  subst hK
  exact pe_join ho he hs hbase hline

/-! ### k03: headed_blocks -/
abbrev sShHdb : Stmt := topS 6
abbrev NShHdb : List Str := ["statement", "first", "second", "block", "handlers", "last", "found", "words", "inner", "names", "kinds", "head"]
abbrev PShHdb : List Str := ["statement"]
theorem scShHdb : FnScope NShHdb PShHdb (defScope sShHdb) := ⟨rfl, rfl, rfl, by decide +kernel, rfl, by decide +kernel, by decide +kernel⟩
def HdAt (K : PySem.W.Frag) (H : Hp) (v : V) (h : HdS) : Prop := ∃ a w, v = .ref a ∧ SqT K H a [.str h.1, w] ∧ Dp K H w (blD h.2.2)
theorem HdAt.same {K : PySem.W.Frag} {H H' : Hp} (s : Same H H') {v : V} {h : HdS} (x : HdAt K H v h) : HdAt K H' v h := let ⟨a, w, e, q, d⟩ := x; ⟨a, w, e, SqT.same s q, d.same s⟩
theorem HdAt.tps {K : PySem.W.Frag} {H H' : Hp} (s : Tps H H') {v : V} {h : HdS} (x : HdAt K H v h) : HdAt K H' v h := let ⟨a, w, e, q, d⟩ := x; ⟨a, w, e, s.sqt q, d.tps s (noL_bl _)⟩
theorem none_same {H H' : Hp} (s : Same H H') {a : Addr} (h : H' a = none) : H a = none := by
  cases e : H a with
  | none => rfl
  | some o => rw [s _ _ e] at h; cases h
def spShH (K : PySem.W.Frag) : Sp := fun vs H Q _ => ∃ (v : V) (s : St), vs = [v] ∧ Dp K H v (stD s) ∧ gS s ∧ ∀ (p : Addr) (xs : List V) (H' : Hp), Same H H' → H p = none → H' p = some (.lst xs) → Paired (HdAt K H') xs (headsS s) → Q (.ref p) H'
section
variable {P : Program} {w : World} {K : PySem.W.Frag} {mg : Str → Option Value} {base : Heap} {C : Addr}
theorem ok_ShHdb {f : Addr} {fd : FuncData} (F : Fun K "headed_blocks" "headed_blocks" sShHdb f fd) (GL : Has P w K mg base CX0 4 "show_call" PShCal (spShC K)) : FnOk P w K mg base CX0 5 f fd PShHdb (spShH K) := by
  refine F.ok scShHdb (fun vs H Q E h => ?_) (fun cdv A outer s H vs Q E hr h => ?_)
  · obtain ⟨v, st, rfl, _⟩ := h
    rfl
  · obtain ⟨v, st, rfl, hv, g, k⟩ := h
    refine ⟨_, (pss_cons (ps_match (pv 0) (pcs_cons scShHdb.nd (pm_seq rfl (pms_cons pm_str (pms_cons (pm_as (i := 1) rfl (Or.inl rfl)) (pms_cons (pm_as (i := 2) rfl (Or.inl rfl)) pms_nil))))
  (pss_one (ps_ret (pe_ifExp (pt_truth (pv 2) (by intro _; rfl)) (pe_lst (pa_cons (pe_tup (pa_cons pe_str (pa_cons (pv 1) pa_nil))) (pa_cons (pe_tup (pa_cons pe_str (pa_cons (pv 2) pa_nil))) pa_nil))) (pe_lst (pa_cons (pe_tup (pa_cons pe_str (pa_cons (pv 1) pa_nil))) pa_nil)))))
  (pcs_cons scShHdb.nd (pm_seq rfl (pms_cons pm_str (pms_cons (pm_as (i := 3) rfl (Or.inl rfl)) pms_nil)))
  (pss_one (ps_ret (pe_lst (pa_cons (pe_tup (pa_cons pe_str (pa_cons (pv 3) pa_nil))) pa_nil))))
  (pcs_cons scShHdb.nd (pm_seq rfl (pms_cons pm_str (pms_cons (pm_as (i := 3) rfl (Or.inl rfl)) (pms_cons (pm_as (i := 4) rfl (Or.inl rfl)) (pms_cons (pm_as (i := 5) rfl (Or.inl rfl)) pms_nil)))))
  (pss_cons (ps_set (i := 6) scShHdb.nd rfl (Or.inl rfl) (pe_op op_cat (pe_lst (pa_cons (pe_tup (pa_cons pe_str (pa_cons (pv 3) pa_nil))) pa_nil)) (pe_lc (own := [("words", 7), ("inner", 8)]) (g := gTup K 2 (gCons (gName 7) (gCons (gName 8) gNil))) (tt := tYes) rfl scShHdb.nd (pi_tup (pv 4)) (blkOk_by (own := [("words", 7), ("inner", 8)]) (N := NShHdb) (sc := (defScope sShHdb)) (by decide +kernel)) (fun _ _ _ _ _ => (pg_tup (by rfl) (pgs_cons (pg_name (i := 7) scShHdb.nd rfl (Or.inl rfl)) (pgs_cons (pg_name (i := 8) scShHdb.nd rfl (Or.inl rfl)) pgs_nil)))) (fun _ _ _ _ _ => pts_nil) (fun _ _ _ _ _ => (pe_tup (pa_cons (pe_op op_add_str pe_str (pe_joinK (K := K) rfl pe_str (pv 7))) (pa_cons (pv 8) pa_nil)))))))
  (pss_one (ps_ret (pe_ifExp (PW.pt (pw_and (pt_truth (pv 4) (by intro _; rfl)) (pw_and1 (pt_not (pt_truth (pv 5) (by intro _; rfl)))))) (pv 6) (pe_op op_cat (pv 6) (pe_lst (pa_cons (pe_tup (pa_cons pe_str (pa_cons (pv 5) pa_nil))) pa_nil)))))))
  (pcs_cons scShHdb.nd (pm_seq rfl (pms_cons pm_str (pms_cons (pm_as (i := 9) rfl (Or.inl rfl)) (pms_cons (pm_as (i := 3) rfl (Or.inl rfl)) pms_nil))))
  (pss_one (ps_ret (pe_lst (pa_cons (pe_tup (pa_cons (pe_op op_add_str pe_str (pe_join pe_str (pv 9))) (pa_cons (pv 3) pa_nil))) pa_nil))))
  (pcs_cons scShHdb.nd (pm_seq rfl (pms_cons pm_str (pms_cons (pm_as (i := 1) rfl (Or.inl rfl)) (pms_cons (pm_as (i := 5) rfl (Or.inl rfl)) (pms_cons (pm_as (i := 10) rfl (Or.inl rfl)) (pms_cons (pm_as (i := 3) rfl (Or.inl rfl)) pms_nil))))))
  (pss_cons (ps_set (i := 11) scShHdb.nd rfl (Or.inl rfl) (pe_op op_add_str (pe_op op_add_str (pe_op op_add_str pe_str (pe_callH GL hr rfl pass0 (pa_cons (pe_ix (r := rIxT K) ix_tup (pv 1) pe_int (fun _ _ => rfl)) (pa_cons (pe_ix (r := rIxT K) ix_tup (pv 1) pe_int (fun _ _ => rfl)) pa_nil)))) pe_str) (pe_callH GL hr rfl pass0 (pa_cons (pe_ix (r := rIxT K) ix_tup (pv 5) pe_int (fun _ _ => rfl)) (pa_cons (pe_ix (r := rIxT K) ix_tup (pv 5) pe_int (fun _ _ => rfl)) pa_nil)))))
  (pss_one (ps_ret (pe_ifExp (pt_truth (pv 10) (by intro _; rfl)) (pe_lst (pa_cons (pe_tup (pa_cons (pe_op op_add_str (pe_op op_add_str (pv 11) pe_str) (pe_join pe_str (pv 10))) (pa_cons (pv 3) pa_nil))) pa_nil)) (pe_lst (pa_cons (pe_tup (pa_cons (pv 11) (pa_cons (pv 3) pa_nil))) pa_nil))))))
  pcs_nil))))))
  (pss_one (ps_ret (pe_lst pa_nil)))), ?_⟩
    have e24 : sizeLine = 2 ^ 24 := rfl
    have l5 : ("with " : Str).length = 5 := by decide +kernel
    have l6 : ("undo " : Str).length = 5 := by decide +kernel
    have l7 : ("except " : Str).length = 7 := by decide +kernel
    have l9 : (" swallow " : Str).length = 9 := by decide +kernel
    obtain ⟨a, xs, rfl, hq, hd⟩ := stInv hv
    have emp : ∀ (e : headsS st = []) (p : Addr), H p = none → Q (.ref p) (upd H p (.lst [])) := fun e p hp => k p [] _ (same_new hp) hp upd_same (by rw [e]; exact .nil)
    have one : ∀ (h : HdS) (w : V) (H1 : Hp), Same H H1 → Dp K H1 w (blD h.2.2) → headsS st = [h] → ∀ t, H1 t = none → ∀ p, upd H1 t (.tup [.str h.1, w]) p = none → Q (.ref p) (upd (upd H1 t (.tup [.str h.1, w])) p (.lst [.ref t])) := fun h w H1 s1 dw e t ht p hp => by
      have s2 := same_new (o := .tup [.str h.1, w]) ht
      have s3 := same_new (o := .lst [.ref t]) hp
      refine k p [.ref t] _ ((s1.trans s2).trans s3) (none_same (s1.trans s2) hp) upd_same ?_
      rw [e]
      exact .cons ⟨t, w, rfl, SqT.same s3 (SqT.of upd_same), (dw.same s2).same s3⟩ .nil
    have empE : ∀ {ys : List V} {q : List St}, DpAll K H ys (stsD q) → ys.isEmpty = q.isEmpty := fun {ys q} h => by
      have := h.len
      rw [stsD_map, List.length_map] at this
      cases ys <;> cases q <;> simp_all
    refine ⟨_, rfl, ?_⟩
    cases st <;> simp only [wordS] at hq
    case ite p q =>
      obtain ⟨x, y, rfl, h1, h2⟩ := DpAll.two hd
      obtain ⟨b, ys, rfl, hb, hbd⟩ := (show Dp K H y (.tuple (stsD q)) from h2).tupInv
      have eE := empE hbd
      refine case_hit hq rfl ⟨_, _, rfl, _, _, rfl, ?_⟩
      refine ⟨_, rfl, _, .inr (.inl ⟨ys, hb, rfl⟩), ?_⟩
      by_cases hE : q.isEmpty = true
      · refine iteE (by rw [eE, hE]; rfl) ?_
        exact ⟨_, rfl, (by show 2 ≤ sizeLine; decide), fun t ht => ⟨(by show 1 ≤ sizeLine; decide), fun p hp => one ("if", [mk "if"], _) x H (Same.refl _) h1 (by unfold headsS; simp [hE]) t ht p hp⟩⟩
      · refine iteS (by rw [eE, Bool.eq_false_iff.mpr hE]; rfl) ?_
        refine ⟨_, rfl, (by show 2 ≤ sizeLine; decide), fun t ht => ⟨_, rfl, (by show 2 ≤ sizeLine; decide), fun u hu => ⟨(by show 2 ≤ sizeLine; decide), fun p hp => ?_⟩⟩⟩
        have s1 := same_new (o := .tup [.str "if", x]) ht
        have s2 := same_new (o := .tup [.str "else", .ref b]) hu
        have s3 := same_new (o := .lst [.ref t, .ref u]) hp
        refine k p _ _ ((s1.trans s2).trans s3) (none_same (s1.trans s2) hp) upd_same ?_
        have e : ∀ p' : List St, headsS (.ite p' q) = [(("if", [mk "if"], p') : HdS), (("else", [mk "else"], q) : HdS)] := fun p' => by unfold headsS; simp [hE]
        rw [e]
        exact .cons ⟨t, _, rfl, SqT.same (s2.trans s3) (SqT.of upd_same), ((h1.same s1).same s2).same s3⟩ (.cons ⟨u, _, rfl, SqT.same s3 (SqT.of upd_same), ((h2.same s1).same s2).same s3⟩ .nil)
    case whl p =>
      obtain ⟨x, rfl, h1⟩ := DpAll.one hd
      refine case_len hq (Nat.ne_of_beq_eq_false rfl) ?_
      refine case_hit hq rfl ⟨_, _, rfl, ?_⟩
      exact ⟨_, rfl, (by show 2 ≤ sizeLine; decide), fun t ht => ⟨(by show 1 ≤ sizeLine; decide), fun q hp => one ("while", [mk "while"], p) x H (Same.refl _) h1 rfl t ht q hp⟩⟩
    case undo ns p =>
      have g : (ns ≠ [] ∧ GNs ns) ∧ gL p := g
      have ls := nms_sum g.1.2
      have ll := nms_len g.1.2
      obtain ⟨y, x, rfl, h0, h1⟩ := DpAll.two hd
      obtain ⟨b, rfl, hb⟩ := nm_inv h0
      repeat (first | refine case_len hq (Nat.ne_of_beq_eq_false rfl) ?_ | refine case_word hq rfl (by decide +kernel) ?_)
      refine case_hit hq rfl ⟨_, _, rfl, _, _, rfl, ?_⟩
      refine ⟨⟨_, rfl⟩, _, rfl, _, b, ns, rfl, rfl, .inr hb, by omega, _, _, rfl, rfl, by show _ + (nmsS ns).length ≤ _; rw [l6, e24]; omega, ?_⟩
      exact ⟨_, rfl, (by show 2 ≤ sizeLine; decide), fun t ht => ⟨(by show 1 ≤ sizeLine; decide), fun q hp => one ("undo " ++ nmsS ns, mk "undo" :: shNs ns, p) x H (Same.refl _) h1 rfl t ht q hp⟩⟩
    case with_ e l ks p =>
      have g : GC e ∧ GC l ∧ GNs ks ∧ gL p := g
      have ls := nms_sum g.2.2.1
      have ll := nms_len g.2.2.1
      have le := call_len g.1
      have lf := call_len g.2.1
      have lsep := sep2
      obtain ⟨u1, u2, u3, x, rfl, d1, d2, d3, h1⟩ := DpAll.four hd
      obtain ⟨a1, z1, rfl, q1, dd1⟩ := d1.tupInv
      obtain ⟨n1, v1, rfl, dn1, dv1⟩ := dd1.two
      rw [dn1.strInv] at q1
      obtain ⟨a2, z2, rfl, q2, dd2⟩ := d2.tupInv
      obtain ⟨n2, v2, rfl, dn2, dv2⟩ := dd2.two
      rw [dn2.strInv] at q2
      obtain ⟨b, rfl, hb⟩ := nm_inv d3
      repeat (first | refine case_len hq (Nat.ne_of_beq_eq_false rfl) ?_ | refine case_word hq rfl (by decide +kernel) ?_)
      refine case_hit hq rfl ⟨_, _, rfl, _, _, rfl, _, _, rfl, _, _, rfl, ?_⟩
      refine ⟨_, rfl, a1, _, _, _, rfl, rfl, q1, rfl, _, rfl, a1, _, _, _, rfl, rfl, q1, rfl, v1, e, rfl, dv1, g.1, fun H1 s1 => ?_⟩
      refine ⟨_, _, rfl, rfl, by rw [l5, e24]; omega, _, _, rfl, rfl, by rw [len_add, l5, lsep, e24]; omega, ?_⟩
      refine ⟨_, rfl, a2, _, _, _, rfl, rfl, SqT.same s1 q2, rfl, _, rfl, a2, _, _, _, rfl, rfl, SqT.same s1 q2, rfl, v2, l, rfl, dv2.same s1, g.2.1, fun H2 s2 => ?_⟩
      refine ⟨_, _, rfl, rfl, by simp only [len_add, l5, lsep, e24]; omega, ?_⟩
      have s12 := s1.trans s2
      have hb2 := SqT.same s12 hb
      refine ⟨_, rfl, _, .inr (.inl ⟨_, hb2, rfl⟩), ?_⟩
      have eE : (ks.map V.str).isEmpty = ks.isEmpty := by cases ks <;> rfl
      by_cases hE : ks.isEmpty = true
      · refine iteE (by rw [eE, hE]; rfl) ?_
        have eh : (("with " ++ callS e ++ ", " ++ callS l) ++ (if ks.isEmpty = true then Str.empty else " swallow " ++ nmsS ks)) = "with " ++ callS e ++ ", " ++ callS l := by rw [if_pos hE, add_empty]
        have o := one _ x H2 s12 (h1.same s12) rfl
        rw [eh] at o
        exact ⟨_, rfl, _, rfl, (by show 2 ≤ sizeLine; decide), fun t ht => ⟨(by show 1 ≤ sizeLine; decide), fun q hp => o t ht q hp⟩⟩
      · refine iteS (by rw [eE, Bool.eq_false_iff.mpr hE]; rfl) ?_
        have eh : (("with " ++ callS e ++ ", " ++ callS l) ++ (if ks.isEmpty = true then Str.empty else " swallow " ++ nmsS ks)) = "with " ++ callS e ++ ", " ++ callS l ++ " swallow " ++ nmsS ks := by
          rw [if_neg hE]
          exact TL.ext_tl (by simp only [TL.tl_append, List.append_assoc])
        have o := one _ x H2 s12 (h1.same s12) rfl
        rw [eh] at o
        refine ⟨_, rfl, _, _, rfl, rfl, by simp only [len_add, l5, l9, lsep, e24]; omega, ⟨_, rfl⟩, _, rfl, _, b, ks, rfl, rfl, .inr hb2, by omega, _, _, rfl, rfl, by show _ + (nmsS ks).length ≤ _; simp only [len_add, l5, l9, lsep, e24]; omega, ?_⟩
        exact ⟨_, rfl, (by show 2 ≤ sizeLine; decide), fun t ht => ⟨(by show 1 ≤ sizeLine; decide), fun q hp => o t ht q hp⟩⟩
    case try_ p hs q =>
      have g : hs.length ≤ 2 ∧ gL p ∧ gHs hs ∧ gL q := g
      obtain ⟨x, y, z, rfl, h1, h2, h3⟩ := DpAll.three hd
      obtain ⟨b, ys, rfl, hb, hbd⟩ := h2.tupInv
      obtain ⟨c, zs, rfl, hc, hcd⟩ := (show Dp K H z (.tuple (stsD q)) from h3).tupInv
      have eE := empE hcd
      rw [hdsD_map] at hbd
      have px := DpAll.map (f := hdD) hbd
      have lx : ys.length = hs.length := Paired.length px
      have eF : ys.isEmpty = hs.isEmpty := by cases ys <;> cases hs <;> simp_all
      repeat (first | refine case_len hq (Nat.ne_of_beq_eq_false rfl) ?_ | refine case_word hq rfl (by decide +kernel) ?_)
      refine case_hit hq rfl ⟨_, _, rfl, _, _, rfl, _, _, rfl, ?_⟩
      refine ⟨_, rfl, (by show 2 ≤ sizeLine; decide), fun t ht => ⟨(by show 1 ≤ sizeLine; decide), fun L1 hL1 => ?_⟩⟩
      have s1 := same_new (o := .tup [.str "try", x]) ht
      have s2 := same_new (o := .lst [.ref t]) hL1
      have s12 := s1.trans s2
      have eL1 : upd (upd H t (.tup [.str "try", x])) L1 (.lst [.ref t]) L1 = some (.lst [.ref t]) := upd_same
      have dt : HdAt K (upd (upd H t (.tup [.str "try", x])) L1 (.lst [.ref t])) (.ref t) ("try", [mk "try"], p) := ⟨t, x, rfl, SqT.same s2 (SqT.of upd_same), h1.same s12⟩
      generalize upd (upd H t (.tup [.str "try", x])) L1 (.lst [.ref t]) = H2 at *
      refine ⟨_, rfl, b, rfl, ⟨_, SqT.same s12 hb⟩, fun D hD => ?_⟩
      refine lc_tup (K := K) (a := b) (xs := ys) (fun i H' => Same H2 H' ∧ ∃ acc : List V, H' D = some (.lst acc) ∧ Paired (HdAt K H') acc ((hs.map excH).take i)) ⟨same_new hD, [], upd_same, .nil⟩ (fun i H' _ h' => SqT.same (s12.trans h'.1) hb) ?_ ?_
      · rintro i v H3 hv ⟨s3, acc, eD, pa⟩
        have hi : i < ys.length := (List.getElem?_eq_some_iff.mp hv).1
        have lac := Paired.length pa
        rw [List.length_take] at lac
        obtain ⟨h, hh, dh⟩ := Paired.at px hv
        have mh := List.mem_of_getElem? hh
        have gh := hd_g (gHs_mem g.2.2.1 mh)
        have lsn := nms_sum gh.1.2
        have lln := nms_len gh.1.2
        have dh : Dp K H v (.tuple [nmD h.ks, blD h.b]) := by
          have : hdD h = .tuple [nmD h.ks, blD h.b] := by cases h; rfl
          rw [← this]
          exact dh
        obtain ⟨c1, w1, rfl, hc1, hd1⟩ := dh.tupInv
        obtain ⟨m1, m2, rfl, dm1, dm2⟩ := hd1.two
        obtain ⟨b2, rfl, hb2⟩ := nm_inv dm1
        have s23 := s12.trans s3
        refine ⟨c1, _, rfl, SqT.same s23 hc1, rfl, _, _, rfl, _, _, rfl, rfl, rfl, ?_⟩
        refine ⟨⟨_, rfl⟩, _, rfl, _, b2, h.ks, rfl, rfl, .inr (SqT.same s23 hb2), by omega, _, _, rfl, rfl, by show _ + (nmsS h.ks).length ≤ _; rw [l7, e24]; omega, _, rfl, (by show 2 ≤ sizeLine; decide), fun u hu => ?_⟩
        have s4 := same_new (o := .tup [.str ("except " ++ nmsS h.ks), m2]) hu
        have eD4 := s4 _ _ eD
        refine ⟨acc, eD4, small1000 (by omega), fun b o z => ?_, acc ++ [.ref u], upd_same, ?_⟩
        · rw [upd_ne (ne_of_none z hD)]
          exact s4 _ _ (s3 _ _ z)
        · have t5 : Tps _ (upd (upd H3 u (.tup [.str ("except " ++ nmsS h.ks), m2])) D (.lst (acc ++ [.ref u]))) := Tps.lst eD4
          rw [take_snoc (show (hs.map excH)[i]? = some (excH h) by rw [List.getElem?_map, hh]; rfl)]
          exact Paired.snoc (Paired.mapP pa fun _ _ z => (z.same s4).tps t5) (HdAt.tps t5 ⟨u, m2, rfl, SqT.of upd_same, (dm2.same s23).same s4⟩)
      · rintro H3 ⟨s3, acc, eD, pa⟩
        have la := Paired.length pa
        rw [List.length_take, List.length_map] at la
        rw [lx, ← List.length_map (f := excH), List.take_length] at pa
        have s13 := s12.trans s3
        refine ⟨L1, D, _, _, rfl, rfl, s3 _ _ eL1, eD, by show 1 + acc.length ≤ _; rw [e24]; omega, fun M hM => ?_⟩
        have s4 := same_new (o := .lst ([.ref t] ++ acc)) hM
        have eM : upd H3 M (.lst ([.ref t] ++ acc)) M = some (.lst (.ref t :: acc)) := upd_same
        have pm : Paired (HdAt K (upd H3 M (.lst ([.ref t] ++ acc)))) (.ref t :: acc) ((("try", [mk "try"], p) : HdS) :: hs.map excH) := .cons ((dt.same s3).same s4) (Paired.mapP pa fun _ _ z => z.same s4)
        have s14 := s13.trans s4
        have nM : H M = none := none_same s13 hM
        generalize upd H3 M (.lst ([.ref t] ++ acc)) = H4 at *
        refine ⟨_, rfl, _, .inr (.inl ⟨ys, SqT.same s14 hb, rfl⟩), ?_⟩
        by_cases hE : hs.isEmpty = true
        · refine iteE (by rw [eF, hE]; rfl) ?_
          have eh : headsS (.try_ p hs q) = ((("try", [mk "try"], p) : HdS) :: hs.map excH) ++ [(("finally", [mk "finally"], q) : HdS)] := by
            show (("try", [mk "try"], p) : HdS) :: (hs.map excH ++ (if hs.isEmpty = false ∧ q.isEmpty = true then [] else [(("finally", [mk "finally"], q) : HdS)])) = _
            rw [if_neg (fun z => by rw [hE] at z; cases z.1)]
            rfl
          refine ⟨_, rfl, _, rfl, (by show 2 ≤ sizeLine; decide), fun u hu => ⟨(by show 1 ≤ sizeLine; decide), fun N hN => ?_⟩⟩
          have s5 := same_new (o := .tup [.str "finally", .ref c]) hu
          have s6 := same_new (o := .lst [.ref u]) hN
          have s56 := s5.trans s6
          refine ⟨M, N, _, _, rfl, rfl, s56 _ _ eM, upd_same, by rw [List.length_cons, e24]; show acc.length + 1 + 1 ≤ _; omega, fun R hR => ?_⟩
          have s7 := same_new (o := .lst ((.ref t :: acc) ++ [.ref u])) hR
          refine k R _ _ ((s14.trans s56).trans s7) (none_same (s14.trans s56) hR) upd_same ?_
          rw [eh]
          exact Paired.snoc (Paired.mapP pm fun _ _ z => (z.same s56).same s7) ⟨u, _, rfl, SqT.same s7 (SqT.same s6 (SqT.of upd_same)), ((h3.same s14).same s56).same s7⟩
        have hE : hs.isEmpty = false := Bool.eq_false_iff.mpr hE
        refine iteS (by rw [eF, hE]; rfl) ?_
        refine ⟨_, rfl, _, .inr (.inl ⟨zs, SqT.same s14 hc, rfl⟩), ?_⟩
        by_cases qE : q.isEmpty = true
        · refine iteS (by rw [eE, qE]; rfl) ?_
          refine ⟨_, rfl, k M _ _ s14 nM eM ?_⟩
          have eh : headsS (.try_ p hs q) = (("try", [mk "try"], p) : HdS) :: hs.map excH := by
            show (("try", [mk "try"], p) : HdS) :: (hs.map excH ++ (if hs.isEmpty = false ∧ q.isEmpty = true then [] else [(("finally", [mk "finally"], q) : HdS)])) = _
            rw [if_pos ⟨hE, qE⟩, List.append_nil]
          rw [eh]
          exact pm
        · refine iteE (by rw [eE, Bool.eq_false_iff.mpr qE]; rfl) ?_
          have eh : headsS (.try_ p hs q) = ((("try", [mk "try"], p) : HdS) :: hs.map excH) ++ [(("finally", [mk "finally"], q) : HdS)] := by
            show (("try", [mk "try"], p) : HdS) :: (hs.map excH ++ (if hs.isEmpty = false ∧ q.isEmpty = true then [] else [(("finally", [mk "finally"], q) : HdS)])) = _
            rw [if_neg (fun z => qE z.2)]
            rfl
          refine ⟨_, rfl, _, rfl, (by show 2 ≤ sizeLine; decide), fun u hu => ⟨(by show 1 ≤ sizeLine; decide), fun N hN => ?_⟩⟩
          have s5 := same_new (o := .tup [.str "finally", .ref c]) hu
          have s6 := same_new (o := .lst [.ref u]) hN
          have s56 := s5.trans s6
          refine ⟨M, N, _, _, rfl, rfl, s56 _ _ eM, upd_same, by rw [List.length_cons, e24]; show acc.length + 1 + 1 ≤ _; omega, fun R hR => ?_⟩
          have s7 := same_new (o := .lst ((.ref t :: acc) ++ [.ref u])) hR
          refine k R _ _ ((s14.trans s56).trans s7) (none_same (s14.trans s56) hR) upd_same ?_
          rw [eh]
          exact Paired.snoc (Paired.mapP pm fun _ _ z => (z.same s56).same s7) ⟨u, _, rfl, SqT.same s7 (SqT.same s6 (SqT.of upd_same)), ((h3.same s14).same s56).same s7⟩
    all_goals
      first
        | obtain ⟨_, rfl, _⟩ := DpAll.one hd
        | obtain ⟨_, _, rfl, _, _⟩ := DpAll.two hd
        | obtain ⟨_, _, _, rfl, _⟩ := DpAll.three hd
      repeat (first | refine case_len hq (Nat.ne_of_beq_eq_false rfl) ?_ | refine case_word hq rfl (by decide +kernel) ?_)
      refine ⟨(by show 0 ≤ sizeLine; decide), fun p hp => emp rfl p hp⟩
end

/-! ### k03: statement_lines, block_lines -/
abbrev sShStl : Stmt := topS 7
abbrev NShStl : List Str := ["statement", "indent", "heads", "lines", "at", "head", "block"]
abbrev PShStl : List Str := ["statement", "indent"]
theorem scShStl : FnScope NShStl PShStl (defScope sShStl) := ⟨rfl, rfl, rfl, by decide +kernel, rfl, by decide +kernel, by decide +kernel⟩
abbrev sShBll : Stmt := topS 8
abbrev NShBll : List Str := ["block", "indent", "lines", "statement"]
abbrev PShBll : List Str := ["block", "indent"]
theorem scShBll : FnScope NShBll PShBll (defScope sShBll) := ⟨rfl, rfl, rfl, by decide +kernel, rfl, by decide +kernel, by decide +kernel⟩
theorem sim_len {s : St} (g : gS s) : (simS s).length ≤ 200 := by
  have l3 : (" = " : Str).length = 3 := by decide +kernel
  have l4 : (" = ?" : Str).length = 4 := by decide +kernel
  have l5 : ("risk " : Str).length = 5 := by decide +kernel
  have l6 : ("raise " : Str).length = 6 := by decide +kernel
  have l7 : ("return " : Str).length = 7 := by decide +kernel
  have l0 : ("" : Str).length = 0 := by decide +kernel
  cases s with
  | set t e =>
    have := g.1.2
    have := expr_len g.2
    show (t ++ " = " ++ exprS e.c e.ts).length ≤ 200
    rw [len_add, len_add, l3]
    omega
  | input t =>
    have := (show GN t from g).2
    show (t ++ " = ?").length ≤ 200
    rw [len_add, l4]
    omega
  | call t f as =>
    have := call_len g.2
    cases t with
    | none => show (callS (f, as)).length ≤ 200; omega
    | some t =>
      have := (g.1 t rfl).2
      show (t ++ " = " ++ callS (f, as)).length ≤ 200
      rw [len_add, len_add, l3]
      omega
  | risk ks =>
    have := nms_len g.2
    show ("risk " ++ nmsS ks).length ≤ 200
    rw [len_add, l5]
    omega
  | raise k =>
    have := (show GN k from g).2
    show ("raise " ++ k).length ≤ 200
    rw [len_add, l6]
    omega
  | ret e =>
    have := expr_len (show GE e from g)
    show ("return " ++ exprS e.c e.ts).length ≤ 200
    rw [len_add, l7]
    omega
  | _ => show ("" : Str).length ≤ 200; rw [l0]; decide
theorem head_len {s : St} (g : gS s) : ∀ h ∈ headsS s, h.1.length ≤ 400 := by
  intro h hm
  have e1 : ("if" : Str).length = 2 ∧ ("else" : Str).length = 4 ∧ ("while" : Str).length = 5 ∧ ("try" : Str).length = 3 ∧ ("finally" : Str).length = 7 := by decide +kernel
  have e2 : ("except " : Str).length = 7 ∧ ("undo " : Str).length = 5 ∧ ("with " : Str).length = 5 ∧ (" swallow " : Str).length = 9 ∧ (", " : Str).length = 2 := by decide +kernel
  obtain ⟨a1, a2, a3, a4, a5⟩ := e1
  obtain ⟨b1, b2, b3, b4, b5⟩ := e2
  cases s with
  | ite a b =>
    unfold headsS at hm
    rcases List.mem_cons.mp hm with rfl | hm
    · show ("if" : Str).length ≤ 400; omega
    · split at hm
      · cases hm
      · rw [List.mem_singleton.mp hm]
        show ("else" : Str).length ≤ 400; omega
  | whl b =>
    rw [List.mem_singleton.mp hm]
    show ("while" : Str).length ≤ 400; omega
  | try_ b hs f =>
    have g : hs.length ≤ 2 ∧ gL b ∧ gHs hs ∧ gL f := g
    unfold headsS at hm
    rcases List.mem_cons.mp hm with rfl | hm
    · show ("try" : Str).length ≤ 400; omega
    rcases List.mem_append.mp hm with hm | hm
    · obtain ⟨x, hx, rfl⟩ := List.mem_map.mp hm
      have := nms_len (hd_g (gHs_mem g.2.2.1 hx)).1.2
      show ("except " ++ nmsS x.ks).length ≤ 400
      rw [len_add]
      omega
    · split at hm
      · cases hm
      · rw [List.mem_singleton.mp hm]
        show ("finally" : Str).length ≤ 400; omega
  | undo ns b =>
    have g : (ns ≠ [] ∧ GNs ns) ∧ gL b := g
    rw [List.mem_singleton.mp hm]
    have := nms_len g.1.2
    show ("undo " ++ nmsS ns).length ≤ 400
    rw [len_add]
    omega
  | with_ e l ks b =>
    have g : GC e ∧ GC l ∧ GNs ks ∧ gL b := g
    rw [List.mem_singleton.mp hm]
    have := call_len g.1
    have := call_len g.2.1
    have := nms_len g.2.2.1
    show (("with " ++ callS e ++ ", " ++ callS l) ++ (if ks.isEmpty = true then Str.empty else " swallow " ++ nmsS ks)).length ≤ 400
    have l0 : Str.empty.length = 0 := rfl
    split
    · rw [len_add, len_add, len_add, len_add, l0]
      omega
    · rw [len_add, len_add, len_add, len_add, len_add]
      omega
  | set t e => cases hm
  | input t => cases hm
  | call t f as => cases hm
  | risk ks => cases hm
  | raise k => cases hm
  | ret e => cases hm
theorem heads_dp {s : St} : ∀ h ∈ headsS s, dpB h.2.2 ≤ dpS s := by
  intro h hm
  cases s with
  | ite a b =>
    have d : dpS (.ite a b) = max (dpB a) (dpB b) := rfl
    unfold headsS at hm
    rcases List.mem_cons.mp hm with rfl | hm
    · show dpB a ≤ _; omega
    · split at hm
      · cases hm
      · rw [List.mem_singleton.mp hm]
        show dpB b ≤ _; omega
  | whl b => rw [List.mem_singleton.mp hm]; exact Nat.le_refl _
  | try_ b hs f =>
    have d : dpS (.try_ b hs f) = max (dpB b) (max (dpHs hs) (dpB f)) := rfl
    unfold headsS at hm
    rcases List.mem_cons.mp hm with rfl | hm
    · show dpB b ≤ _; omega
    rcases List.mem_append.mp hm with hm | hm
    · obtain ⟨x, hx, rfl⟩ := List.mem_map.mp hm
      have := dp_hs (hs := hs) (List.mem_map.mpr ⟨x, hx, rfl⟩)
      show dpB x.b ≤ _
      omega
    · split at hm
      · cases hm
      · rw [List.mem_singleton.mp hm]
        show dpB f ≤ _; omega
  | undo ns b => rw [List.mem_singleton.mp hm]; exact Nat.le_refl _
  | with_ e l ks b => rw [List.mem_singleton.mp hm]; exact Nat.le_refl _
  | set t e => cases hm
  | input t => cases hm
  | call t f as => cases hm
  | risk ks => cases hm
  | raise k => cases hm
  | ret e => cases hm
theorem heads_sz {l : List HdS} {h : HdS} (hm : h ∈ l) : szB h.2.2 ≤ (l.map fun h => szB h.2.2).sum := sum_mem (List.mem_map.mpr ⟨h, hm, rfl⟩)
theorem str_emp : ("" : Str) = Str.empty := TL.ext_tl rfl
theorem hs_sum : ∀ hs : List Hd, (hs.map fun h => szB h.b).sum = szHs hs
  | [] => rfl
  | .mk ks b :: r => by
    rw [List.map_cons, List.sum_cons, hs_sum r]
    rfl
theorem heads_cnt {s : St} (g : gS s) : (headsS s).length ≤ 4 ∧ ((headsS s).map fun h => szB h.2.2).sum ≤ szS s := by
  cases s with
  | ite a b =>
    have e : headsS (.ite a b) = (("if", [mk "if"], a) : HdS) :: (if b.isEmpty = true then [] else [(("else", [mk "else"], b) : HdS)]) := rfl
    rw [e]
    by_cases q : b.isEmpty = true
    · rw [if_pos q]
      exact ⟨by show 1 ≤ 4; decide, by show szB a + 0 ≤ szB a + szB b; omega⟩
    · rw [if_neg q]
      exact ⟨by show 2 ≤ 4; decide, by show szB a + (szB b + 0) ≤ szB a + szB b; omega⟩
  | whl b => exact ⟨by show 1 ≤ 4; decide, by show szB b + 0 ≤ szB b; omega⟩
  | try_ b hs f =>
    have g : hs.length ≤ 2 ∧ gL b ∧ gHs hs ∧ gL f := g
    have e := hs_sum hs
    have e0 : headsS (.try_ b hs f) = (("try", [mk "try"], b) : HdS) :: (hs.map excH ++ (if hs.isEmpty = false ∧ f.isEmpty = true then [] else [(("finally", [mk "finally"], f) : HdS)])) := rfl
    rw [e0]
    constructor
    · rw [List.length_cons, List.length_append, List.length_map]
      split
      · show hs.length + 0 + 1 ≤ 4; omega
      · show hs.length + 1 + 1 ≤ 4; omega
    · rw [List.map_cons, List.map_append, List.sum_cons, List.sum_append, List.map_map]
      have e2 : (hs.map ((fun h : HdS => szB h.2.2) ∘ excH)) = hs.map fun h => szB h.b := rfl
      rw [e2, e]
      show szB b + (szHs hs + _) ≤ szB b + (szHs hs + szB f)
      split
      · show szB b + (szHs hs + 0) ≤ _; omega
      · show szB b + (szHs hs + (szB f + 0)) ≤ _; omega
  | undo ns b => exact ⟨by show 1 ≤ 4; decide, by show szB b + 0 ≤ szB b; omega⟩
  | with_ e l ks b => exact ⟨by show 1 ≤ 4; decide, by show szB b + 0 ≤ szB b; omega⟩
  | set t e => exact ⟨Nat.zero_le _, Nat.le_refl _⟩
  | input t => exact ⟨Nat.zero_le _, Nat.le_refl _⟩
  | call t f as => exact ⟨Nat.zero_le _, Nat.le_refl _⟩
  | risk ks => exact ⟨Nat.zero_le _, Nat.le_refl _⟩
  | raise k => exact ⟨Nat.zero_le _, Nat.le_refl _⟩
  | ret e => exact ⟨Nat.zero_le _, Nat.le_refl _⟩
theorem lnHs_len (f : List St → List Str) (ind : Str) : ∀ (l : List HdS) (b : Bool), (∀ h ∈ l, (f h.2.2).length ≤ 5 * szB h.2.2) → (lnHs f ind b l).length ≤ 1 + l.length + 5 * (l.map fun h => szB h.2.2).sum
  | [], _, _ => Nat.le_refl _
  | h :: r, b, hh => by
    have ih := lnHs_len f ind r true fun x hx => hh x (List.mem_cons_of_mem _ hx)
    have h1 := hh h List.mem_cons_self
    show (hdL ind b h.1 :: (f h.2.2 ++ lnHs f ind true r)).length ≤ _
    rw [List.length_cons, List.length_append, List.length_cons, List.map_cons, List.sum_cons]
    omega
theorem flat_cnt {f : St → List Str} : ∀ {b : List St}, (∀ s ∈ b, (f s).length ≤ 5 * (1 + szS s)) → (b.flatMap f).length ≤ 5 * szB b
  | [], _ => Nat.zero_le _
  | s :: r, h => by
    have ih := flat_cnt (b := r) fun x hx => h x (List.mem_cons_of_mem _ hx)
    have h1 := h s List.mem_cons_self
    rw [List.flatMap_cons, List.length_append]
    show _ ≤ 5 * (1 + szS s + szB r)
    omega
theorem lin_cnt : ∀ (n : Nat) {ind : Str} {s : St}, gS s → (linS n ind s).length ≤ 5 * (1 + szS s)
  | 0, _, _, _ => Nat.zero_le _
  | n + 1, ind, s, g => by
    unfold linS
    split
    · show 1 ≤ _; omega
    · have := heads_cnt g
      have := lnHs_len (fun b => b.flatMap (linS n (ind ++ "  "))) ind (headsS s) false fun h hm => flat_cnt fun x hx => lin_cnt n (gL_mem (tp_heads g h hm).2 hx)
      omega
theorem linB_cnt {n : Nat} {ind : Str} {b : List St} (g : gL b) : (linB n ind b).length ≤ 5 * szB b := flat_cnt fun x hx => lin_cnt n (gL_mem g hx)
/-! how long a line is -/
theorem hdL_len {ind : Str} {b : Bool} {h : Str} (hl : h.length ≤ 400) : (hdL ind b h).length ≤ ind.length + 404 := by
  unfold hdL
  have l1 : ("} " : Str).length = 2 := by decide +kernel
  have l2 : (" {" : Str).length = 2 := by decide +kernel
  have l0 : Str.empty.length = 0 := rfl
  rw [len_add, len_add, len_add, l2]
  split
  · omega
  · omega
theorem lnHs_str {f : List St → List Str} {ind : Str} {m : Nat} (hm : ind.length + 404 ≤ m) : ∀ {l : List HdS} {b : Bool}, (∀ h ∈ l, h.1.length ≤ 400 ∧ ∀ x ∈ f h.2.2, x.length ≤ m) → ∀ x ∈ lnHs f ind b l, x.length ≤ m
  | [], _, _, x, hx => by
    rw [List.mem_singleton.mp hx, len_add]
    have l1 : ("}" : Str).length = 1 := by decide +kernel
    omega
  | h :: r, b, hh, x, hx => by
    have h1 := hh h List.mem_cons_self
    rcases List.mem_cons.mp (show x ∈ hdL ind b h.1 :: (f h.2.2 ++ lnHs f ind true r) from hx) with rfl | hx
    · exact Nat.le_trans (hdL_len h1.1) hm
    rcases List.mem_append.mp hx with hx | hx
    · exact h1.2 x hx
    · exact lnHs_str hm (fun y hy => hh y (List.mem_cons_of_mem _ hy)) x hx
theorem two_len : ("  " : Str).length = 2 := by decide +kernel
theorem lin_str : ∀ (n : Nat) {ind : Str} {s : St} {m : Nat}, gS s → ind.length + 2 * n + 404 ≤ m → ∀ x ∈ linS n ind s, x.length ≤ m
  | 0, _, _, _, _, _, x, hx => nomatch hx
  | n + 1, ind, s, m, g, hm, x, hx => by
    unfold linS at hx
    split at hx
    · rw [List.mem_singleton.mp hx, len_add]
      have := sim_len g
      omega
    · refine lnHs_str (by omega) (fun h hh => ⟨head_len g h hh, fun y hy => ?_⟩) x hx
      obtain ⟨st, hst, hy⟩ := List.mem_flatMap.mp hy
      exact lin_str n (gL_mem (tp_heads g h hh).2 hst) (by rw [len_add, two_len]; omega) y hy
theorem small10 {n : Nat} (h : n ≤ 10000) : n < sizeLine := Nat.lt_of_le_of_lt h (by decide)
structure TxEnu (mg : Str → Option Value) : Prop where
  n_enumerate : mg "enumerate" = none
def spLnS (K : PySem.W.Frag) (n : Nat) : Sp := fun vs H Q _ => ∃ (v : V) (ind : Str) (s : St), vs = [v, .str ind] ∧ Dp K H v (stD s) ∧ gS s ∧ dpS s ≤ n ∧ szS s ≤ 900 ∧ ind.length + 2 * n ≤ 1000 ∧ ∀ (p : Addr) (H' : Hp), Same H H' → H p = none → H' p = some (.lst ((linS (n + 1) ind s).map V.str)) → Q (.ref p) H'
def spLnB (K : PySem.W.Frag) (n : Nat) : Sp := fun vs H Q _ => ∃ (v : V) (ind : Str) (b : List St), vs = [v, .str ind] ∧ Dp K H v (blD b) ∧ gL b ∧ dpB b ≤ n ∧ szB b ≤ 900 ∧ ind.length + 2 * n ≤ 1002 ∧ ∀ (p : Addr) (H' : Hp), Same H H' → H p = none → H' p = some (.lst ((linB n ind b).map V.str)) → Q (.ref p) H'
section
variable {P : Program} {w : World} {K : PySem.W.Frag} {mg : Str → Option Value} {base : Heap} {C : Addr}
theorem ok_ShStl {n : Nat} {f : Addr} {fd : FuncData} (F : Fun K "statement_lines" "statement_lines" sShStl f fd) (T : TxEnu mg) (GH : Has P w K mg base CX0 5 "headed_blocks" PShHdb (spShH K)) (GS : Has P w K mg base CX0 5 "simple_line" PShSim (spShS K)) (GB : Has P w K mg base CX0 (7 + 2 * n) "block_lines" PShBll (spLnB K n)) : FnOk P w K mg base CX0 (7 + 2 * n + 1) f fd PShStl (spLnS K n) := by
  refine F.ok scShStl (fun vs H Q E h => ?_) (fun cdv A outer s H vs Q E hr h => ?_)
  · obtain ⟨v, ind, st, rfl, _⟩ := h
    rfl
  · obtain ⟨v, ind, st, rfl, hv, g, hdp, hz, hi, k⟩ := h
    have hr5 := hr.mono (j := 5) (by omega)
    refine ⟨_, (pss_cons (ps_set (i := 2) scShStl.nd rfl (Or.inl rfl) (pe_callH GH hr5 rfl pass0 (pa_cons (pv 0) pa_nil)))
  (pss_cons (ps_if (pt_not (pt_truth (pv 2) (by intro _; rfl)))
  (pss_one (ps_ret (pe_lst (pa_cons (pe_op op_add_str (pv 1) (pe_callH GS hr5 rfl pass0 (pa_cons (pv 0) pa_nil))) pa_nil))))
  pss_nil)
  (pss_cons (ps_set (i := 3) scShStl.nd rfl (Or.inl rfl) (pe_lst pa_nil))
  (pss_cons (ps_for PassesOwn.never rfl (pi_enum (by rfl) T.n_enumerate (pa_cons (pv 2) pa_nil)) (pg_tup (by rfl) (pgs_cons (pg_name (i := 4) scShStl.nd rfl (Or.inl rfl)) (pgs_cons (pg_tup (by rfl) (pgs_cons (pg_name (i := 5) scShStl.nd rfl (Or.inl rfl)) (pgs_cons (pg_name (i := 6) scShStl.nd rfl (Or.inl rfl)) pgs_nil))) pgs_nil)))
  (pss_cons (ps_expr (pe_bm PySem.F.plainAttrs_list PySem.F.slot_list_append PySem.F.type_list_append mt_append (pv 3) (pa_cons (pe_op op_add_str (pe_op op_add_str (pe_op op_add_str (pv 1) (pe_ifExp (pt_cmpR op_gt (pv 4) pe_int (nomark _)) pe_str pe_str)) (pv 5)) pe_str) pa_nil)))
  (pss_one (ps_expr (pe_bm PySem.F.plainAttrs_list PySem.F.slot_list_extend PySem.F.type_list_extend mt_extend (pv 3) (pa_cons (pe_callH GB hr rfl pass0 (pa_cons (pv 6) (pa_cons (pe_op op_add_str (pv 1) pe_str) pa_nil))) pa_nil))))))
  (pss_one (ps_ret (pe_op op_cat (pv 3) (pe_lst (pa_cons (pe_op op_add_str (pv 1) pe_str) pa_nil))))))))), ?_⟩
    have e24 : sizeLine = 2 ^ 24 := rfl
    refine ⟨_, rfl, v, st, rfl, hv, g, fun p xs H1 s1 np ep px => ?_⟩
    have lx := Paired.length px
    have eE : xs.isEmpty = (headsS st).isEmpty := by rw [Bool.eq_iff_iff, List.isEmpty_iff, List.isEmpty_iff, ← List.length_eq_zero_iff, ← List.length_eq_zero_iff, lx]
    refine ⟨_, rfl, _, .inl ⟨xs, SqL.of ep, rfl⟩, ?_⟩
    by_cases hE : (headsS st).isEmpty = true
    · refine iteS (by rw [eE, hE]; rfl) ?_
      have ls := sim_len g
      refine ⟨_, rfl, _, rfl, v, st, rfl, hv.same s1, g, List.isEmpty_iff.mp hE, fun H2 s2 => ⟨_, _, rfl, rfl, by rw [e24]; omega, (by show 1 ≤ sizeLine; decide), fun q hq => ?_⟩⟩
      refine k q _ ((s1.trans s2).trans (same_new hq)) (none_same (s1.trans s2) hq) ?_
      rw [upd_same]
      have : linS (n + 1) ind st = [ind ++ simS st] := if_pos hE
      rw [this]
      rfl
    · refine iteE (by rw [eE, Bool.eq_false_iff.mpr hE]; rfl) ?_
      refine ⟨(by show 0 ≤ sizeLine; decide), fun X hX => ?_⟩
      have s2 := same_new (o := .lst []) hX
      have nX : H X = none := none_same s1 hX
      have et : linS (n + 1) ind st = lnHs (fun b => b.flatMap (linS n (ind ++ "  "))) ind false (headsS st) := if_neg hE
      have tl := lin_cnt (n + 1) (ind := ind) g
      rw [et] at k tl
      obtain ⟨total, etot⟩ : ∃ t, t = lnHs (fun b => b.flatMap (linS n (ind ++ "  "))) ind false (headsS st) := ⟨_, rfl⟩
      rw [← etot] at k tl
      refine ⟨_, rfl, p, _, rfl, SqL.of (s2 _ _ ep), ?_⟩
      refine for_it (walk_enum (K := K) (a := p) (xs := xs)) (fun i σ H' => Same H1 H' ∧ ∃ (Ls : List Str) (x4 x5 x6 : Option V), σ = [some v, some (.str ind), some (.ref p), some (.ref X), x4, x5, x6] ∧ H' X = some (.lst (Ls.map V.str)) ∧ Ls ++ lnHs (fun b => b.flatMap (linS n (ind ++ "  "))) ind (decide (0 < i)) ((headsS st).drop i) = total) ⟨s2, [], none, none, none, rfl, upd_same, ?_⟩ (fun i σ H' _ h' => SqL.of (h'.1 _ _ ep)) ?_ ?_
      · exact etot.symm
      · rintro i x σ H2 H3 hil ⟨s3, Ls, x4, x5, x6, rfl, eX, eq⟩ ⟨T, x, y, rfl, hT, rfl, gx, gy⟩
        simp only at gx gy
        simp only [Option.some.injEq] at gx
        subst gx
        obtain ⟨h, hh, a1, w1, rfl, q1, dw⟩ := Paired.at px gy
        have mh := List.mem_of_getElem? hh
        have s4 := same_new (o := .tup [V.int (i : Nat), .ref a1]) hT
        have s13 := s3.trans s4
        have ed : (headsS st).drop i = h :: (headsS st).drop (i + 1) := by
          have hl := (List.getElem?_eq_some_iff.mp hh).1
          rw [List.drop_eq_getElem_cons hl, (List.getElem?_eq_some_iff.mp hh).2]
        rw [ed] at eq
        have hl4 := head_len g h mh
        have eX4 := s4 _ _ eX
        have ct := congrArg List.length eq
        rw [List.length_append] at ct
        refine ⟨T, _, rfl, SqT.of upd_same, rfl, _, _, rfl, _, _, rfl, a1, _, rfl, SqT.same s13 q1, rfl, _, _, rfl, _, _, rfl, rfl, rfl, ?_⟩
        have l1 : ("} " : Str).length = 2 := by decide +kernel
        have l2 : (" {" : Str).length = 2 := by decide +kernel
        have le : ("" : Str).length = 0 := by decide +kernel
        have di : decide ((0 : Int) < ((i : Nat) : Int)) = decide (0 < i) := decide_eq_decide.mpr (by omega)
        have li : (if decide ((0 : Int) < ((i : Nat) : Int)) = true then ("} " : Str) else "").length ≤ 2 := by split <;> omega
        have eh : ind ++ (if decide ((0 : Int) < ((i : Nat) : Int)) = true then ("} " : Str) else "") ++ h.1 ++ " {" = hdL ind (decide (0 < i)) h.1 := by
          unfold hdL
          rw [di, str_emp]
        have tt : lnHs (fun b => b.flatMap (linS n (ind ++ "  "))) ind (decide (0 < i)) (h :: (headsS st).drop (i + 1)) = hdL ind (decide (0 < i)) h.1 :: (linB n (ind ++ "  ") h.2.2 ++ lnHs (fun b => b.flatMap (linS n (ind ++ "  "))) ind true ((headsS st).drop (i + 1))) := rfl
        rw [tt] at eq ct
        rw [List.length_cons, List.length_append] at ct
        refine ⟨_, rfl, .inl ⟨rfl, _, SqL.of eX4⟩, _, rfl, _, rfl, _, _, rfl, rfl, _, rfl, if_tC ⟨_, _, rfl, rfl, by rw [e24]; omega, _, rfl, _, _, rfl, rfl, by rw [len_add, e24]; omega, _, _, rfl, rfl, by rw [len_add, len_add, l2, e24]; omega, X, _, _, rfl, rfl, eX4, small10 (by rw [List.length_map]; omega), ?_⟩⟩
        rw [eh]
        have t5 : Tps _ (upd (upd H2 T (.tup [V.int (i : Nat), .ref a1])) X (.lst (Ls.map V.str ++ [V.str (hdL ind (decide (0 < i)) h.1)]))) := Tps.lst eX4
        have eX5 : upd (upd H2 T (.tup [V.int (i : Nat), .ref a1])) X (.lst (Ls.map V.str ++ [V.str (hdL ind (decide (0 < i)) h.1)])) X = some (.lst ((Ls ++ [hdL ind (decide (0 < i)) h.1]).map V.str)) := by rw [upd_same, List.map_append]; rfl
        have s5 : Same H1 (upd (upd H2 T (.tup [V.int (i : Nat), .ref a1])) X (.lst (Ls.map V.str ++ [V.str (hdL ind (decide (0 < i)) h.1)]))) := fun b o z => by
          rw [upd_ne (ne_of_none z hX)]
          exact s13 _ _ z
        generalize upd (upd H2 T (.tup [V.int (i : Nat), .ref a1])) X (.lst (Ls.map V.str ++ [V.str (hdL ind (decide (0 < i)) h.1)])) = H5 at *
        have hh2 := tp_heads g h mh
        have hdp2 := heads_dp h mh
        have hsz2 := heads_sz mh
        have hcn := (heads_cnt g).2
        refine ⟨_, rfl, .inl ⟨rfl, _, SqL.of eX5⟩, _, rfl, _, rfl, _, _, rfl, rfl, by rw [two_len, e24]; omega, w1, ind ++ "  ", h.2.2, rfl, dw.same s5, hh2.2, by omega, by omega, by rw [len_add, two_len]; omega, fun q H6 s6 nq eq6 => ?_⟩
        have eX6 := s6 _ _ eX5
        refine ⟨X, q, _, _, rfl, rfl, eX6, eq6, ?_, fun b o z => ?_, Ls ++ [hdL ind (decide (0 < i)) h.1] ++ linB n (ind ++ "  ") h.2.2, _, _, _, rfl, ?_, ?_⟩
        · rw [List.length_map, List.length_map, List.length_append, e24]
          show Ls.length + 1 + _ ≤ _
          omega
        · rw [upd_ne (ne_of_none z hX)]
          exact s6 _ _ (s5 _ _ z)
        · rw [upd_same]
          simp only [List.map_append]
        · rw [decide_eq_true (Nat.succ_pos i), ← eq]
          simp only [List.append_assoc, List.cons_append, List.nil_append]
      · rintro σ H2 ⟨s3, Ls, x4, x5, x6, rfl, eX, eq⟩
        rw [lx, List.drop_length] at eq
        have eq : Ls ++ [ind ++ "}"] = total := eq
        have l1 : ("}" : Str).length = 1 := by decide +kernel
        have ct := congrArg List.length eq
        rw [List.length_append] at ct
        refine ⟨_, rfl, _, rfl, _, _, rfl, rfl, by rw [l1, e24]; omega, (by show 1 ≤ sizeLine; decide), fun q hq => ?_⟩
        have s4 := same_new (o := .lst [V.str (ind ++ "}")]) hq
        refine ⟨X, q, _, _, rfl, rfl, s4 _ _ eX, upd_same, by rw [List.length_map, e24]; show Ls.length + 1 ≤ _; omega, fun M hM => ?_⟩
        have s5 := same_new (o := .lst (Ls.map V.str ++ [V.str (ind ++ "}")])) hM
        refine k M _ (((s1.trans s3).trans s4).trans s5) (none_same ((s1.trans s3).trans s4) hM) ?_
        rw [upd_same, ← eq, List.map_append]
        rfl
theorem ok_ShBll {n : Nat} {f : Addr} {fd : FuncData} (F : Fun K "block_lines" "block_lines" sShBll f fd) (GS : Has P w K mg base CX0 (7 + 2 * n + 1) "statement_lines" PShStl (spLnS K n)) : FnOk P w K mg base CX0 (7 + 2 * n + 1 + 1) f fd PShBll (spLnB K (n + 1)) := by
  refine F.ok scShBll (fun vs H Q E h => ?_) (fun cdv A outer s H vs Q E hr h => ?_)
  · obtain ⟨v, ind, st, rfl, _⟩ := h
    rfl
  · obtain ⟨v, ind, b, rfl, hv, g, hdp, hz, hi, k⟩ := h
    refine ⟨_, (pss_cons (ps_set (i := 2) scShBll.nd rfl (Or.inl rfl) (pe_lst pa_nil))
  (pss_cons (ps_for PassesOwn.never rfl (pi_tup (pv 0)) (pg_name (i := 3) scShBll.nd rfl (Or.inl rfl))
  (pss_one (ps_expr (pe_bm PySem.F.plainAttrs_list PySem.F.slot_list_extend PySem.F.type_list_extend mt_extend (pv 2) (pa_cons (pe_callH GS hr rfl pass0 (pa_cons (pv 3) (pa_cons (pv 1) pa_nil))) pa_nil)))))
  (pss_one (ps_ret (pv 2))))), ?_⟩
    have e24 : sizeLine = 2 ^ 24 := rfl
    have hv : Dp K H v (.tuple (stsD b)) := hv
    obtain ⟨a, xs, rfl, hq, hd⟩ := hv.tupInv
    rw [stsD_map] at hd
    have px := DpAll.map (f := stD) hd
    have lx := Paired.length px
    have hc := linB_cnt (n := n + 1) (ind := ind) g
    have hdp0 := dpB_eq b
    refine ⟨(by show 0 ≤ sizeLine; decide), fun X hX => ?_⟩
    have s2 := same_new (o := .lst []) hX
    refine ⟨_, rfl, a, rfl, ⟨_, SqT.same s2 hq⟩, for_it (walk_tup (K := K) (a := a) (xs := xs)) (fun i σ H' => Same H H' ∧ ∃ x3 : Option V, σ = [some (.ref a), some (.str ind), some (.ref X), x3] ∧ H' X = some (.lst ((linB (n + 1) ind (b.take i)).map V.str))) ⟨s2, none, rfl, upd_same⟩ (fun i σ H' _ h' => SqT.same h'.1 hq) ?_ ?_⟩
    · rintro i x σ H2 H3 hil ⟨s3, x3, rfl, eX⟩ ⟨rfl, hx⟩
      obtain ⟨st, hst, dst⟩ := Paired.at px hx
      have mst := List.mem_of_getElem? hst
      have dps : dpS st ≤ n := by
        have go : ∀ {l : List St}, st ∈ l → dpS st ≤ dpIn l := fun {l} => by
          induction l with
          | nil => exact fun h => nomatch h
          | cons x r ih =>
            intro h
            show dpS st ≤ max (dpS x) (dpIn r)
            rcases List.mem_cons.mp h with z | z
            · rw [z]; exact Nat.le_max_left _ _
            · exact Nat.le_trans (ih z) (Nat.le_max_right _ _)
        have := go mst
        omega
      have et : linB (n + 1) ind (b.take (i + 1)) = linB (n + 1) ind (b.take i) ++ linS (n + 1) ind st := by
        unfold linB
        rw [take_snoc hst, List.flatMap_append, List.flatMap_cons, List.flatMap_nil, List.append_nil]
      have lt : (linB (n + 1) ind (b.take i)).length + (linS (n + 1) ind st).length ≤ 5 * szB b := by
        have : linB (n + 1) ind b = linB (n + 1) ind (b.take (i + 1)) ++ linB (n + 1) ind (b.drop (i + 1)) := by
          unfold linB
          rw [← List.flatMap_append, List.take_append_drop]
        have c := congrArg List.length this
        rw [List.length_append, et, List.length_append] at c
        omega
      refine ⟨_, rfl, .inl ⟨rfl, _, SqL.of eX⟩, _, rfl, _, rfl, x, ind, st, rfl, dst.same s3, gL_mem g mst, dps, Nat.le_trans (szS_mem mst) hz, by omega, fun q H4 s4 nq eq => ?_⟩
      refine ⟨X, q, _, _, rfl, rfl, s4 _ _ eX, eq, by rw [List.length_map, List.length_map, e24]; omega, fun c o z => ?_, _, rfl, ?_⟩
      · rw [upd_ne (ne_of_none z hX)]
        exact s4 _ _ (s3 _ _ z)
      · rw [upd_same, et, List.map_append]
    · rintro σ H2 ⟨s3, x3, rfl, eX⟩
      rw [lx, List.take_length] at eX
      exact ⟨_, rfl, k X H2 s3 hX eX⟩
theorem ok_ShLns {fb fs : Addr} {db ds : FuncData} (FB : Fun K "block_lines" "block_lines" sShBll fb db) (FS : Fun K "statement_lines" "statement_lines" sShStl fs ds) (T : TxEnu mg) (mb : mg "block_lines" = some (.ref fb)) (kb : PySem.W.keepIn K (.ref fb) = true) (bb : Binds K db PShBll []) (ms : mg "statement_lines" = some (.ref fs)) (ks : PySem.W.keepIn K (.ref fs) = true) (bs : Binds K ds PShStl [])
    (GH : Has P w K mg base CX0 5 "headed_blocks" PShHdb (spShH K)) (GS : Has P w K mg base CX0 5 "simple_line" PShSim (spShS K)) : ∀ n, FnOk P w K mg base CX0 (7 + 2 * n) fb db PShBll (spLnB K n) := by
  intro n
  induction n with
  | zero => exact ⟨fun vs H Q E h => by obtain ⟨_, _, _, _, _, _, h, _⟩ := h; exact (no_dp h).elim, fun _ _ _ _ _ _ _ _ _ _ _ _ _ h => by obtain ⟨_, _, _, _, _, _, h, _⟩ := h; exact (no_dp h).elim⟩
  | succ n ih =>
    have GB : Has P w K mg base CX0 (7 + 2 * n) "block_lines" PShBll (spLnB K n) := ⟨fb, db, ih, mb, kb, bb⟩
    have r := ok_ShBll FB ⟨fs, ds, ok_ShStl FS T GH GS GB, ms, ks, bs⟩
    rw [show 7 + 2 * n + 1 + 1 = 7 + 2 * (n + 1) by omega] at r
    exact r
end

/-! ### k03: function_lines, show -/
abbrev sShFnl : Stmt := topS 9
abbrev NShFnl : List Str := ["function", "name", "params", "block", "words", "word", "by_place"]
abbrev PShFnl : List Str := ["function"]
theorem scShFnl : FnScope NShFnl PShFnl (defScope sShFnl) := ⟨rfl, rfl, rfl, by decide +kernel, rfl, by decide +kernel, by decide +kernel⟩
abbrev sShTree : Stmt := topS 10
abbrev NShTree : List Str := ["tree", "names", "kinds", "keeps", "functions", "lines", "keep", "function", "line"]
abbrev PShTree : List Str := ["tree"]
theorem scShTree : FnScope NShTree PShTree (defScope sShTree) := ⟨rfl, rfl, rfl, by decide +kernel, rfl, by decide +kernel, by decide +kernel⟩
theorem par_len {p : Str × Bool} (h : GN p.1) : (parS p).length ≤ 4 := by
  have l : ("&" : Str).length = 1 := by decide +kernel
  have := h.2
  unfold parS
  split
  · rw [len_add, l]; omega
  · omega
theorem pars_sum {ps : List (Str × Bool)} (h : ps.length ≤ 2 ∧ ∀ p ∈ ps, GN p.1) : ((ps.map parS).map (·.length)).sum + (ps.map parS).length * (", " : Str).length ≤ 12 := by
  have hj := joins_len (ys := ps.map parS) (m := 4) fun y hy => by
    obtain ⟨p, hp, rfl⟩ := List.mem_map.mp hy
    exact par_len (h.2 p hp)
  have := h.1
  rw [List.length_map] at hj ⊢
  omega
def fnHead (f : Fn) : Str := "def " ++ f.name ++ "(" ++ Txt.join ", " (f.ps.map parS) ++ ") {"
theorem fnHead_len {f : Fn} (h1 : GN f.name) (h2 : f.ps.length ≤ 2 ∧ ∀ p ∈ f.ps, GN p.1) : (fnHead f).length ≤ 40 := by
  have l4 : ("def " : Str).length = 4 := by decide +kernel
  have l1 : ("(" : Str).length = 1 := by decide +kernel
  have l3 : (") {" : Str).length = 3 := by decide +kernel
  have := h1.2
  have h4 := join_len ", " (f.ps.map parS)
  have h5 := pars_sum h2
  unfold fnHead
  rw [len_add, len_add, len_add, len_add, l4, l1, l3]
  omega
theorem row_len {ns : List Str} (h : ns.length ≤ 2 ∧ ∀ x ∈ ns, GN x) : (ns.map (·.length)).sum + ns.length * (" " : Str).length ≤ 8 := by
  have l : (" " : Str).length = 1 := by decide +kernel
  have := sum_len (ys := ns) (n := 3) fun y hy => (h.2 y hy).2
  have := h.1
  rw [l]
  omega
theorem tree_str {n : Nat} {t : Tr} (g : GT n t) (hn : n ≤ 30) : ∀ l ∈ treeL n t, l.length ≤ 600 := by
  intro l hl
  have g8 : ("globals " : Str).length = 8 := by decide +kernel
  have k6 : ("kinds " : Str).length = 6 := by decide +kernel
  have k5 : ("keep " : Str).length = 5 := by decide +kernel
  have c1 : ("}" : Str).length = 1 := by decide +kernel
  unfold treeL rowL at hl
  rcases List.mem_append.mp hl with hl | hl
  · split at hl
    · cases hl
    · rw [List.mem_singleton.mp hl, len_add, g8]
      have := join_len " " t.names
      have := row_len g.nm
      omega
  rcases List.mem_append.mp hl with hl | hl
  · split at hl
    · cases hl
    · rw [List.mem_singleton.mp hl, len_add, k6]
      have := join_len " " t.kinds
      have := row_len g.kd
      omega
  rcases List.mem_append.mp hl with hl | hl
  · obtain ⟨e, he, rfl⟩ := List.mem_map.mp hl
    rw [len_add, k5]
    have := expr_len (g.kp.2 e he)
    omega
  obtain ⟨f, hf, hl⟩ := List.mem_flatMap.mp hl
  have gf := g.fn.2 f hf
  rcases List.mem_cons.mp (show l ∈ fnHead f :: (linB n "  " f.b ++ [("}" : Str)]) from hl) with rfl | hl
  · exact Nat.le_trans (fnHead_len gf.1 gf.2.1) (by decide)
  rcases List.mem_append.mp hl with hl | hl
  · obtain ⟨s, hs, hl⟩ := List.mem_flatMap.mp hl
    exact lin_str n (gL_mem gf.2.2.1 hs) (by rw [two_len]; omega) l hl
  · rw [List.mem_singleton.mp hl, c1]
    decide
theorem fns_cnt {n : Nat} : ∀ l : List Fn, (∀ f ∈ l, gL f.b) → (l.flatMap (fnL n)).length ≤ 2 * l.length + 5 * (l.map fun f => szB f.b).sum
  | [], _ => Nat.zero_le _
  | f :: r, h => by
    have ih := fns_cnt (n := n) r fun x hx => h x (List.mem_cons_of_mem _ hx)
    have h1 := linB_cnt (n := n) (ind := "  ") (h f List.mem_cons_self)
    rw [List.flatMap_cons, List.length_append, List.map_cons, List.sum_cons, List.length_cons]
    have : (fnL n f).length = (linB n "  " f.b).length + 1 + 1 := by
      show (fnHead f :: (linB n "  " f.b ++ [("}" : Str)])).length = _
      rw [List.length_cons, List.length_append]
      rfl
    omega
theorem tree_cnt {n : Nat} {t : Tr} (g : GT n t) : (treeL n t).length ≤ 200 := by
  have h1 := fns_cnt (n := n) t.fns fun f hf => (g.fn.2 f hf).2.2.1
  have := g.sz
  have := g.fn.1
  have := g.kp.1
  have r : ∀ z ns, (rowL z ns).length ≤ 1 := fun z ns => by
    unfold rowL
    split
    · exact Nat.zero_le _
    · exact Nat.le_refl _
  have := r "globals " t.names
  have := r "kinds " t.kinds
  unfold treeL
  rw [List.length_append, List.length_append, List.length_append, List.length_map]
  omega
theorem text_len {n : Nat} {t : Tr} (g : GT n t) (hn : n ≤ 30) : (((treeL n t).map fun l => l ++ ("\n" : Str)).map (·.length)).sum + ((treeL n t).map fun l => l ++ ("\n" : Str)).length * ("" : Str).length ≤ 121000 ∧ (textS n t).length ≤ 121000 := by
  have l1 : ("\n" : Str).length = 1 := by decide +kernel
  have l0 : ("" : Str).length = 0 := by decide +kernel
  have hs := sum_len (ys := (treeL n t).map fun l => l ++ ("\n" : Str)) (n := 601) fun y hy => by
    obtain ⟨l, hl, rfl⟩ := List.mem_map.mp hy
    rw [len_add, l1]
    have := tree_str g hn l hl
    omega
  have hc := tree_cnt g
  have hj := join_len "" ((treeL n t).map fun l => l ++ ("\n" : Str))
  rw [List.length_map] at hs
  have : (treeL n t).length * 601 ≤ 200 * 601 := Nat.mul_le_mul_right _ hc
  refine ⟨?_, ?_⟩
  · rw [l0]
    omega
  · unfold textS
    rw [l0] at hj
    omega
def spFnL (K : PySem.W.Frag) (n : Nat) : Sp := fun vs H Q _ => ∃ (v : V) (f : Fn), vs = [v] ∧ Dp K H v (fnD f) ∧ GN f.name ∧ (f.ps.length ≤ 2 ∧ ∀ p ∈ f.ps, GN p.1) ∧ gL f.b ∧ dpB f.b ≤ n ∧ szB f.b ≤ 900 ∧ n ≤ 30 ∧ ∀ (p : Addr) (H' : Hp), Same H H' → H p = none → H' p = some (.lst ((fnL n f).map V.str)) → Q (.ref p) H'
def spShT (K : PySem.W.Frag) (n : Nat) : Sp := fun vs H Q _ => ∃ (v : V) (t : Tr), vs = [v] ∧ Dp K H v (trD t) ∧ GT n t ∧ n ≤ 30 ∧ ∀ H', Same H H' → Q (.str (textS n t)) H'
section
variable {P : Program} {w : World} {K : PySem.W.Frag} {mg : Str → Option Value} {base : Heap} {C : Addr}
theorem ok_ShFnl {n : Nat} {f : Addr} {fd : FuncData} (F : Fun K "function_lines" "function_lines" sShFnl f fd) (GB : Has P w K mg base CX0 (7 + 2 * n) "block_lines" PShBll (spLnB K n)) : FnOk P w K mg base CX0 (7 + 2 * n + 1) f fd PShFnl (spFnL K n) := by
  refine F.ok scShFnl (fun vs H Q E h => ?_) (fun cdv A outer s H vs Q E hr h => ?_)
  · obtain ⟨v, fn, rfl, _⟩ := h
    rfl
  · obtain ⟨v, fn, rfl, hv, g1, g2, g3, hdp, hz, hn, k⟩ := h
    refine ⟨_, (pss_cons (ps_asg (pv 0) (pg_tup (by rfl) (pgs_cons (pg_name (i := 1) scShFnl.nd rfl (Or.inl rfl)) (pgs_cons (pg_name (i := 2) scShFnl.nd rfl (Or.inl rfl)) (pgs_cons (pg_name (i := 3) scShFnl.nd rfl (Or.inl rfl)) pgs_nil)))))
  (pss_cons (ps_setLc (i := 4) (own := [("word", 5), ("by_place", 6)]) (g := gTup K 2 (gCons (gName 5) (gCons (gName 6) gNil))) (tt := tYes) rfl scShFnl.nd rfl rfl (sw_true rfl rfl rfl (by decide +kernel)) (pi_tup (pv 2)) (blkOk_by (own := [("word", 5), ("by_place", 6)]) (N := NShFnl) (sc := (defScope sShFnl)) (by decide +kernel)) (fun _ _ _ _ _ => (pg_tup (by rfl) (pgs_cons (pg_name (i := 5) scShFnl.nd rfl (Or.inl rfl)) (pgs_cons (pg_name (i := 6) scShFnl.nd rfl (Or.inl rfl)) pgs_nil)))) (fun _ _ _ _ _ => pts_nil) (fun _ _ _ _ _ => (pe_ifExp (pt_val (pv 6)) (pe_op op_add_str pe_str (pv 5)) (pv 5))))
  (pss_one (ps_ret (pe_op op_cat (pe_op op_cat (pe_lst (pa_cons (pe_op op_add_str (pe_op op_add_str (pe_op op_add_str (pe_op op_add_str pe_str (pv 1)) pe_str) (pe_join pe_str (pv 4))) pe_str) pa_nil)) (pe_callH GB hr rfl pass0 (pa_cons (pv 3) (pa_cons pe_str pa_nil)))) (pe_lst (pa_cons pe_str pa_nil))))))), ?_⟩
    have e24 : sizeLine = 2 ^ 24 := rfl
    have l4 : ("def " : Str).length = 4 := by decide +kernel
    have l1 : ("(" : Str).length = 1 := by decide +kernel
    have l3 : (") {" : Str).length = 3 := by decide +kernel
    have la : ("&" : Str).length = 1 := by decide +kernel
    have hv : Dp K H v (.tuple [.str fn.name, .tuple (fn.ps.map prD), blD fn.b]) := hv
    obtain ⟨a, xs, rfl, hq, hd⟩ := hv.tupInv
    obtain ⟨x, y, z, rfl, h1, h2, h3⟩ := hd.three
    rw [h1.strInv] at hq
    obtain ⟨b, ys, rfl, hb, hbd⟩ := h2.tupInv
    have px := DpAll.map (f := prD) hbd
    have lx := Paired.length px
    have lp := g2.1
    have hsum := pars_sum g2
    have hjn := join_len ", " (fn.ps.map parS)
    have lnm := g1.2
    refine ⟨_, rfl, a, _, rfl, hq, rfl, _, _, rfl, _, _, rfl, _, _, rfl, rfl, ?_⟩
    refine ⟨_, rfl, b, rfl, ⟨_, hb⟩, fun D hD => ?_⟩
    refine lc_map (walk_tup (K := K) (a := b) (xs := ys)) (fun i => V.str ((fn.ps.map parS).getD i "")) hD (by omega) (fun H' s' => SqT.same s' hb) ?_ ?_
    · rintro i u H1 H2 k1 hi s1 ⟨rfl, hu⟩ kk
      obtain ⟨pr, hpr, dpr⟩ := Paired.at px hu
      have dpr : Dp K H u (.tuple [.str pr.1, .bool pr.2]) := dpr
      obtain ⟨c, zs, rfl, hc, hcd⟩ := dpr.tupInv
      obtain ⟨m1, m2, rfl, dm1, dm2⟩ := hcd.two
      rw [dm1.strInv, Dp.blInv dm2] at hc
      have gpr := (g2.2 pr (List.mem_of_getElem? hpr)).2
      have e : (fn.ps.map parS).getD i "" = parS pr := by
        rw [List.getD_eq_getElem?_getD, List.getElem?_map, hpr]
        rfl
      rw [e] at kk
      refine ⟨c, _, rfl, SqT.same s1 hc, rfl, _, _, rfl, _, _, rfl, rfl, rfl, ?_⟩
      refine ⟨_, rfl, pr.2, rfl, ?_⟩
      cases hb2 : pr.2 with
      | true =>
        refine iteS rfl ⟨_, rfl, _, _, rfl, rfl, by rw [la, e24]; omega, ?_⟩
        have := kk _ (Same.refl _)
        unfold parS at this
        rw [hb2, if_pos rfl] at this
        exact this
      | false =>
        refine iteE rfl ⟨_, rfl, ?_⟩
        have := kk _ (Same.refl _)
        unfold parS at this
        rw [hb2, if_neg Bool.false_ne_true] at this
        exact this
    · intro H1 s1 eD
      have eD : H1 D = some (.lst ((fn.ps.map parS).map V.str)) := by
        rw [eD, lx]
        congr 2
        rw [range_map fn.ps (fun p => V.str (parS p)) _ fun i x hx => by
          show V.str ((fn.ps.map parS).getD i "") = _
          rw [List.getD_eq_getElem?_getD, List.getElem?_map, hx]
          rfl, List.map_map]
        rfl
      refine ⟨_, rfl, _, _, rfl, rfl, by rw [l4, e24]; omega, _, _, rfl, rfl, by rw [len_add, l4, l1, e24]; omega, ⟨_, rfl⟩, _, rfl, _, D, fn.ps.map parS, rfl, rfl, .inl (SqL.of eD), by omega, _, _, rfl, rfl, by rw [len_add, len_add, l4, l1, e24]; omega, _, _, rfl, rfl, by rw [len_add, len_add, len_add, l4, l1, l3, e24]; omega, ?_⟩
      refine ⟨(by show 1 ≤ sizeLine; decide), fun p hp => ?_⟩
      have s2 := same_new (o := .lst [V.str (fnHead fn)]) hp
      have np : H p = none := none_same s1 hp
      have hlb := linB_cnt (n := n) (ind := "  ") g3
      refine ⟨_, rfl, z, "  ", fn.b, rfl, (h3.same s1).same s2, g3, hdp, hz, by rw [two_len]; omega, fun q H3 s3 nq eq => ?_⟩
      have ep3 := s3 _ _ (upd_same (H := H1) (a := p) (o := .lst [V.str (fnHead fn)]))
      refine ⟨p, q, _, _, rfl, rfl, ep3, eq, by rw [List.length_map, e24]; show 1 + _ ≤ _; omega, fun M hM => ⟨(by show 1 ≤ sizeLine; decide), fun u hu => ?_⟩⟩
      have s4 := same_new (o := .lst ([V.str (fnHead fn)] ++ (linB n "  " fn.b).map V.str)) hM
      have s5 := same_new (o := .lst [V.str "}"]) hu
      refine ⟨M, u, _, _, rfl, rfl, s5 _ _ upd_same, upd_same, by rw [List.length_append, List.length_map, e24]; show 1 + _ + 1 ≤ _; omega, fun R hR => ?_⟩
      have s15 := (((s1.trans s2).trans s3).trans s4).trans s5
      have s6 := same_new (o := .lst (([V.str (fnHead fn)] ++ (linB n "  " fn.b).map V.str) ++ [V.str "}"])) hR
      refine k R _ (s15.trans s6) (none_same s15 hR) ?_
      rw [upd_same]
      show _ = some (HO.lst ((fnHead fn :: (linB n "  " fn.b ++ [("}" : Str)])).map V.str))
      rw [List.map_cons, List.map_append]
      rfl
theorem row_step {K : PySem.W.Frag} {z : Str} {ns : List Str} (e : ns.isEmpty = false) : rowL z ns = [z ++ Txt.join " " ns] := if_neg (by rw [e]; exact Bool.false_ne_true)
theorem ok_ShTree {n : Nat} {f : Addr} {fd : FuncData} (F : Fun K "show" "show" sShTree f fd) (GX : Has P w K mg base CX0 2 "show_expression" PShExpr (spShExpr K)) (GF : Has P w K mg base CX0 (7 + 2 * n + 1) "function_lines" PShFnl (spFnL K n)) : FnOk P w K mg base CX0 (7 + 2 * n + 1 + 1) f fd PShTree (spShT K n) := by
  refine F.ok scShTree (fun vs H Q E h => ?_) (fun cdv A outer s H vs Q E hr h => ?_)
  · obtain ⟨v, t, rfl, _⟩ := h
    rfl
  · obtain ⟨v, t, rfl, hv, g, hn, k⟩ := h
    have hr2 := hr.mono (j := 2) (by omega)
    refine ⟨_, (pss_cons (ps_asg (pv 0) (pg_tup (by rfl) (pgs_cons (pg_name (i := 1) scShTree.nd rfl (Or.inl rfl)) (pgs_cons (pg_name (i := 2) scShTree.nd rfl (Or.inl rfl)) (pgs_cons (pg_name (i := 3) scShTree.nd rfl (Or.inl rfl)) (pgs_cons (pg_name (i := 4) scShTree.nd rfl (Or.inl rfl)) pgs_nil))))))
  (pss_cons (ps_set (i := 5) scShTree.nd rfl (Or.inl rfl) (pe_lst pa_nil))
  (C8.pss_cut (ps_if (pt_truth (pv 1) (by intro _; rfl))
  (pss_one (ps_expr (pe_bm PySem.F.plainAttrs_list PySem.F.slot_list_append PySem.F.type_list_append mt_append (pv 5) (pa_cons (pe_op op_add_str pe_str (pe_join pe_str (pv 1))) pa_nil))))
  pss_nil)
  (C8.pss_cut (ps_if (pt_truth (pv 2) (by intro _; rfl))
  (pss_one (ps_expr (pe_bm PySem.F.plainAttrs_list PySem.F.slot_list_append PySem.F.type_list_append mt_append (pv 5) (pa_cons (pe_op op_add_str pe_str (pe_join pe_str (pv 2))) pa_nil))))
  pss_nil)
  (pss_cons (ps_expr (pe_bm PySem.F.plainAttrs_list PySem.F.slot_list_extend PySem.F.type_list_extend mt_extend (pv 5) (pa_cons (pe_lc (own := [("keep", 6)]) (g := gName 6) (tt := tYes) rfl scShTree.nd (pi_tup (pv 3)) (blkOk_by (own := [("keep", 6)]) (N := NShTree) (sc := (defScope sShTree)) (by decide +kernel)) (fun _ _ _ _ _ => (pg_name (i := 6) scShTree.nd rfl (Or.inl rfl))) (fun _ _ _ _ _ => pts_nil) (fun _ _ _ _ _ => (pe_op op_add_str pe_str (pe_callH GX hr2 rfl pass0 (pa_cons (pv 6) pa_nil))))) pa_nil)))
  (pss_cons (ps_for PassesOwn.never rfl (pi_tup (pv 4)) (pg_name (i := 7) scShTree.nd rfl (Or.inl rfl))
  (pss_one (ps_expr (pe_bm PySem.F.plainAttrs_list PySem.F.slot_list_extend PySem.F.type_list_extend mt_extend (pv 5) (pa_cons (pe_callH GF hr rfl pass0 (pa_cons (pv 7) pa_nil)) pa_nil)))))
  (pss_one (ps_ret (pe_join pe_str (pe_lc (own := [("line", 8)]) (g := gName 8) (tt := tYes) rfl scShTree.nd (pi_list (pv 5)) (blkOk_by (own := [("line", 8)]) (N := NShTree) (sc := (defScope sShTree)) (by decide +kernel)) (fun _ _ _ _ _ => (pg_name (i := 8) scShTree.nd rfl (Or.inl rfl))) (fun _ _ _ _ _ => pts_nil) (fun _ _ _ _ _ => (pe_op op_add_str (pv 8) pe_str)))))))))))), ?_⟩
    have e24 : sizeLine = 2 ^ 24 := rfl
    have lg : ("globals " : Str).length = 8 := by decide +kernel
    have lk6 : ("kinds " : Str).length = 6 := by decide +kernel
    have lk : ("keep " : Str).length = 5 := by decide +kernel
    have lnl : ("\n" : Str).length = 1 := by decide +kernel
    have hcnt := tree_cnt g
    have htx := text_len g hn
    have hstr := tree_str g hn
    have hv : Dp K H v (.tuple [nmD t.names, nmD t.kinds, .tuple (t.keeps.map exD), .tuple (t.fns.map fnD)]) := hv
    obtain ⟨a, xs, rfl, hq, hd⟩ := hv.tupInv
    obtain ⟨x0, x1, x2, x3, rfl, d0, d1, d2, d3⟩ := hd.four
    obtain ⟨na, rfl, hna⟩ := nm_inv d0
    obtain ⟨ka, rfl, hka⟩ := nm_inv d1
    obtain ⟨pa, ps, rfl, hpa, hpd⟩ := d2.tupInv
    obtain ⟨fa, fs, rfl, hfa, hfd⟩ := d3.tupInv
    have pp := DpAll.map (f := exD) hpd
    have pf := DpAll.map (f := fnD) hfd
    have lp := Paired.length pp
    have lf := Paired.length pf
    have lkeep := g.kp.1
    have lfns := g.fn.1
    refine ⟨_, rfl, a, _, rfl, hq, rfl, _, _, rfl, _, _, rfl, _, _, rfl, _, _, rfl, rfl, ⟨(by show 0 ≤ sizeLine; decide), fun X hX => ?_⟩⟩
    have s1 := same_new (o := .lst []) hX
    have em : ∀ ns : List Str, (ns.map V.str).isEmpty = ns.isEmpty := fun ns => by cases ns <;> rfl
    -- what may be put behind the lines
    have put : ∀ {H' : Hp} {Ls : List Str} {o : HO}, Same H H' → Same H (upd H' X o) := fun s' b o z => by
      rw [upd_ne (ne_of_none z hX)]
      exact s' _ _ z
    refine ⟨fun σ H' => σ = [some (.ref a), some (.ref na), some (.ref ka), some (.ref pa), some (.ref fa), some (.ref X), none, none, none] ∧ Same H H' ∧ H' X = some (.lst ((rowL "globals " t.names).map V.str)), ?_, ?_⟩
    · have hrw := row_len g.nm
      have hjn := join_len " " t.names
      refine ⟨_, rfl, _, .inr (.inl ⟨_, SqT.same s1 hna, rfl⟩), ?_⟩
      by_cases hE : t.names.isEmpty = true
      · refine iteE (by rw [em, hE]; rfl) ?_
        refine ⟨rfl, s1, ?_⟩
        rw [upd_same, show rowL "globals " t.names = [] from if_pos hE]
        rfl
      · have hE := Bool.eq_false_iff.mpr hE
        refine iteS (by rw [em, hE]; rfl) ?_
        refine ⟨_, rfl, .inl ⟨rfl, _, SqL.of upd_same⟩, ⟨_, rfl⟩, _, rfl, _, na, t.names, rfl, rfl, .inr (SqT.same s1 hna), by omega, _, _, rfl, rfl, by rw [lg, e24]; omega, X, _, _, rfl, rfl, upd_same, small10 (by show 0 ≤ 10000; decide), rfl, put (Ls := []) s1, ?_⟩
        rw [upd_same, row_step (K := K) hE]
        rfl
    rintro σ H1 ⟨rfl, s2, eX1⟩
    refine ⟨fun σ H' => σ = [some (.ref a), some (.ref na), some (.ref ka), some (.ref pa), some (.ref fa), some (.ref X), none, none, none] ∧ Same H H' ∧ H' X = some (.lst ((rowL "globals " t.names ++ rowL "kinds " t.kinds).map V.str)), ?_, ?_⟩
    · have hrw := row_len g.kd
      have hjn := join_len " " t.kinds
      refine ⟨_, rfl, _, .inr (.inl ⟨_, SqT.same s2 hka, rfl⟩), ?_⟩
      by_cases hE : t.kinds.isEmpty = true
      · refine iteE (by rw [em, hE]; rfl) ?_
        refine ⟨rfl, s2, ?_⟩
        rw [eX1, show rowL "kinds " t.kinds = [] from if_pos hE, List.append_nil]
      · have hE := Bool.eq_false_iff.mpr hE
        refine iteS (by rw [em, hE]; rfl) ?_
        have l1 : (rowL "globals " t.names).length ≤ 1 := by
          unfold rowL
          split
          · exact Nat.zero_le _
          · exact Nat.le_refl _
        refine ⟨_, rfl, .inl ⟨rfl, _, SqL.of eX1⟩, ⟨_, rfl⟩, _, rfl, _, ka, t.kinds, rfl, rfl, .inr (SqT.same s2 hka), by omega, _, _, rfl, rfl, by rw [lk6, e24]; omega, X, _, _, rfl, rfl, eX1, small10 (by rw [List.length_map]; omega), rfl, put (Ls := []) s2, ?_⟩
        rw [upd_same, row_step (K := K) (z := "kinds ") hE, List.map_append]
        rfl
    rintro σ H2 ⟨rfl, s3, eX2⟩
    have htl : (treeL n t).length = (rowL "globals " t.names ++ rowL "kinds " t.kinds).length + (t.keeps.length + (t.fns.flatMap (fnL n)).length) := by
      unfold treeL
      simp only [List.length_append, List.length_map]
      omega
    refine ⟨_, rfl, .inl ⟨rfl, _, SqL.of eX2⟩, _, rfl, pa, rfl, ⟨_, SqT.same s3 hpa⟩, fun D hD => ?_⟩
    refine lc_map (walk_tup (K := K) (a := pa) (xs := ps)) (fun i => V.str ((t.keeps.map fun e => "keep " ++ exprS e.c e.ts).getD i "")) hD (by omega) (fun H' s' => SqT.same (s3.trans s') hpa) ?_ ?_
    · rintro i u H4 H5 k1 hi s4 ⟨rfl, hu⟩ kk
      obtain ⟨e, he, de⟩ := Paired.at pp hu
      have ge := g.kp.2 e (List.mem_of_getElem? he)
      obtain ⟨q, rfl, hx⟩ := ex_D (de.same (s3.trans s4))
      have le := expr_len ge
      have ee : (t.keeps.map fun e => "keep " ++ exprS e.c e.ts).getD i "" = "keep " ++ exprS e.c e.ts := by
        rw [List.getD_eq_getElem?_getD, List.getElem?_map, he]
        rfl
      rw [ee] at kk
      refine ⟨rfl, _, rfl, q, e.c, e.ts, rfl, hx, (GE.fac ge).1, (GE.fac ge).2, fun H6 s6 => ⟨_, _, rfl, rfl, by rw [lk, e24]; omega, kk _ s6⟩⟩
    · intro H4 s4 eD
      have eD : H4 D = some (.lst ((t.keeps.map fun e => "keep " ++ exprS e.c e.ts).map V.str)) := by
        rw [eD, lp]
        congr 2
        rw [range_map t.keeps (fun e => V.str ("keep " ++ exprS e.c e.ts)) _ fun i x hx => by
          show V.str ((t.keeps.map _).getD i "") = _
          rw [List.getD_eq_getElem?_getD, List.getElem?_map, hx]
          rfl, List.map_map]
        rfl
      have s34 := s3.trans s4
      refine ⟨X, D, _, _, rfl, rfl, s4 _ _ eX2, eD, by rw [List.length_map, List.length_map, List.length_map, e24]; omega, ?_⟩
      have s5 : Same H (upd H4 X (.lst ((rowL "globals " t.names ++ rowL "kinds " t.kinds).map V.str ++ (t.keeps.map fun e => "keep " ++ exprS e.c e.ts).map V.str))) := put (Ls := []) s34
      have eX5 : upd H4 X (.lst ((rowL "globals " t.names ++ rowL "kinds " t.kinds).map V.str ++ (t.keeps.map fun e => "keep " ++ exprS e.c e.ts).map V.str)) X = some (.lst ((rowL "globals " t.names ++ rowL "kinds " t.kinds ++ t.keeps.map fun e => "keep " ++ exprS e.c e.ts).map V.str)) := by
        rw [upd_same]
        simp only [List.map_append]
      generalize upd H4 X (.lst ((rowL "globals " t.names ++ rowL "kinds " t.kinds).map V.str ++ (t.keeps.map fun e => "keep " ++ exprS e.c e.ts).map V.str)) = H5 at *
      generalize eR : rowL "globals " t.names ++ rowL "kinds " t.kinds ++ t.keeps.map (fun e => "keep " ++ exprS e.c e.ts) = R at *
      have htl2 : treeL n t = R ++ t.fns.flatMap (fnL n) := by
        rw [← eR]
        unfold treeL
        simp only [List.append_assoc]
      refine ⟨_, rfl, fa, rfl, ⟨_, SqT.same s5 hfa⟩, for_it (walk_tup (K := K) (a := fa) (xs := fs)) (fun i σ H' => Same H H' ∧ ∃ x6 x7 x8 : Option V, σ = [some (.ref a), some (.ref na), some (.ref ka), some (.ref pa), some (.ref fa), some (.ref X), x6, x7, x8] ∧ H' X = some (.lst ((R ++ (t.fns.take i).flatMap (fnL n)).map V.str))) ⟨s5, _, _, _, rfl, by rw [eX5, List.take_zero, List.flatMap_nil, List.append_nil]⟩ (fun i σ H' _ h' => SqT.same h'.1 hfa) ?_ ?_⟩
      · rintro i x σ H6 H7 hil ⟨s6, x6, x7, x8, rfl, eX6⟩ ⟨rfl, hx⟩
        obtain ⟨fn, hfn, dfn⟩ := Paired.at pf hx
        have mfn := List.mem_of_getElem? hfn
        have gfn := g.fn.2 fn mfn
        have szj : szB fn.b ≤ 900 := by
          have := sum_mem (l := t.fns.map fun f => szB f.b) (List.mem_map.mpr ⟨fn, mfn, rfl⟩)
          have := g.sz
          omega
        have et : R ++ (t.fns.take (i + 1)).flatMap (fnL n) = (R ++ (t.fns.take i).flatMap (fnL n)) ++ fnL n fn := by
          rw [take_snoc hfn, List.flatMap_append, List.flatMap_cons, List.flatMap_nil, List.append_nil, List.append_assoc]
        have lt : (R ++ (t.fns.take i).flatMap (fnL n)).length + (fnL n fn).length ≤ 200 := by
          have : treeL n t = (R ++ (t.fns.take (i + 1)).flatMap (fnL n)) ++ (t.fns.drop (i + 1)).flatMap (fnL n) := by
            rw [htl2, List.append_assoc, ← List.flatMap_append, List.take_append_drop]
          have c := congrArg List.length this
          rw [List.length_append, et, List.length_append] at c
          omega
        refine ⟨_, rfl, .inl ⟨rfl, _, SqL.of eX6⟩, _, rfl, x, fn, rfl, dfn.same s6, gfn.1, gfn.2.1, gfn.2.2.1, gfn.2.2.2, szj, hn, fun q H8 s8 nq eq => ?_⟩
        refine ⟨X, q, _, _, rfl, rfl, s8 _ _ eX6, eq, by rw [List.length_map, List.length_map, e24]; omega, put (Ls := []) (s6.trans s8), _, _, _, rfl, ?_⟩
        rw [upd_same, et]
        simp only [List.map_append]
      · rintro σ H6 ⟨s6, x6, x7, x8, rfl, eX6⟩
        rw [lf, List.take_length, ← htl2] at eX6
        refine ⟨⟨_, rfl⟩, _, rfl, X, rfl, ⟨_, SqL.of eX6⟩, fun D2 hD2 => lc_map (walk_list (K := K) (a := X) (xs := (treeL n t).map V.str)) (fun i => V.str ((treeL n t).getD i "" ++ "\n")) hD2 (by rw [List.length_map]; omega) (fun H' s' => SqL.of (s' _ _ eX6)) ?_ ?_⟩
        · rintro i x H7 H8 k7 hi s7 ⟨rfl, hx⟩ kx
          rw [List.getElem?_map] at hx
          obtain ⟨l, hl, rfl⟩ : ∃ l, (treeL n t)[i]? = some l ∧ x = V.str l := by
            cases q : (treeL n t)[i]? with
            | none => rw [q] at hx; cases hx
            | some l => rw [q] at hx; exact ⟨l, rfl, (Option.some.inj hx).symm⟩
          have e : (treeL n t).getD i "" = l := by
            rw [List.getD_eq_getElem?_getD, hl]
            rfl
          rw [e] at kx
          have := hstr l (List.mem_of_getElem? hl)
          exact ⟨rfl, _, rfl, _, _, rfl, rfl, by rw [lnl, e24]; omega, kx _ (Same.refl _)⟩
        · intro H7 s7 eD2
          have eD2 : H7 D2 = some (.lst (((treeL n t).map fun l => l ++ ("\n" : Str)).map V.str)) := by
            rw [eD2, List.length_map]
            congr 2
            rw [range_map (treeL n t) (fun l => V.str (l ++ "\n")) _ fun i x hx => by
              show V.str ((treeL n t).getD i "" ++ "\n") = _
              rw [List.getD_eq_getElem?_getD, hx]
              rfl, List.map_map]
            rfl
          exact ⟨_, D2, (treeL n t).map fun l => l ++ ("\n" : Str), rfl, rfl, .inl (SqL.of eD2), Nat.le_trans htx.1 (by decide), k H7 (s6.trans s7)⟩
end

/-! ### xs[::-1] -/
section
variable {X : Cx} {e st : Expr} {te : TE} {ts : TO} {p2 pos : Pos}
def tSlB (K : PySem.W.Frag) (te : TE) (ts : TO) : TE := fun σ H Q => te σ H fun x H1 => ts σ H1 fun u H2 => u = some (-1) ∧ ∃ a xs, x = .ref a ∧ SqL K H2 a xs ∧ ∀ p, H2 p = none → Q (.ref p) (upd H2 p (.lst xs.reverse))
theorem pe_sliceB (he : PE X e te) (hs : PO X (some st) ts) : PE X (.Subscript e (.Slice none none (some st) p2) pos) (tSlB X.K te ts) := by
  refine ⟨fun pins s σ H Q I h => ?_⟩
  refine PyProof.Rows.Subscript_ (thn (he.run pins s σ H _ I h) fun v s1 ⟨x, H1, I1, r1, q1⟩ => ?_)
  refine wpAny_Slice ?_
  rw [evalPart_none]
  refine wpAny_pure (wpAny_pure (thn (hs.run pins s1 σ H1 _ I1 q1) fun vu s3 ⟨u, H3, I3, pu, q3⟩ => ?_))
  obtain ⟨rfl, a, xs, rfl, hx, q⟩ := q3
  obtain rfl : v = Value.ref a := r1
  have I4 : Inv X pins σ H3 { s3 with heap := s3.heap.push { cls := .type "slice", data := .fields #[.none, .none, vu] } } := I3.kept (t' := s3.toks) fun b ob q => Heap.get?_push_of_some _ q
  obtain ⟨its, r, ht, hz⟩ := I4.list hx
  have hlen := r.length
  show wpAny (model X.prog X.w) X.A (PyProof.Rows.subscriptTail e (.Slice none none (some st) p2) (.ref a) (.ref s3.heap.objs.size)) (EP X pins σ Q) X.xe { s3 with heap := s3.heap.push { cls := .type "slice", data := .fields #[.none, .none, vu] } }
  refine PyProof.Rows.tail_any (ops := [.ref a, .ref s3.heap.objs.size]) ht.isList.typeIs PySem.F.slot_list_getitem.lookup (wpAny_getItem_list_slice ht.isList (Heap.IsSliceOf.new ..) .none .none pu (by simp) ?_ (by rw [List.size_toArray]; omega)) (by with_unfolding_all rfl)
  rw [PySem.W.krv_pick]
  refine ⟨.ref _, _, I4.laid (t' := s3.toks) (o := .lst xs.reverse) (fun b ob q => Heap.get?_push_of_some _ q) (Nat.le_refl _) ?_, rfl, q _ (I4.hok.fresh (Nat.le_refl _))⟩
  exact ⟨by rw [List.length_reverse]; exact hz, _, 0, r.reverse, Heap.get?_push_size _ rfl⟩
end

/-! ### k03: _law_some -/
abbrev sLSo : Stmt := topS 37
abbrev NLSo : List Str := ["_law_pool_here", "_law_kinds"]
abbrev PLSo : List Str := ["_law_pool_here", "_law_kinds"]
theorem scLSo : FnScope NLSo PLSo (defScope sLSo) := ⟨rfl, rfl, rfl, by decide +kernel, rfl, by decide +kernel, by decide +kernel⟩
def spLSo (K : PySem.W.Frag) : Sp := fun vs H Q _ => ∃ (p c kl : Addr) (lim : V) (n : Nat) (kinds : List Str), vs = [.ref p, .ref kl] ∧ PoolAt H p c lim n ∧ n + 1 < 1000000000000 ∧ H kl = some (.lst (kinds.map V.str)) ∧ kl ≠ p ∧ kl ≠ c ∧ kinds ≠ [] ∧ kinds.length ≤ 2 ∧
  ∀ (t : Addr) (ks : List Str) (H' : Hp), SqT K H' t (ks.map V.str) → ks ≠ [] → ks.length ≤ 2 → (∀ k ∈ ks, k ∈ kinds) → PoolAt H' p c lim (n + 1) → But p c H H' → Q (.ref t) H'
section
variable {P : Program} {w : World} {K : PySem.W.Frag} {mg : Str → Option Value} {base : Heap}
theorem ok_LSo {f : Addr} {fd : FuncData} (F : Fun K "_law_some" "_law_some" sLSo f fd) (T : TxGen mg) (GD : Has P w K mg base CX0 2 "_law_draw" PDraw spDraw) : FnOk P w K mg base CX0 3 f fd PLSo (spLSo K) := by
  refine F.ok scLSo (fun vs H Q E h => ?_) (fun cdv A outer s H vs Q E hr h => ?_)
  · obtain ⟨p, c, kl, lim, n, kinds, rfl, _⟩ := h
    rfl
  · obtain ⟨p, c, kl, lim, n, kinds, rfl, P0, hn, ek, n1, n2, k0, k2, k⟩ := h
    refine ⟨_, (pss_one (ps_ret (pe_ix (r := rIxL K) ix_list (pe_lst (pa_cons (pe_tup (pa_cons (pe_ix (r := rIxL K) ix_list (pv 1) pe_int (fun _ _ => rfl)) pa_nil)) (pa_cons (pe_tup (pa_cons (pe_ix (r := rIxL K) ix_list (pv 1) (pe_un un_neg pe_int) (fun _ _ => rfl)) pa_nil)) (pa_cons (pe_callTy call_tuple_of (by rfl) T.n_tuple bb_tuple (pa_cons (pv 1) pa_nil)) (pa_cons (pe_callTy call_tuple_of (by rfl) T.n_tuple bb_tuple (pa_cons (pe_sliceB (pv 1) (po_some (pe_un un_neg pe_int))) pa_nil)) pa_nil))))) (pe_callH GD hr rfl pass0 (pa_cons (pv 0) (pa_cons pe_int pa_nil))) (fun _ _ => rfl)))), ?_⟩
    obtain ⟨a, l, rfl⟩ : ∃ a l, kinds = a :: l := by
      cases kinds with
      | nil => exact absurd rfl k0
      | cons a l => exact ⟨a, l, rfl⟩
    have ll : l.length ≤ 1 := by have : l.length + 1 ≤ 2 := k2; omega
    obtain ⟨z, hz, mz⟩ : ∃ z, atI ((a :: l).map V.str) (-1) = some (V.str z) ∧ z ∈ a :: l := by
      cases l with
      | nil => exact ⟨a, rfl, List.mem_cons_self⟩
      | cons b r =>
        cases r with
        | nil => exact ⟨b, rfl, by simp⟩
        | cons _ _ => exact absurd ll (by show ¬ _ + 1 + 1 ≤ 1; omega)
    refine ⟨_, rfl, kl, _, _, _, rfl, rfl, SqL.of ek, atI_nat (j := 0) rfl, (by show 1 ≤ sizeLine; decide), fun t1 ht1 => ?_⟩
    have s1 := same_new (o := .tup [V.str a]) ht1
    refine ⟨_, rfl, _, rfl, kl, _, _, _, rfl, rfl, SqL.of (s1 _ _ ek), hz, (by show 1 ≤ sizeLine; decide), fun t2 ht2 => ?_⟩
    have s2 := s1.trans (same_new (o := .tup [V.str z]) ht2)
    refine ⟨_, rfl, kl, _, rfl, .inl ⟨SqL.of (s2 _ _ ek), fun t3 ht3 => ?_⟩⟩
    have s3 := s2.trans (same_new (o := .tup ((a :: l).map V.str)) ht3)
    refine ⟨_, rfl, _, rfl, _, rfl, rfl, kl, _, rfl, SqL.of (s3 _ _ ek), fun q hq => ?_⟩
    have s4 := s3.trans (same_new (o := .lst ((a :: l).map V.str).reverse) hq)
    refine ⟨q, _, rfl, .inl ⟨SqL.of upd_same, fun t4 ht4 => ?_⟩⟩
    have s5 := s4.trans (same_new (o := .tup ((a :: l).map V.str).reverse) ht4)
    refine ⟨(by show 4 ≤ sizeLine; decide), fun M hM => ?_⟩
    have sM := same_new (o := .lst [V.ref t1, V.ref t2, V.ref t3, V.ref t4]) hM
    have q1 : ∀ {H'}, Same (upd H t1 (.tup [V.str a])) H' → SqT K H' t1 ([a].map V.str) := fun s => SqT.same s (SqT.of upd_same)
    have e4 : SqT K (upd (upd (upd (upd (upd (upd H t1 (.tup [V.str a])) t2 (.tup [V.str z])) t3 (.tup ((a :: l).map V.str))) q (.lst ((a :: l).map V.str).reverse)) t4 (.tup ((a :: l).map V.str).reverse)) M (.lst [V.ref t1, V.ref t2, V.ref t3, V.ref t4])) t4 (((a :: l).reverse).map V.str) := by
      rw [List.map_reverse]
      exact SqT.same sM (SqT.of upd_same)
    have e3 : SqT K (upd (upd (upd (upd (upd (upd H t1 (.tup [V.str a])) t2 (.tup [V.str z])) t3 (.tup ((a :: l).map V.str))) q (.lst ((a :: l).map V.str).reverse)) t4 (.tup ((a :: l).map V.str).reverse)) M (.lst [V.ref t1, V.ref t2, V.ref t3, V.ref t4])) t3 ((a :: l).map V.str) := SqT.same (((same_new hq).trans (same_new ht4)).trans sM) (SqT.of upd_same)
    have e2 : SqT K (upd (upd (upd (upd (upd (upd H t1 (.tup [V.str a])) t2 (.tup [V.str z])) t3 (.tup ((a :: l).map V.str))) q (.lst ((a :: l).map V.str).reverse)) t4 (.tup ((a :: l).map V.str).reverse)) M (.lst [V.ref t1, V.ref t2, V.ref t3, V.ref t4])) t2 ([z].map V.str) := SqT.same ((((same_new ht3).trans (same_new hq)).trans (same_new ht4)).trans sM) (SqT.of upd_same)
    have e1 : SqT K (upd (upd (upd (upd (upd (upd H t1 (.tup [V.str a])) t2 (.tup [V.str z])) t3 (.tup ((a :: l).map V.str))) q (.lst ((a :: l).map V.str).reverse)) t4 (.tup ((a :: l).map V.str).reverse)) M (.lst [V.ref t1, V.ref t2, V.ref t3, V.ref t4])) t1 ([a].map V.str) := SqT.same (((((same_new ht2).trans (same_new ht3)).trans (same_new hq)).trans (same_new ht4)).trans sM) (SqT.of upd_same)
    have eM : upd (upd (upd (upd (upd (upd H t1 (.tup [V.str a])) t2 (.tup [V.str z])) t3 (.tup ((a :: l).map V.str))) q (.lst ((a :: l).map V.str).reverse)) t4 (.tup ((a :: l).map V.str).reverse)) M (.lst [V.ref t1, V.ref t2, V.ref t3, V.ref t4]) M = some (.lst [V.ref t1, V.ref t2, V.ref t3, V.ref t4]) := upd_same
    have PM := (P0.same s5).same sM
    have nMp : M ≠ p := (P0.same s5).ne1 hM
    have nMc : M ≠ c := (P0.same s5).ne2 hM
    have s6 := s5.trans sM
    generalize upd (upd (upd (upd (upd (upd H t1 (.tup [V.str a])) t2 (.tup [V.str z])) t3 (.tup ((a :: l).map V.str))) q (.lst ((a :: l).map V.str).reverse)) t4 (.tup ((a :: l).map V.str).reverse)) M (.lst [V.ref t1, V.ref t2, V.ref t3, V.ref t4]) = H6 at *
    refine ⟨_, rfl, p, c, lim, n, 4, rfl, PM, by omega, by decide, by decide, fun r H7 r0 r1 P7 b7 => ?_⟩
    have eM7 := b7 _ _ eM nMp nMc
    have t7 := b7.tps PM
    have b67 := (But.of s6).trans b7
    obtain ⟨j, rfl⟩ : ∃ j : Nat, r = (j : Int) := ⟨r.toNat, by omega⟩
    have go : ∀ (t : Addr) (ks : List Str), SqT K H6 t (ks.map V.str) → ks ≠ [] → ks.length ≤ 2 → (∀ k ∈ ks, k ∈ a :: l) → Q (.ref t) H7 := fun t ks e h1 h2 h3 => k t ks H7 (t7.sqt e) h1 h2 h3 P7 b67
    rcases (show j = 0 ∨ j = 1 ∨ j = 2 ∨ j = 3 by omega) with rfl | rfl | rfl | rfl
    · exact ⟨M, _, _, _, rfl, rfl, SqL.of eM7, atI_nat (j := 0) rfl, go t1 [a] e1 (by simp) (by show 1 ≤ 2; decide) (by simp)⟩
    · exact ⟨M, _, _, _, rfl, rfl, SqL.of eM7, atI_nat (j := 1) rfl, go t2 [z] e2 (by simp) (by show 1 ≤ 2; decide) (fun k hk => by rw [List.mem_singleton.mp hk]; exact mz)⟩
    · exact ⟨M, _, _, _, rfl, rfl, SqL.of eM7, atI_nat (j := 2) rfl, go t3 (a :: l) e3 (by simp) k2 (fun k hk => hk)⟩
    · exact ⟨M, _, _, _, rfl, rfl, SqL.of eM7, atI_nat (j := 3) rfl, go t4 (a :: l).reverse e4 (by simp) (by rw [List.length_reverse]; exact k2) (fun k hk => List.mem_reverse.mp hk)⟩
end

/-! ### lemmas of the hub that k03 wants -/
theorem strOk_name {n : Str} (h : isName n = true) : PyData.strOk n = true := by
  unfold PyData.strOk
  rw [← Array.all_toList, List.all_eq_true]
  intro c hc
  obtain ⟨c0, h0⟩ : ∃ c0, n.cps.toList[0]? = some c0 := by
    cases e : n.cps.toList with
    | nil => rw [e] at hc; cases hc
    | cons a r => exact ⟨a, rfl⟩
  rw [isName_at h0] at h
  simp only [Bool.and_eq_true] at h
  have q := List.all_eq_true.mp h.1.2 c hc
  unfold al at q
  simp only [Bool.or_eq_true, decide_eq_true_eq] at q
  have b1 : ∀ x ∈ LET.cps.toList, x < 200 := by decide +kernel
  have b2 : ∀ x ∈ DIG.cps.toList, x < 200 := by decide +kernel
  rcases q with q | q
  · have := b1 c q
    simp only [decide_eq_true_eq]
    omega
  · have := b2 c q
    simp only [decide_eq_true_eq]
    omega
theorem cut_take {xs : List V} {k : Nat} : cutV xs none (some (k : Int)) = xs.take k := by
  unfold cutV
  rw [HT.sIx_none, HT.sIx_nat, List.drop_zero]
  rw [Nat.sub_zero, List.take_eq_take_iff]
  omega
theorem cut_drop {xs : List V} {k : Nat} : cutV xs (some (k : Int)) none = xs.drop k := by
  unfold cutV
  rw [HT.sIx_none, HT.sIx_nat]
  rcases Nat.le_or_ge k xs.length with h | h
  · rw [Nat.min_eq_left h, List.take_of_length_le]
    rw [List.length_drop]
    exact Nat.le_refl _
  · rw [Nat.min_eq_right h, List.drop_of_length_le (Nat.le_refl _), List.drop_of_length_le h]
    simp

/-! ### wiped slots, without looking at the others -/
theorem wipe_hit {σ : L2.St} {i : Nat} : ∀ {vs : List Nat}, i ∈ vs → (wipe σ vs)[i]? = σ[i]?.map fun _ => none
  | v :: vs, h => by
    show ((wipe σ vs).set v none)[i]? = _
    rw [List.getElem?_set]
    by_cases e : v = i
    · subst e
      rw [if_pos rfl, wipe_length]
      by_cases hl : v < σ.length
      · rw [if_pos hl, List.getElem?_eq_getElem hl]; rfl
      · rw [if_neg hl, List.getElem?_eq_none (Nat.le_of_not_lt hl)]; rfl
    · rw [if_neg e]
      exact wipe_hit ((List.mem_cons.mp h).resolve_left fun z => e z.symm)
theorem wipe_in {σ : L2.St} {i : Nat} {x : Option V} {vs : List Nat} (h : i ∈ vs) : wipe (List.set σ i x) vs = wipe σ vs := by
  refine List.ext_getElem? fun j => ?_
  by_cases hj : j ∈ vs
  · rw [wipe_hit hj, wipe_hit hj, List.getElem?_set]
    by_cases e : i = j
    · subst e
      rw [if_pos rfl]
      by_cases hl : i < σ.length
      · rw [if_pos hl, List.getElem?_eq_getElem hl]; rfl
      · rw [if_neg hl, List.getElem?_eq_none (Nat.le_of_not_lt hl)]
    · rw [if_neg e]
  · rw [wipe_out hj, wipe_out hj, List.getElem?_set, if_neg (fun z : i = j => hj (by rw [← z]; exact h))]
theorem wipe_id {σ : L2.St} {vs : List Nat} : wipe (wipe σ vs) vs = wipe σ vs := by
  refine List.ext_getElem? fun j => ?_
  by_cases hj : j ∈ vs
  · rw [wipe_hit hj, wipe_hit hj]
    cases σ[j]? <;> rfl
  · rw [wipe_out hj]
theorem wipe1 {σ : L2.St} {i : Nat} {x : Option V} {vs : List Nat} (h : i ∈ vs) : wipe (List.set (wipe σ vs) i x) vs = wipe σ vs := (wipe_in h).trans wipe_id
theorem wipe2 {σ : L2.St} {i j : Nat} {x y : Option V} {vs : List Nat} (h : i ∈ vs) (h2 : j ∈ vs) : wipe (List.set (List.set (wipe σ vs) i x) j y) vs = wipe σ vs := (wipe_in h2).trans (wipe1 h)
theorem wipe3 {σ : L2.St} {i j k : Nat} {x y z : Option V} {vs : List Nat} (h : i ∈ vs) (h2 : j ∈ vs) (h3 : k ∈ vs) : wipe (List.set (List.set (List.set (wipe σ vs) i x) j y) k z) vs = wipe σ vs := (wipe_in h3).trans (wipe2 h h2)

/-! ### the law's pieces and blocks -/
abbrev sLPi : Stmt := topS 38
abbrev NLPi : List Str := ["_law_pool_here", "_law_env", "_law_depth", "_law_is_last", "_law_names_here", "_law_kinds", "_law_heads_here", "_law_choice", "_law_target", "_law_block_here", "_law_many", "_law_handlers", "_law_k", "_law_first"]
abbrev PLPi : List Str := ["_law_pool_here", "_law_env", "_law_depth", "_law_is_last"]
theorem scLPi : FnScope NLPi PLPi (defScope sLPi) := ⟨rfl, rfl, rfl, by decide +kernel, rfl, by decide +kernel, by decide +kernel⟩
abbrev sLBk : Stmt := topS 39
abbrev NLBk : List Str := ["_law_pool_here", "_law_env", "_law_depth", "_law_is_last", "_law_found", "_law_k"]
abbrev PLBk : List Str := ["_law_pool_here", "_law_env", "_law_depth", "_law_is_last"]
theorem scLBk : FnScope NLBk PLBk (defScope sLBk) := ⟨rfl, rfl, rfl, by decide +kernel, rfl, by decide +kernel, by decide +kernel⟩
mutual
def wS (own kinds : List Str) (heads : List Head) (last : Bool) : St → Prop
  | .set t e => t ∈ own ∧ EX own e
  | .input t => t ∈ own
  | .raise k => k ∈ kinds
  | .risk ks => ks ≠ [] ∧ ks.length ≤ 2 ∧ ∀ k ∈ ks, k ∈ kinds
  | .call t f as => (∀ x, t = some x → x ∈ own) ∧ WC own heads (f, as)
  | .ret e => last = false ∧ EX own e
  | .ite a b => wL own kinds heads last a ∧ wL own kinds heads last b
  | .whl b => last = false ∧ wL own kinds heads false b
  | .try_ b hs f => last = false ∧ hs.length ≤ 2 ∧ wL own kinds heads false b ∧ wHs own kinds heads hs ∧ wL own kinds heads true f
  | .undo ns b => last = false ∧ (ns ≠ [] ∧ ns.length ≤ 3 ∧ ∀ n ∈ ns, n ∈ own) ∧ wL own kinds heads false b
  | .with_ e l ks b => last = false ∧ WC own heads e ∧ WC own heads l ∧ (ks.length ≤ 2 ∧ ∀ k ∈ ks, k ∈ kinds) ∧ wL own kinds heads false b
def wL (own kinds : List Str) (heads : List Head) (last : Bool) : List St → Prop
  | [] => True
  | s :: r => wS own kinds heads last s ∧ wL own kinds heads last r
def wH (own kinds : List Str) (heads : List Head) : Hd → Prop
  | .mk ks b => (ks ≠ [] ∧ ks.length ≤ 2 ∧ ∀ k ∈ ks, k ∈ kinds) ∧ wL own kinds heads false b
def wHs (own kinds : List Str) (heads : List Head) : List Hd → Prop
  | [] => True
  | h :: r => wH own kinds heads h ∧ wHs own kinds heads r
end
theorem wL_snoc {own kinds : List Str} {heads : List Head} {last : Bool} {s : St} (hs : wS own kinds heads last s) : ∀ {b : List St}, wL own kinds heads last b → wL own kinds heads last (b ++ [s])
  | [], _ => ⟨hs, trivial⟩
  | _ :: _, h => ⟨h.1, wL_snoc hs h.2⟩
theorem wHs_snoc {own kinds : List Str} {heads : List Head} {s : Hd} (hs : wH own kinds heads s) : ∀ {b : List Hd}, wHs own kinds heads b → wHs own kinds heads (b ++ [s])
  | [], _ => ⟨hs, trivial⟩
  | _ :: _, h => ⟨h.1, wHs_snoc hs h.2⟩
theorem szB_snoc {s : St} : ∀ b : List St, szB (b ++ [s]) = szB b + (1 + szS s)
  | [] => by show 1 + szS s + 0 = 0 + _; omega
  | x :: r => by show 1 + szS x + szB (r ++ [s]) = 1 + szS x + szB r + _; rw [szB_snoc r]; omega
theorem szHs_snoc {s : Hd} : ∀ b : List Hd, szHs (b ++ [s]) = szHs b + szH s
  | [] => by show szH s + 0 = 0 + _; omega
  | x :: r => by show szH x + szHs (r ++ [s]) = szH x + szHs r + _; rw [szHs_snoc r]; omega
theorem dpIn_snoc {s : St} : ∀ b : List St, dpIn (b ++ [s]) = max (dpIn b) (dpS s)
  | [] => by show max (dpS s) 0 = max 0 _; omega
  | x :: r => by show max (dpS x) (dpIn (r ++ [s])) = max (max (dpS x) (dpIn r)) _; rw [dpIn_snoc r]; omega
theorem dpHs_snoc {s : Hd} : ∀ b : List Hd, dpHs (b ++ [s]) = max (dpHs b) (dpH s)
  | [] => by show max (dpH s) 0 = max 0 _; omega
  | x :: r => by show max (dpH x) (dpHs (r ++ [s])) = max (max (dpH x) (dpHs r)) _; rw [dpHs_snoc r]; omega
/-- the most draws of a block -/
def cb : Nat → Nat
  | 0 => 0
  | m + 1 => 601 + 12 * cb m
def cp (m : Nat) : Nat := 200 + 4 * cb m
def Lim (bu : Nat) : V := .int (bu : Int)
def spLPi (K : PySem.W.Frag) (m : Nat) : Sp := fun vs H Q _ => ∃ (p c : Addr) (v : V) (n bu d : Nat) (last : Bool) (own kinds : List Str) (heads : List Head), vs = [.ref p, v, .int (d : Int), .bl last] ∧ PoolAt H p c (Lim bu) n ∧ n + cp m ≤ 900000000000 ∧ EnvAt K H p c v own kinds heads ∧ EnvOk own kinds heads ∧
  (last = false → 0 < d → d + 2 ≤ m) ∧ (last = true → d ≤ m) ∧
  ∀ (v : V) (s : St) (bu' : Nat) (H' : Hp), wS own kinds heads last s → dpS s ≤ m → szS s + bu' = bu → Dp K H' v (stD s) → PoolAt H' p c (Lim bu') (n + cp m) → But p c H H' → Q v H'
def spLBk (K : PySem.W.Frag) (m : Nat) : Sp := fun vs H Q _ => ∃ (p c : Addr) (v : V) (n bu d : Nat) (last : Bool) (own kinds : List Str) (heads : List Head), vs = [.ref p, v, .int (d : Int), .bl last] ∧ PoolAt H p c (Lim bu) n ∧ n + cb m ≤ 900000000000 ∧ EnvAt K H p c v own kinds heads ∧ EnvOk own kinds heads ∧
  (last = false → d + 3 ≤ m) ∧ (last = true → d + 1 ≤ m) ∧
  ∀ (v : V) (b : List St) (bu' : Nat) (H' : Hp), wL own kinds heads last b → b.length ≤ 3 → dpB b ≤ m → szB b + bu' = bu → Dp K H' v (blD b) → PoolAt H' p c (Lim bu') (n + cb m) → But p c H H' → Q v H'
theorem pool_lim {H : Hp} {p c : Addr} {bu : Nat} {n : Nat} (h : PoolAt H p c (Lim bu) n) : ∃ xs, H p = some (.lst xs) ∧ atI xs 5 = some (.int (bu : Int)) ∧ xs.length = 6 ∧ ∀ b2 : Nat, PoolAt (upd H p (.lst (xs.set 5 (Lim b2)))) p c (Lim b2) n := by
  obtain ⟨i, cs, cn, sd, md, e1, e2, e⟩ := h
  refine ⟨_, e1, rfl, rfl, fun b2 => ⟨i, cs, cn, sd, md, upd_same, ?_, e⟩⟩
  rw [upd_ne (pool_ne e1 e2).symm]
  exact e2
section
variable {P : Program} {w : World} {K : PySem.W.Frag} {mg : Str → Option Value} {base : Heap}
theorem ok_LBk {m : Nat} {f : Addr} {fd : FuncData} (F : Fun K "_law_block" "_law_block" sLBk f fd) (T : TxGen mg) (GD : Has P w K mg base CX0 2 "_law_draw" PDraw spDraw) (GP : Has P w K mg base CX0 (6 + 2 * m) "_law_piece" PLPi (spLPi K m)) : FnOk P w K mg base CX0 (6 + 2 * m + 1) f fd PLBk (spLBk K (m + 1)) := by
  refine F.ok scLBk (fun vs H Q E h => ?_) (fun cdv A outer s H vs Q E hr h => ?_)
  · obtain ⟨p, c, v, n, bu, d, last, own, kinds, heads, rfl, _⟩ := h
    rfl
  · obtain ⟨p, c, v, n, bu, d, last, own, kinds, heads, rfl, P0, hn, ev, ok, hf, ht, k⟩ := h
    have hr2 := hr.mono (j := 2) (by omega)
    have ecb : cb (m + 1) = 601 + 12 * cb m := rfl
    have ecp : cp m = 200 + 4 * cb m := rfl
    refine ⟨_, (pss_cons (ps_set (i := 4) scLBk.nd rfl (Or.inl rfl) (pe_lst pa_nil))
  (pss_cons (ps_for PassesOwn.never rfl (pi_range1 (by rfl) T.n_range (pa_cons (pe_callH GD hr2 rfl pass0 (pa_cons (pv 0) (pa_cons pe_int pa_nil))) pa_nil)) (pg_name (i := 5) scLBk.nd rfl (Or.inl rfl))
  (pss_one (ps_if (pt_cmpR op_gt (pe_ix (r := rIxL K) ix_list (pv 0) pe_int (fun _ _ => rfl)) pe_int (nomark _))
  (pss_cons (ps_asg (pe_op op_sub (pe_ix (r := rIxL K) ix_list (pv 0) pe_int (fun _ _ => rfl)) pe_int) (pg_sub (pv 0) pe_int set_list))
  (pss_one (ps_expr (pe_bm PySem.F.plainAttrs_list PySem.F.slot_list_append PySem.F.type_list_append mt_append (pv 4) (pa_cons (pe_callH GP hr rfl pass0 (pa_cons (pv 0) (pa_cons (pv 1) (pa_cons (pv 2) (pa_cons (pv 3) pa_nil))))) pa_nil)))))
  pss_nil)))
  (pss_one (ps_ret (pe_callTy call_tuple_of (by rfl) T.n_tuple bb_tuple (pa_cons (pv 4) pa_nil)))))), ?_⟩
    refine ⟨(by show 0 ≤ sizeLine; decide), fun q hq => ?_⟩
    have s1 := same_new (o := .lst []) hq
    have P1 := P0.same s1
    have qp := P0.ne1 hq
    have qc := P0.ne2 hq
    refine ⟨_, rfl, p, c, Lim bu, n, 4, rfl, P1, by omega, by decide, by decide, fun r H1 r0 r1 P2 b2 => ?_⟩
    have eq1 := b2 _ _ (upd_same (H := H)) qp qc
    have b3 := (But.of s1).trans b2
    have ev3 := ev.but b3 P0
    have lr : r.toNat ≤ 3 := by omega
    refine ⟨r, rfl, by omega, by omega, ?_⟩
    refine for_range (lo := 0) (n := r.toNat) (fun i σ H' => (∃ x5 : Option V, σ = [some (.ref p), some v, some (.int (d : Int)), some (.bl last), some (.ref q), x5]) ∧ EnvAt K H' p c v own kinds heads ∧ But p c H H' ∧ ∃ (us : List V) (b : List St) (bu' : Nat), PoolAt H' p c (Lim bu') (n + 1 + i * cp m) ∧ H' q = some (.lst us) ∧ us.length ≤ i ∧ Paired (fun x s => Dp K H' x (stD s)) us b ∧ wL own kinds heads last b ∧ dpIn b ≤ m ∧ szB b + bu' = bu)
      ⟨⟨_, rfl⟩, ev3, b3, [], [], bu, by rw [Nat.zero_mul]; exact P2, eq1, Nat.le_refl _, .nil, trivial, Nat.zero_le _, Nat.zero_add _⟩ ?_ ?_
    · rintro i σ H3 hi ⟨⟨x5, rfl⟩, ev4, b4, us, b, bu', P3, eq3, lu, pu, wl, db, sz⟩
      obtain ⟨xs, ep, e5, l6, upl⟩ := pool_lim P3
      have np : (n + 1 + i * cp m) + cp m = n + 1 + (i + 1) * cp m := by rw [Nat.succ_mul]; omega
      have nle : n + 1 + (i + 1) * cp m ≤ 900000000000 := by
        have : (i + 1) * cp m ≤ 3 * cp m := Nat.mul_le_mul_right _ (by omega)
        omega
      refine ⟨_, rfl, p, _, _, _, rfl, rfl, SqL.of ep, e5, _, _, rfl, rfl, _, rfl, ?_⟩
      by_cases hb : 0 < bu'
      · refine iteS (decide_eq_true (by omega)) ?_
        refine ⟨_, rfl, p, _, _, _, rfl, rfl, SqL.of ep, e5, _, _, rfl, rfl, ?_⟩
        refine ⟨_, rfl, p, xs, _, 5, rfl, rfl, ep, by rw [l6]; rfl, ?_⟩
        have P5 := upl (bu' - 1)
        rw [show Lim (bu' - 1) = V.int ((bu' : Int) - 1) by unfold Lim; congr 1; omega] at P5
        have pq : q ≠ p := qp
        have b5 : But p c H3 (upd H3 p (.lst (xs.set 5 (.int ((bu' : Int) - 1))))) := fun b o z h1 _ => by rw [upd_ne h1]; exact z
        have eq5 : upd H3 p (.lst (xs.set 5 (.int ((bu' : Int) - 1)))) q = some (.lst us) := by rw [upd_ne qp]; exact eq3
        have ev5 := ev4.but b5 P3
        have t5 := b5.tps P3
        generalize upd H3 p (.lst (xs.set 5 (.int ((bu' : Int) - 1)))) = H5 at *
        have P5 : PoolAt H5 p c (Lim (bu' - 1)) (n + 1 + i * cp m) := by rw [show Lim (bu' - 1) = V.int ((bu' : Int) - 1) by unfold Lim; congr 1; omega]; exact P5
        refine ⟨_, rfl, .inl ⟨rfl, _, SqL.of eq5⟩, _, rfl, _, rfl, _, rfl, _, rfl, p, c, v, n + 1 + i * cp m, bu' - 1, d, last, own, kinds, heads, rfl, P5, by omega, ev5, ok, fun h _ => by have := hf h; omega, fun h => by have := ht h; omega, fun x st bu2 H6 ws ds sz2 dp P6 b6 => ?_⟩
        have eq6 := b6 _ _ eq5 qp qc
        refine ⟨q, _, _, rfl, rfl, eq6, small1000 (by omega), ?_⟩
        have t6 : Tps H6 (upd H6 q (.lst (us ++ [x]))) := Tps.lst eq6
        have b7 : But p c H6 (upd H6 q (.lst (us ++ [x]))) → But p c H (upd H6 q (.lst (us ++ [x]))) := fun b b' o z h1 h2 => b _ _ (b6 _ _ (b5 _ _ (b4 _ _ z h1 h2) h1 h2) h1 h2) h1 h2
        have b8 : But p c H (upd H6 q (.lst (us ++ [x]))) := fun b o z h1 h2 => by
          rw [upd_ne (ne_of_none z hq)]
          exact b6 _ _ (b5 _ _ (b4 _ _ z h1 h2) h1 h2) h1 h2
        refine ⟨⟨_, rfl⟩, ev.but b8 P0, b8, us ++ [x], b ++ [st], bu2, ?_, upd_same, by rw [List.length_append]; show us.length + 1 ≤ _; omega, ?_, wL_snoc ws wl, ?_, ?_⟩
        · rw [← np]
          exact P6.upd qp qc
        · exact Paired.snoc (Paired.mapP pu fun _ s z => Dp.tps (((t5.trans (b6.tps P5))).trans t6) z (noL_st s)) (Dp.tps t6 dp (noL_st st))
        · rw [dpIn_snoc]; exact Nat.max_le.mpr ⟨db, ds⟩
        · rw [szB_snoc]; omega
      · refine iteE (decide_eq_false (by omega)) ?_
        exact ⟨⟨_, rfl⟩, ev4, b4, us, b, bu', P3.mono (by omega), eq3, by omega, pu, wl, db, sz⟩
    · rintro σ H3 ⟨⟨x5, rfl⟩, ev4, b4, us, b, bu', P3, eq3, lu, pu, wl, db, sz⟩
      have n3 : r.toNat * cp m ≤ 3 * cp m := Nat.mul_le_mul_right _ lr
      refine ⟨_, rfl, q, us, rfl, .inl ⟨SqL.of eq3, fun l hl => ?_⟩⟩
      have s5 := same_new (o := .tup us) hl
      have lub := Paired.length pu
      have edb := dpB_eq b
      exact k _ b bu' _ wl (by omega) (by omega) sz (.tup (SqT.of upd_same) (by rw [stsD_map]; exact DpAll.ofPaired (Paired.mapP pu fun _ _ z => z.same s5))) ((P3.same s5).mono (by omega)) (fun b o z h1 h2 => s5 _ _ (b4 _ _ z h1 h2))
theorem cut_mem {xs : List V} {lo hi : Option Int} {x : V} (h : x ∈ cutV xs lo hi) : x ∈ xs := List.mem_of_mem_drop (List.mem_of_mem_take h)
theorem eqv_ne {d : PyData} {ds : List PyData} : PyData.eqv (.list (d :: ds)) (.list []) = false := by simp [PyData.eqv, PyData.eqvAll]
theorem shaped_hds {heads : List Head} (h : ∀ x ∈ heads, isName x.1 = true ∧ ∀ p ∈ x.2, isName p.1 = true) : SeqAt.shaped (.list (heads.map hdaD)) = true := by
  have l1 : ∀ ps : List (Str × Bool), (∀ p ∈ ps, isName p.1 = true) → PyData.canLayAll0 (ps.map prD) = true := fun ps => by
    induction ps with
    | nil => intro _; simp [PyData.canLayAll0]
    | cons x r ih =>
      intro h
      simp only [List.map_cons, PyData.canLayAll0, prD, PyData.canLay0, strOk_name (h x List.mem_cons_self), Bool.true_and]
      exact ih fun p hp => h p (List.mem_cons_of_mem _ hp)
  have d1 : ∀ ps : List (Str × Bool), PyData.depthAll (ps.map prD) ≤ 1 := fun ps => by
    induction ps with
    | nil => simp [PyData.depthAll]
    | cons x r ih => simp only [List.map_cons, PyData.depthAll, prD, PyData.depth]; omega
  have l2 : PyData.canLayAll0 (heads.map hdaD) = true := by
    induction heads with
    | nil => simp [PyData.canLayAll0]
    | cons x r ih =>
      obtain ⟨h1, h2⟩ := h x List.mem_cons_self
      simp only [List.map_cons, PyData.canLayAll0, hdaD, PyData.canLay0, strOk_name h1, l1 x.2 h2, Bool.true_and, Bool.and_true]
      exact ih fun p hp => h p (List.mem_cons_of_mem _ hp)
  have d2 : PyData.depthAll (heads.map hdaD) ≤ 3 := by
    clear l2 h
    induction heads with
    | nil => simp [PyData.depthAll]
    | cons x r ih =>
      have := d1 x.2
      simp only [List.map_cons, PyData.depthAll, hdaD, PyData.depth]
      omega
  unfold SeqAt.shaped
  simp only [PyData.canLay0, PyData.depth, l2, Bool.true_and]
  exact decide_eq_true (by omega)
theorem dpAll_strs {K : PySem.W.Frag} {H : Hp} : ∀ l : List Str, DpAll K H (l.map V.str) (l.map PyData.str)
  | [] => .nil
  | x :: r => .cons (.str _) (dpAll_strs r)
theorem cut_two {l : List Str} {r : Int} (r0 : 0 ≤ r) (r1 : r < l.length) : ∃ ns : List Str, cutV (l.map V.str) (some r) (some (r + 2)) = ns.map V.str ∧ ns ≠ [] ∧ ns.length ≤ 2 ∧ ∀ n ∈ ns, n ∈ l := by
  obtain ⟨a, rfl⟩ : ∃ a : Nat, r = (a : Int) := ⟨r.toNat, by omega⟩
  have ha : a < l.length := by omega
  refine ⟨(l.drop a).take (min (a + 2) l.length - a), ?_, fun z => ?_, by rw [List.length_take, List.length_drop]; omega, fun n hn => List.mem_of_mem_drop (List.mem_of_mem_take hn)⟩
  · unfold cutV
    rw [show ((a : Int) + 2) = ((a + 2 : Nat) : Int) by omega, HT.sIx_nat, HT.sIx_nat, List.length_map, Nat.min_eq_left (Nat.le_of_lt ha), List.map_take, List.map_drop]
  · have := congrArg List.length z
    rw [List.length_take, List.length_drop, List.length_nil] at this
    omega
theorem cut_upto {l : List Str} {r : Int} (r0 : 0 ≤ r) : cutV (l.map V.str) none (some r) = (l.take r.toNat).map V.str := by
  obtain ⟨a, rfl⟩ : ∃ a : Nat, r = (a : Int) := ⟨r.toNat, by omega⟩
  rw [cut_take, List.map_take, Int.toNat_natCast]
theorem ite_tC {c : Bool} {a b : V} {σ : L2.St} {H : Hp} {Q : VK} (k : tC (if c = true then a else b) σ H Q) : if c = true then tC a σ H Q else tC b σ H Q := by
  cases c
  · exact k
  · exact k
theorem ok_LPi {m : Nat} {f : Addr} {fd : FuncData} (F : Fun K "_law_piece" "_law_piece" sLPi f fd) (T : TxGen mg) (GD : Has P w K mg base CX0 2 "_law_draw" PDraw spDraw) (GE : Has P w K mg base CX0 3 "_law_expression" PLEx (spLEx K)) (GC : Has P w K mg base CX0 5 "_law_call" PLCa (spLCa K)) (GS : Has P w K mg base CX0 3 "_law_some" PLSo (spLSo K)) (GB : Has P w K mg base CX0 (5 + 2 * m) "_law_block" PLBk (spLBk K m)) : FnOk P w K mg base CX0 (5 + 2 * m + 1) f fd PLPi (spLPi K m) := by
  refine F.ok scLPi (fun vs H Q E h => ?_) (fun cdv A outer s H vs Q E hr h => ?_)
  · obtain ⟨p, c, v, n, bu, d, last, own, kinds, heads, rfl, _⟩ := h
    rfl
  · obtain ⟨p, c, v, n, bu, d, last, own, kinds, heads, rfl, P0, hn, ev, ok, hf, ht, k⟩ := h
    have hr2 := hr.mono (j := 2) (by omega)
    have hr3 := hr.mono (j := 3) (by omega)
    have hr5 := hr.mono (j := 5) (by omega)
    have ecp : cp m = 200 + 4 * cb m := rfl
    refine ⟨_, (pss_cons (ps_asg (pv 1) (pg_tup (by rfl) (pgs_cons (pg_name (i := 4) scLPi.nd rfl (Or.inl rfl)) (pgs_cons (pg_name (i := 5) scLPi.nd rfl (Or.inr rfl)) (pgs_cons (pg_name (i := 6) scLPi.nd rfl (Or.inl rfl)) pgs_nil)))))
  (pss_cons (ps_set (i := 7) scLPi.nd rfl (Or.inl rfl) (pe_callH GD hr2 rfl pass0 (pa_cons (pv 0) (pa_cons (pe_ifExp (pt_cmpR op_gt (pv 2) pe_int (nomark _)) pe_int pe_int) pa_nil))))
  (pss_cons (ps_set (i := 8) scLPi.nd rfl (Or.inl rfl) (pe_ix (r := rIxL K) ix_list (pv 4) (pe_callH GD hr2 rfl pass0 (pa_cons (pv 0) (pa_cons (pe_callB call_len_seq (by rfl) T.n_len bb_len (pa_cons (pv 4) pa_nil)) pa_nil))) (fun _ _ => rfl)))
  (pss_cons (ps_if (pt_cmpR op_lt (pv 7) pe_int (nomark _))
  (pss_one (ps_ret (pe_tup (pa_cons pe_str (pa_cons (pv 8) (pa_cons (pe_callH GE hr3 rfl pass0 (pa_cons (pv 0) (pa_cons (pv 4) (pa_cons pe_int pa_nil)))) pa_nil))))))
  pss_nil)
  (pss_cons (ps_if (pt_cmpR op_lt (pv 7) pe_int (nomark _))
  (pss_one (ps_ret (pe_ifExp (pt_cmpR op_eq (pv 7) pe_int (nomark _)) (pe_tup (pa_cons pe_str (pa_cons (pe_ix (r := rIxL K) ix_list (pv 5) (pe_callH GD hr2 rfl pass0 (pa_cons (pv 0) (pa_cons (pe_callB call_len_seq (by rfl) T.n_len bb_len (pa_cons (pv 5) pa_nil)) pa_nil))) (fun _ _ => rfl)) pa_nil))) (pe_tup (pa_cons pe_str (pa_cons (pv 8) pa_nil))))))
  pss_nil)
  (pss_cons (ps_if (pt_cmpR op_lt (pv 7) pe_int (nomark _))
  (pss_one (ps_ret (pe_tup (pa_cons pe_str (pa_cons (pe_callTy call_tuple_of (by rfl) T.n_tuple bb_tuple (pa_cons (pe_slice sl_list (pv 5) po_none (po_some (pe_op op_add pe_int (pe_callH GD hr2 rfl pass0 (pa_cons (pv 0) (pa_cons (pe_callB call_len_seq (by rfl) T.n_len bb_len (pa_cons (pv 5) pa_nil)) pa_nil)))))) pa_nil)) pa_nil)))))
  pss_nil)
  (pss_cons (ps_if (PW.pt (pw_and (pt_cmpR op_lt (pv 7) pe_int (nomark _)) (pw_and1 (pt_cmpR (op_neD hr.units) (pv 6) (pe_lst pa_nil) (nomark _)))))
  (pss_one (ps_ret (pe_op op_catT (pe_tup (pa_cons pe_str (pa_cons (pe_ix (r := rIxL K) ix_list (pe_lst (pa_cons pe_non (pa_cons (pv 8) pa_nil))) (pe_callH GD hr2 rfl pass0 (pa_cons (pv 0) (pa_cons pe_int pa_nil))) (fun _ _ => rfl)) pa_nil))) (pe_callH GC hr5 rfl pass0 (pa_cons (pv 0) (pa_cons (pv 1) pa_nil))))))
  pss_nil)
  (pss_cons (ps_if (pt_cmpR op_lt (pv 7) pe_int (nomark _))
  (pss_one (ps_ret (pe_ifExp (pt_val (pv 3)) (pe_tup (pa_cons pe_str (pa_cons (pv 8) pa_nil))) (pe_tup (pa_cons pe_str (pa_cons (pe_callH GE hr3 rfl pass0 (pa_cons (pv 0) (pa_cons (pv 4) (pa_cons pe_int pa_nil)))) pa_nil))))))
  pss_nil)
  (pss_cons (ps_set (i := 9) scLPi.nd rfl (Or.inl rfl) (pe_callH GB hr rfl pass0 (pa_cons (pv 0) (pa_cons (pv 1) (pa_cons (pe_op op_sub (pv 2) pe_int) (pa_cons (pv 3) pa_nil))))))
  (pss_cons (ps_if (PW.pt (pw_or (pt_cmpR op_lt (pv 7) pe_int (nomark _)) (pw_or1 (pt_val (pv 3)))))
  (pss_one (ps_ret (pe_tup (pa_cons pe_str (pa_cons (pv 9) (pa_cons (pe_callH GB hr rfl pass0 (pa_cons (pv 0) (pa_cons (pv 1) (pa_cons (pe_op op_sub (pv 2) pe_int) (pa_cons (pv 3) pa_nil))))) pa_nil))))))
  pss_nil)
  (pss_cons (ps_if (pt_cmpR op_lt (pv 7) pe_int (nomark _))
  (pss_one (ps_ret (pe_tup (pa_cons pe_str (pa_cons (pv 9) pa_nil)))))
  pss_nil)
  (pss_cons (ps_if (pt_cmpR op_lt (pv 7) pe_int (nomark _))
  (pss_cons (ps_set (i := 10) scLPi.nd rfl (Or.inl rfl) (pe_callH GD hr2 rfl pass0 (pa_cons (pv 0) (pa_cons pe_int pa_nil))))
  (pss_cons (ps_setLc (i := 11) (own := [("_law_k", 12)]) (g := gName 12) (tt := tYes) rfl scLPi.nd rfl rfl (sw_true rfl rfl rfl (by decide +kernel)) (pi_range1 (by rfl) T.n_range (pa_cons (pv 10) pa_nil)) (blkOk_by (own := [("_law_k", 12)]) (N := NLPi) (sc := (defScope sLPi)) (by decide +kernel)) (fun _ _ _ _ _ => (pg_name (i := 12) scLPi.nd rfl (Or.inl rfl))) (fun _ _ _ _ _ => pts_nil) (fun _ _ _ _ _ => (pe_tup (pa_cons (pe_callH GS hr3 rfl pass0 (pa_cons (pv 0) (pa_cons (pv 5) pa_nil))) (pa_cons (pe_callH GB hr rfl pass0 (pa_cons (pv 0) (pa_cons (pv 1) (pa_cons (pe_op op_sub (pv 2) pe_int) (pa_cons pe_bl pa_nil))))) pa_nil)))))
  (pss_one (ps_ret (pe_tup (pa_cons pe_str (pa_cons (pv 9) (pa_cons (pe_callTy call_tuple_of (by rfl) T.n_tuple bb_tuple (pa_cons (pv 11) pa_nil)) (pa_cons (pe_callH GB hr rfl pass0 (pa_cons (pv 0) (pa_cons (pv 1) (pa_cons pe_int (pa_cons pe_bl pa_nil))))) pa_nil)))))))))
  pss_nil)
  (pss_cons (ps_set (i := 13) scLPi.nd rfl (Or.inl rfl) (pe_callH GD hr2 rfl pass0 (pa_cons (pv 0) (pa_cons (pe_callB call_len_seq (by rfl) T.n_len bb_len (pa_cons (pv 4) pa_nil)) pa_nil))))
  (pss_cons (ps_if (PW.pt (pw_or (pt_cmpR op_lt (pv 7) pe_int (nomark _)) (pw_or1 (pt_cmpR (op_eqD hr.units) (pv 6) (pe_lst pa_nil) (nomark _)))))
  (pss_one (ps_ret (pe_tup (pa_cons pe_str (pa_cons (pe_callTy call_tuple_of (by rfl) T.n_tuple bb_tuple (pa_cons (pe_slice sl_list (pv 4) (po_some (pv 13)) (po_some (pe_op op_add (pv 13) pe_int))) pa_nil)) (pa_cons (pv 9) pa_nil))))))
  pss_nil)
  (pss_one (ps_ret (pe_tup (pa_cons pe_str (pa_cons (pe_callH GC hr5 rfl pass0 (pa_cons (pv 0) (pa_cons (pv 1) pa_nil))) (pa_cons (pe_callH GC hr5 rfl pass0 (pa_cons (pv 0) (pa_cons (pv 1) pa_nil))) (pa_cons (pe_callTy call_tuple_of (by rfl) T.n_tuple bb_tuple (pa_cons (pe_slice sl_list (pv 5) po_none (po_some (pe_callH GD hr2 rfl pass0 (pa_cons (pv 0) (pa_cons pe_int pa_nil))))) pa_nil)) (pa_cons (pv 9) pa_nil)))))))))))))))))))))), ?_⟩
    obtain ⟨e, nl, kl, hl, hs, rfl, e2, e3, e4, e5, e6, e7, e8, e9⟩ := id ev
    have lo : 0 < own.length := List.length_pos_iff.mpr ok.o.2.1
    have l8 := ok.o.2.2
    have lk : 0 < kinds.length := List.length_pos_iff.mpr ok.k.1
    have l2 := ok.k.2
    have shh : SeqAt.shaped (.list (heads.map hdaD)) = true := shaped_hds fun x hx => (ok.ps x hx).2
    have eqh : PyData.eqv (.list (heads.map hdaD)) (.list []) = false := by
      cases heads with
      | nil => exact absurd rfl ok.h.1
      | cons x r => exact eqv_ne
    refine ⟨_, rfl, e, _, rfl, e2, rfl, _, _, rfl, _, _, rfl, _, _, rfl, rfl, ?_⟩
    refine ⟨_, rfl, _, rfl, _, _, rfl, rfl, _, rfl, ite_tC ?_⟩
    obtain ⟨mx, hmx, m0, m18, mz⟩ : ∃ mx : Int, V.int mx = (if decide ((d : Int) > 0) = true then V.int 18 else V.int 10) ∧ 0 < mx ∧ mx ≤ 18 ∧ (d = 0 → mx = 10) := by
      by_cases h : 0 < d
      · exact ⟨18, by rw [decide_eq_true (by omega)]; rfl, by decide, by decide, fun z => by omega⟩
      · exact ⟨10, by rw [decide_eq_false (by omega)]; rfl, by decide, by decide, fun z => rfl⟩
    rw [← hmx]
    refine ⟨p, c, Lim bu, n, mx, rfl, P0, by omega, m0, by omega, fun r H1 r0 r1 P1 b1 => ?_⟩
    refine ⟨_, rfl, _, rfl, _, rfl, nl, _, rfl, .inl (SqL.of (b1 _ _ e3 e7.1 e7.2)), p, c, Lim bu, n + 1, _, rfl, P1, by omega, by rw [List.length_map]; omega, by rw [List.length_map]; omega, fun rt H2 t0 t1 P2 b2' => ?_⟩
    have b2 : But p c H H2 := fun b o z h1 h2 => b2' _ _ (b1 _ _ z h1 h2) h1 h2
    have ev2 := ev.but b2 P0
    have en2 := b2 _ _ e3 e7.1 e7.2
    have ek2 := b2 _ _ e4 e8.1 e8.2
    have eh2 := b2 _ _ e5 e9.1 e9.2
    have e62 : Paired (fun x h => Dp K H2 x (hdaD h)) hs heads := Paired.mapP e6 fun _ h z => Dp.tps (b2.tps P0) z (noL_hda h)
    obtain ⟨w, hw, mw⟩ := atI_in (xs := own.map V.str) t0 t1
    obtain ⟨tg, htg, rfl⟩ := List.mem_map.mp mw
    refine ⟨nl, _, _, _, rfl, rfl, SqL.of en2, hw, ?_⟩
    clear b1 b2' P1 H1 hw mw t0 t1 e3 e4 e5 e6
    -- set
    refine ⟨_, rfl, _, _, rfl, rfl, _, rfl, ?_⟩
    by_cases h3 : r < 3
    · refine iteS (decide_eq_true h3) ?_
      refine ⟨_, rfl, _, rfl, _, rfl, p, c, nl, Lim bu, n + 2, own, rfl, P2, by omega, en2, e7.1, e7.2, ok.o.1, by omega, fun x ex H3 hex dx P3 b3 => ?_⟩
      refine ⟨(by show 3 ≤ sizeLine; decide), fun t ht => ?_⟩
      have s4 := same_new (o := .tup [V.str "set", V.str tg, x]) ht
      exact k _ (.set tg ex) bu _ ⟨htg, hex⟩ (Nat.zero_le _) (Nat.zero_add _) (.tup (SqT.of upd_same) (.cons (.str _) (.cons (.str _) (.cons (dx.same s4) .nil)))) ((P3.same s4).mono (by omega)) (fun b o z h1 h2 => s4 _ _ (b3 _ _ (b2 _ _ z h1 h2) h1 h2))
    refine iteE (decide_eq_false h3) ?_
    refine ⟨_, rfl, _, _, rfl, rfl, _, rfl, ?_⟩
    by_cases h5 : r < 5
    · refine iteS (decide_eq_true h5) ?_
      refine ⟨_, rfl, rfl, _, rfl, ?_⟩
      by_cases hr3 : r = 3
      · refine iteS (decide_eq_true (by rw [hr3])) ?_
        refine ⟨_, rfl, _, rfl, _, rfl, kl, _, rfl, .inl (SqL.of ek2), p, c, Lim bu, n + 2, _, rfl, P2, by omega, by rw [List.length_map]; omega, by rw [List.length_map]; omega, fun rk H3 k0 k1 P3 b3 => ?_⟩
        obtain ⟨w, hw, mw⟩ := atI_in (xs := kinds.map V.str) k0 k1
        obtain ⟨kd, hkd, rfl⟩ := List.mem_map.mp mw
        refine ⟨kl, _, _, _, rfl, rfl, SqL.of (b3 _ _ ek2 e8.1 e8.2), hw, (by show 2 ≤ sizeLine; decide), fun t ht => ?_⟩
        have s4 := same_new (o := .tup [V.str "raise", V.str kd]) ht
        exact k _ (.raise kd) bu _ hkd (Nat.zero_le _) (Nat.zero_add _) (.tup (SqT.of upd_same) (.cons (.str _) (.cons (.str _) .nil))) ((P3.same s4).mono (by omega)) (fun b o z h1 h2 => s4 _ _ (b3 _ _ (b2 _ _ z h1 h2) h1 h2))
      · refine iteE (decide_eq_false fun z => hr3 (V.int.inj z)) ?_
        refine ⟨_, rfl, (by show 2 ≤ sizeLine; decide), fun t ht => ?_⟩
        have s4 := same_new (o := .tup [V.str "input", V.str tg]) ht
        exact k _ (.input tg) bu _ htg (Nat.zero_le _) (Nat.zero_add _) (.tup (SqT.of upd_same) (.cons (.str _) (.cons (.str _) .nil))) ((P2.same s4).mono (by omega)) (fun b o z h1 h2 => s4 _ _ (b2 _ _ z h1 h2))
    refine iteE (decide_eq_false h5) ?_
    refine ⟨_, rfl, _, _, rfl, rfl, _, rfl, ?_⟩
    by_cases h7 : r < 7
    · refine iteS (decide_eq_true h7) ?_
      refine ⟨_, rfl, _, rfl, _, rfl, kl, _, rfl, .inl (SqL.of ek2), p, c, Lim bu, n + 2, _, rfl, P2, by omega, by rw [List.length_map]; omega, by rw [List.length_map]; omega, fun rk H3 k0 k1 P3 b3 => ?_⟩
      rw [List.length_map] at k1
      refine ⟨_, _, rfl, rfl, _, rfl, kl, _, rfl, SqL.of (b3 _ _ ek2 e8.1 e8.2), fun q hq => ?_⟩
      have ec : cutV (kinds.map V.str) none (some (1 + rk)) = (kinds.take (rk.toNat + 1)).map V.str := by
        rw [show (1 + rk : Int) = ((rk.toNat + 1 : Nat) : Int) by omega, cut_take, List.map_take]
      have s4 := same_new (o := .lst (cutV (kinds.map V.str) none (some (1 + rk)))) hq
      have eq4 : upd H3 q (.lst (cutV (kinds.map V.str) none (some (1 + rk)))) q = some (.lst ((kinds.take (rk.toNat + 1)).map V.str)) := by rw [upd_same, ec]
      have P4 := P3.same s4
      generalize upd H3 q (.lst (cutV (kinds.map V.str) none (some (1 + rk)))) = H4 at *
      refine ⟨q, _, rfl, .inl ⟨SqL.of eq4, fun l hl => ?_⟩⟩
      have s5 := same_new (o := .tup ((kinds.take (rk.toNat + 1)).map V.str)) hl
      refine ⟨(by show 2 ≤ sizeLine; decide), fun t ht => ?_⟩
      have s6 := same_new (o := .tup [V.str "risk", V.ref l]) ht
      have dks := dpAll_strs (K := K) (H := upd (upd H4 l (.tup ((kinds.take (rk.toNat + 1)).map V.str))) t (.tup [V.str "risk", V.ref l])) (kinds.take (rk.toNat + 1))
      refine k _ (.risk (kinds.take (rk.toNat + 1))) bu _ ⟨fun z => ?_, by rw [List.length_take]; omega, fun x hx => List.mem_of_mem_take hx⟩ (Nat.zero_le _) (Nat.zero_add _) (.tup (SqT.of upd_same) (.cons (.str _) (.cons (.tup (SqT.of (s6 _ _ upd_same)) dks) .nil))) (((P4.same s5).same s6).mono (by omega)) (fun b o z h1 h2 => s6 _ _ (s5 _ _ (s4 _ _ (b3 _ _ (b2 _ _ z h1 h2) h1 h2))))
      have := congrArg List.length z
      rw [List.length_take, List.length_nil] at this
      omega
    refine iteE (decide_eq_false h7) ?_
    -- call
    refine ⟨_, rfl, _, _, rfl, rfl, _, rfl, ?_⟩
    by_cases h9 : r < 9
    · refine iteS (decide_eq_true h9) ?_
      refine ⟨_, rfl, (by show 0 ≤ sizeLine; decide), fun z hz => ?_⟩
      have s3 := same_new (o := .lst []) hz
      refine ⟨.list (heads.map hdaD), .list [], .lst (SqL.of (s3 _ _ eh2)) (DpAll.ofPaired (Paired.mapP e62 fun _ _ z => z.same s3)), .lst (SqL.of upd_same) .nil, shh, by decide +kernel, _, rfl, iteS (by rw [eqh]; rfl) ?_⟩
      have P3 := P2.same s3
      have ev3 := ev2.but (But.of s3) P2
      have b3 : But p c H _ := fun b o z h1 h2 => s3 _ _ (b2 b o z h1 h2)
      clear hz
      generalize upd H2 z (.lst []) = H3 at *
      refine ⟨_, rfl, (by show 2 ≤ sizeLine; decide), fun D hD => ?_⟩
      have s4 := same_new (o := .lst [V.non, V.str tg]) hD
      have P4 := P3.same s4
      refine ⟨_, rfl, p, c, Lim bu, n + 2, 2, rfl, P4, by omega, by decide, by decide, fun rk H5 k0 k1 P5 b5 => ?_⟩
      have eD := b5 _ _ (upd_same (H := H3) (a := D) (o := .lst [V.non, V.str tg])) (P3.ne1 hD) (P3.ne2 hD)
      obtain ⟨to, hto, hat⟩ : ∃ to : Option Str, (∀ x, to = some x → x ∈ own) ∧ ∃ u, atI [V.non, V.str tg] rk = some u ∧ ∀ H : Hp, Dp K H u (optD to) := by
        have : rk = 0 ∨ rk = 1 := by omega
        rcases this with rfl | rfl
        · exact ⟨none, fun _ z => (nomatch z), _, rfl, fun _ => .non⟩
        · exact ⟨some tg, fun x z => by injection z with z; rw [← z]; exact htg, _, rfl, fun _ => .str _⟩
      obtain ⟨u, hat, du⟩ := hat
      have b35 : But p c H3 H5 := fun b o z h1 h2 => b5 _ _ (s4 _ _ z) h1 h2
      have ev5 := ev3.but b35 P3
      refine ⟨D, _, _, _, rfl, rfl, SqL.of eD, hat, (by show 2 ≤ sizeLine; decide), fun t1 ht1 => ?_⟩
      have s6 := same_new (o := .tup [V.str "call", u]) ht1
      have P6 := P5.same s6
      refine ⟨_, rfl, _, rfl, p, c, _, Lim bu, n + 2 + 1, own, kinds, heads, rfl, P6, by omega, ev5.but (But.of s6) P5, ok, fun x cl H7 hwc dx P7 b7 => ?_⟩
      have dx : Dp K H7 x (.tuple [.str cl.1, .tuple (cl.2.map argD)]) := dx
      obtain ⟨x0, xs, rfl, hx0, hxd⟩ := dx.tupInv
      obtain ⟨x1, x2, rfl, g1, g2⟩ := hxd.two
      have et1 : SqT K H7 t1 [V.str "call", u] := (b7.tps P6).sqt (SqT.of upd_same)
      refine ⟨t1, x0, _, _, rfl, rfl, et1, hx0, (by intro z; cases z), (by show 2 + 2 ≤ sizeLine; decide), (fun z => nomatch z), fun _ q hq => ?_⟩
      have s8 := same_new (o := .tup ([V.str "call", u] ++ [x1, x2])) hq
      exact k _ (.call to cl.1 cl.2) bu _ ⟨hto, hwc⟩ (Nat.zero_le _) (Nat.zero_add _) (.tup (SqT.of upd_same) (.cons (.str _) (.cons (du _) (.cons (g1.same s8) (.cons (g2.same s8) .nil))))) ((P7.same s8).mono (by omega)) (fun b o z h1 h2 => s8 _ _ (b7 _ _ (s6 _ _ (b35 _ _ (b3 _ _ z h1 h2) h1 h2)) h1 h2))
    refine iteE (decide_eq_false h9) (iteF ?_)
    refine ⟨_, rfl, _, _, rfl, rfl, _, rfl, ?_⟩
    by_cases h10 : r < 10
    · refine iteS (decide_eq_true h10) ?_
      cases last with
      | true =>
        refine ⟨_, rfl, true, rfl, iteS rfl ?_⟩
        refine ⟨_, rfl, (by show 2 ≤ sizeLine; decide), fun t ht => ?_⟩
        have s4 := same_new (o := .tup [V.str "input", V.str tg]) ht
        exact k _ (.input tg) bu _ htg (Nat.zero_le _) (Nat.zero_add _) (.tup (SqT.of upd_same) (.cons (.str _) (.cons (.str _) .nil))) ((P2.same s4).mono (by omega)) (fun b o z h1 h2 => s4 _ _ (b2 _ _ z h1 h2))
      | false =>
        refine ⟨_, rfl, false, rfl, iteE rfl ?_⟩
        refine ⟨_, rfl, _, rfl, p, c, nl, Lim bu, n + 2, own, rfl, P2, by omega, en2, e7.1, e7.2, ok.o.1, by omega, fun x ex H3 hex dx P3 b3 => ?_⟩
        refine ⟨(by show 2 ≤ sizeLine; decide), fun t ht => ?_⟩
        have s4 := same_new (o := .tup [V.str "return", x]) ht
        exact k _ (.ret ex) bu _ ⟨rfl, hex⟩ (Nat.zero_le _) (Nat.zero_add _) (.tup (SqT.of upd_same) (.cons (.str _) (.cons (dx.same s4) .nil))) ((P3.same s4).mono (by omega)) (fun b o z h1 h2 => s4 _ _ (b3 _ _ (b2 _ _ z h1 h2) h1 h2))
    refine iteE (decide_eq_false h10) ?_
    -- the first block
    obtain ⟨d, rfl⟩ : ∃ d', d = d' + 1 := by
      cases d with
      | zero => have := mz rfl; omega
      | succ d => exact ⟨d, rfl⟩
    clear hmx mz m18 m0 h3 h5 h7 h9
    have ed : (((d + 1 : Nat) : Int) - 1) = (d : Int) := by omega
    refine ⟨_, rfl, _, rfl, _, rfl, _, _, rfl, rfl, _, rfl, p, c, .ref e, n + 2, bu, d, last, own, kinds, heads, (by show [V.ref p, V.ref e, V.int (((d + 1 : Nat) : Int) - 1), V.bl last] = _; rw [ed]), P2, by omega, ev2, ok, fun h => by have := hf h (Nat.succ_pos _); omega, fun h => by have := ht h; omega, fun x b1 bu1 H3 w1 l1 d1 z1 dx1 P3 b3' => ?_⟩
    have b3 : But p c H H3 := fun b o z h1 h2 => b3' _ _ (b2 _ _ z h1 h2) h1 h2
    have ev3 := ev.but b3 P0
    have en3 := b3' _ _ en2 e7.1 e7.2
    have ek3 := b3' _ _ ek2 e8.1 e8.2
    have eh3 := b3' _ _ eh2 e9.1 e9.2
    have e63 : Paired (fun x h => Dp K H3 x (hdaD h)) hs heads := Paired.mapP e62 fun _ h z => Dp.tps (b3'.tps P2) z (noL_hda h)
    clear e62 en2 ek2 eh2 ev2 P2 b2 b3'
    -- if
    refine ⟨_, rfl, _, _, rfl, rfl, _, rfl, ?_⟩
    by_cases h12 : r < 12
    · refine iteS (decide_eq_true h12) (iteT ?_)
      refine ⟨_, rfl, _, rfl, _, rfl, _, rfl, _, _, rfl, rfl, _, rfl, p, c, .ref e, n + 2 + cb m, bu1, d, last, own, kinds, heads, (by show [V.ref p, V.ref e, V.int (((d + 1 : Nat) : Int) - 1), V.bl last] = _; rw [ed]), P3, by omega, ev3, ok, fun h => by have := hf h (Nat.succ_pos _); omega, fun h => by have := ht h; omega, fun y b2 bu2 H4 w2 l2 d2 z2 dx2 P4 b4 => ?_⟩
      refine ⟨(by show 3 ≤ sizeLine; decide), fun t ht => ?_⟩
      have s5 := same_new (o := .tup [V.str "if", x, y]) ht
      exact k _ (.ite b1 b2) bu2 _ ⟨w1, w2⟩ (Nat.max_le.mpr ⟨d1, d2⟩) (by show szB b1 + szB b2 + bu2 = bu; omega) (.tup (SqT.of upd_same) (.cons (.str _) (.cons ((Dp.tps (b4.tps P3) dx1 (noL_bl b1)).same s5) (.cons (dx2.same s5) .nil)))) ((P4.same s5).mono (by omega)) (fun b o z h1 h2 => s5 _ _ (b4 _ _ (b3 _ _ z h1 h2) h1 h2))
    refine iteE (decide_eq_false h12) ?_
    cases last with
    | true =>
      refine ⟨_, rfl, true, rfl, iteS rfl ?_⟩
      refine ⟨_, rfl, _, rfl, _, rfl, _, rfl, _, _, rfl, rfl, _, rfl, p, c, .ref e, n + 2 + cb m, bu1, d, true, own, kinds, heads, (by show [V.ref p, V.ref e, V.int (((d + 1 : Nat) : Int) - 1), V.bl true] = _; rw [ed]), P3, by omega, ev3, ok, fun h => (nomatch h), fun h => by have := ht h; omega, fun y b2 bu2 H4 w2 l2 d2 z2 dx2 P4 b4 => ?_⟩
      refine ⟨(by show 3 ≤ sizeLine; decide), fun t ht => ?_⟩
      have s5 := same_new (o := .tup [V.str "if", x, y]) ht
      exact k _ (.ite b1 b2) bu2 _ ⟨w1, w2⟩ (Nat.max_le.mpr ⟨d1, d2⟩) (by show szB b1 + szB b2 + bu2 = bu; omega) (.tup (SqT.of upd_same) (.cons (.str _) (.cons ((Dp.tps (b4.tps P3) dx1 (noL_bl b1)).same s5) (.cons (dx2.same s5) .nil)))) ((P4.same s5).mono (by omega)) (fun b o z h1 h2 => s5 _ _ (b4 _ _ (b3 _ _ z h1 h2) h1 h2))
    | false =>
    have hd := hf rfl (Nat.succ_pos _)
    refine ⟨_, rfl, false, rfl, iteE rfl ?_⟩
    -- while
    refine ⟨_, rfl, _, _, rfl, rfl, _, rfl, ?_⟩
    by_cases h13 : r < 13
    · refine iteS (decide_eq_true h13) ?_
      refine ⟨_, rfl, (by show 2 ≤ sizeLine; decide), fun t ht => ?_⟩
      have s5 := same_new (o := .tup [V.str "while", x]) ht
      exact k _ (.whl b1) bu1 _ ⟨rfl, w1⟩ d1 z1 (.tup (SqT.of upd_same) (.cons (.str _) (.cons (dx1.same s5) .nil))) ((P3.same s5).mono (by omega)) (fun b o z h1 h2 => s5 _ _ (b3 _ _ z h1 h2))
    refine iteE (decide_eq_false h13) ?_
    -- try
    refine ⟨_, rfl, _, _, rfl, rfl, _, rfl, ?_⟩
    by_cases h15 : r < 15
    · refine iteS (decide_eq_true h15) ?_
      refine ⟨_, rfl, p, c, Lim bu1, n + 2 + cb m, 3, rfl, P3, by omega, by decide, by decide, fun rh H4 k0 k1 P4 b4 => ?_⟩
      have ek4 := b4 _ _ ek3 e8.1 e8.2
      obtain ⟨lk2, rfl⟩ : ∃ i : Nat, rh = (i : Int) := ⟨rh.toNat, by omega⟩
      have lkt : lk2 ≤ 2 := by omega
      have P5 := P4
      have b5 : But p c H3 H4 := b4
      refine ⟨_, rfl, ((lk2 : Nat) : Int), rfl, by omega, by omega, fun D hD => ?_⟩
      have Dp' := P5.ne1 hD
      have Dc := P5.ne2 hD
      have s6 := same_new (o := .lst []) hD
      refine lc_range (lo := 0) (n := ((lk2 : Nat) : Int).toNat) (fun i H' => But p c H4 H' ∧ ∃ (us : List V) (hds : List Hd) (bu2 : Nat), H' D = some (.lst us) ∧ us.length = i ∧ Paired (fun x g => Dp K H' x (hdD g)) us hds ∧ wHs own kinds heads hds ∧ dpHs hds ≤ m ∧ szHs hds + bu2 = bu1 ∧ PoolAt H' p c (Lim bu2) (n + 2 + cb m + 1 + i * (cb m + 1))) ⟨But.of s6, [], [], bu1, upd_same, rfl, .nil, trivial, Nat.zero_le _, Nat.zero_add _, by rw [Nat.zero_mul]; exact P5.same s6⟩ ?_ ?_
      · rintro i H6 hi ⟨b6, us, hds, bu2, eD, lu, pu, wh, dh, zh, P6⟩
        have hi : i < lk2 := by omega
        have im : (i + 1) * (cb m + 1) = i * (cb m + 1) + (cb m + 1) := Nat.succ_mul _ _
        have i2 : (i + 1) * (cb m + 1) ≤ 2 * (cb m + 1) := Nat.mul_le_mul_right _ (by omega)
        have b36' : But p c H H6 := fun b o z h1 h2 => b6 _ _ (b5 _ _ (b3 _ _ z h1 h2) h1 h2) h1 h2
        have ek6 := b6 _ _ ek4 e8.1 e8.2
        refine ⟨wipe1 (by decide), V.ref p, by kernel_rfl, V.ref kl, by kernel_rfl, p, c, kl, Lim bu2, n + 2 + cb m + 1 + i * (cb m + 1), kinds, rfl, P6, by omega, ek6, e8.1, e8.2, ok.k.1, l2, fun t1 ks H7 qt1 k0' k2' kin P7 b7 => ?_⟩
        have b67' := b7
        have b57 : But p c H H7 := fun b o z h1 h2 => b7 _ _ (b36' _ _ z h1 h2) h1 h2
        refine ⟨V.ref p, by kernel_rfl, V.ref e, by kernel_rfl, V.int ((d + 1 : Nat) : Int), by kernel_rfl, _, _, rfl, rfl, p, c, .ref e, n + 2 + cb m + 1 + i * (cb m + 1) + 1, bu2, d, false, own, kinds, heads, (by show [V.ref p, V.ref e, V.int (((d + 1 : Nat) : Int) - 1), V.bl false] = _; rw [ed]), P7, by omega, ev.but b57 P0, ok, fun _ => by omega, fun h => (nomatch h), fun y b2 bu3 H8 w2 l2' d2 z2 dx2 P8 b8 => ?_⟩
        refine ⟨(by show 2 ≤ sizeLine; decide), fun t2 ht2 => ?_⟩
        have s9 := same_new (o := .tup [V.ref t1, y]) ht2
        have b69 : But p c H6 (upd H8 t2 (.tup [V.ref t1, y])) := fun b o z h1 h2 => s9 _ _ (b8 _ _ (b7 _ _ z h1 h2) h1 h2)
        have t69 := b69.tps P6
        have eD9 := b69 _ _ eD Dp' Dc
        have et1 : SqT K (upd H8 t2 (.tup [V.ref t1, y])) t1 (ks.map V.str) := (Tps.of s9).sqt ((b8.tps P7).sqt qt1)
        have t10 : Tps (upd H8 t2 (.tup [V.ref t1, y])) (upd (upd H8 t2 (.tup [V.ref t1, y])) D (.lst (us ++ [.ref t2]))) := Tps.lst eD9
        refine ⟨us, eD9, small1000 (by omega), fun b o z h1 h2 => ?_, us ++ [.ref t2], hds ++ [.mk ks b2], bu3, upd_same, by rw [List.length_append, lu]; rfl, ?_, wHs_snoc (s := .mk ks b2) (show (ks ≠ [] ∧ ks.length ≤ 2 ∧ ∀ x ∈ ks, x ∈ kinds) ∧ wL own kinds heads false b2 from ⟨⟨k0', k2', kin⟩, w2⟩) wh, ?_, ?_, ?_⟩
        · rw [upd_ne (ne_of_none z hD)]
          exact b69 _ _ (b6 _ _ z h1 h2) h1 h2
        · refine Paired.snoc (Paired.mapP pu fun _ g z => Dp.tps (t69.trans t10) z (noL_hd g)) ?_
          exact .tup (t10.sqt (SqT.of upd_same)) (.cons (.tup (t10.sqt et1) (dpAll_strs ks)) (.cons (Dp.tps t10 (dx2.same s9) (noL_bl b2)) .nil))
        · rw [dpHs_snoc]; exact Nat.max_le.mpr ⟨dh, d2⟩
        · rw [szHs_snoc]; show szHs hds + szB b2 + bu3 = bu1; omega
        · rw [im]
          exact ((P8.same s9).upd Dp' Dc).mono (by omega)
      · rintro H6 ⟨b6, us, hds, bu2, eD, lu, pu, wh, dh, zh, P6⟩
        have lhd := Paired.length pu
        rw [Int.toNat_natCast] at P6 lu
        have i2 : lk2 * (cb m + 1) ≤ 2 * (cb m + 1) := Nat.mul_le_mul_right _ lkt
        have b36 : But p c H3 H6 := fun b o z h1 h2 => b6 _ _ (b5 _ _ z h1 h2) h1 h2
        refine ⟨_, rfl, _, rfl, D, us, rfl, .inl ⟨SqL.of eD, fun l hl => ?_⟩⟩
        have s7 := same_new (o := .tup us) hl
        refine ⟨_, rfl, _, rfl, p, c, .ref e, _, bu2, 1, true, own, kinds, heads, rfl, P6.same s7, by omega, (ev3.but b36 P3).but (But.of s7) P6, ok, fun h => (nomatch h), fun _ => by omega, fun y b2 bu3 H8 w2 l2 d2 z2 dx2 P8 b8 => ?_⟩
        refine ⟨(by show 4 ≤ sizeLine; decide), fun t ht => ?_⟩
        have s9 := same_new (o := .tup [V.str "try", x, V.ref l, y]) ht
        have t68 := (Tps.of s7).trans (b8.tps (P6.same s7))
        refine k _ (.try_ b1 hds b2) bu3 _ ⟨rfl, by omega, w1, wh, w2⟩ (Nat.max_le.mpr ⟨d1, Nat.max_le.mpr ⟨dh, d2⟩⟩) (by show szB b1 + (szHs hds + szB b2) + bu3 = bu; omega) (.tup (SqT.of upd_same) (.cons (.str _) (.cons ((Dp.tps ((b36.tps P3).trans t68) dx1 (noL_bl b1)).same s9) (.cons (.tup (SqT.same s9 ((b8.tps (P6.same s7)).sqt (SqT.of upd_same))) ?_) (.cons (dx2.same s9) .nil))))) ((P8.same s9).mono (by omega)) (fun b o z h1 h2 => s9 _ _ (b8 _ _ (s7 _ _ (b36 _ _ (b3 _ _ z h1 h2) h1 h2)) h1 h2))
        rw [hdsD_map]
        exact DpAll.ofPaired (Paired.mapP pu fun _ g z => (Dp.tps t68 z (noL_hd g)).same s9)
    refine iteE (decide_eq_false h15) ?_
    -- undo
    refine ⟨_, rfl, _, rfl, nl, _, rfl, .inl (SqL.of en3), p, c, Lim bu1, n + 2 + cb m, _, rfl, P3, by omega, by rw [List.length_map]; omega, by rw [List.length_map]; omega, fun rf H4 f0 f1 P4 b4 => ?_⟩
    rw [List.length_map] at f1
    have en4 := b4 _ _ en3 e7.1 e7.2
    have eh4 := b4 _ _ eh3 e9.1 e9.2
    have t34 := b4.tps P3
    have b04 : But p c H H4 := fun b o z h1 h2 => b4 _ _ (b3 _ _ z h1 h2) h1 h2
    obtain ⟨ns, ecut, nne, nl2, nmem⟩ := cut_two f0 f1
    refine ⟨_, rfl, _, _, rfl, rfl, _, rfl, ?_⟩
    by_cases h17 : r < 17
    · refine iteS (decide_eq_true h17) (iteT ?_)
      refine ⟨_, rfl, _, rfl, _, rfl, _, rfl, _, _, rfl, rfl, _, rfl, nl, _, rfl, SqL.of en4, fun q hq => ?_⟩
      have s5 := same_new (o := .lst (cutV (own.map V.str) (some rf) (some (rf + 2)))) hq
      have eq5 : upd H4 q (.lst (cutV (own.map V.str) (some rf) (some (rf + 2)))) q = some (.lst (ns.map V.str)) := by rw [upd_same, ecut]
      have P5 := P4.same s5
      generalize upd H4 q (.lst (cutV (own.map V.str) (some rf) (some (rf + 2)))) = H5 at *
      refine ⟨q, _, rfl, .inl ⟨SqL.of eq5, fun l hl => ?_⟩⟩
      have s6 := same_new (o := .tup (ns.map V.str)) hl
      refine ⟨_, rfl, (by show 3 ≤ sizeLine; decide), fun t ht => ?_⟩
      have s7 := same_new (o := .tup [V.str "undo", V.ref l, x]) ht
      exact k _ (.undo ns b1) bu1 _ ⟨rfl, ⟨nne, by omega, nmem⟩, w1⟩ d1 z1 (.tup (SqT.of upd_same) (.cons (.str _) (.cons (.tup (SqT.of (s7 _ _ upd_same)) (dpAll_strs ns)) (.cons ((Dp.tps t34 dx1 (noL_bl b1)).same ((s5.trans s6).trans s7)) .nil)))) (((P5.same s6).same s7).mono (by omega)) (fun b o z h1 h2 => s7 _ _ (s6 _ _ (s5 _ _ (b04 _ _ z h1 h2))))
    refine iteE (decide_eq_false h17) ?_
    refine ⟨_, rfl, (by show 0 ≤ sizeLine; decide), fun z hz => ?_⟩
    have s5 := same_new (o := .lst []) hz
    refine ⟨.list (heads.map hdaD), .list [], .lst (SqL.of (s5 _ _ eh4)) (DpAll.ofPaired (Paired.mapP e63 fun _ h z => (Dp.tps t34 z (noL_hda h)).same s5)), .lst (SqL.of upd_same) .nil, shh, by decide +kernel, _, rfl, iteE eqh ?_⟩
    have P5 := P4.same s5
    have b05 : But p c H (upd H4 z (.lst [])) := fun b o z h1 h2 => s5 _ _ (b04 _ _ z h1 h2)
    have t35 := t34.trans (Tps.of s5)
    have b35 : But p c H3 (upd H4 z (.lst [])) := fun b o z h1 h2 => s5 _ _ (b4 _ _ z h1 h2)
    clear hz s5
    generalize upd H4 z (.lst []) = H5 at *
    -- with
    refine ⟨_, rfl, _, rfl, p, c, _, Lim bu1, _, own, kinds, heads, rfl, P5, by omega, ev.but b05 P0, ok, fun y1 c1 H6 wc1 dc1 P6 b6 => ?_⟩
    have b06 : But p c H H6 := fun b o z h1 h2 => b6 _ _ (b05 _ _ z h1 h2) h1 h2
    refine ⟨_, rfl, _, rfl, p, c, _, Lim bu1, _, own, kinds, heads, rfl, P6, by omega, ev.but b06 P0, ok, fun y2 c2 H7 wc2 dc2 P7 b7 => ?_⟩
    have b07 : But p c H H7 := fun b o z h1 h2 => b7 _ _ (b06 _ _ z h1 h2) h1 h2
    refine ⟨_, rfl, _, rfl, p, c, Lim bu1, _, 3, rfl, P7, by omega, by decide, by decide, fun rk H8 k0 k1 P8 b8 => ?_⟩
    have b08 : But p c H H8 := fun b o z h1 h2 => b8 _ _ (b07 _ _ z h1 h2) h1 h2
    have b58 : But p c H5 H8 := fun b o z h1 h2 => b8 _ _ (b7 _ _ (b6 _ _ z h1 h2) h1 h2) h1 h2
    have ek8 := b58 _ _ (b35 _ _ ek3 e8.1 e8.2) e8.1 e8.2
    refine ⟨_, rfl, kl, _, rfl, SqL.of ek8, fun q hq => ?_⟩
    rw [cut_upto k0]
    have s9 := same_new (o := .lst ((kinds.take rk.toNat).map V.str)) hq
    have eq9 : upd H8 q (.lst ((kinds.take rk.toNat).map V.str)) q = some (.lst ((kinds.take rk.toNat).map V.str)) := upd_same
    have P9 := P8.same s9
    generalize upd H8 q (.lst ((kinds.take rk.toNat).map V.str)) = H9 at *
    refine ⟨q, _, rfl, .inl ⟨SqL.of eq9, fun l hl => ?_⟩⟩
    have s10 := same_new (o := .tup ((kinds.take rk.toNat).map V.str)) hl
    refine ⟨_, rfl, (by show 5 ≤ sizeLine; decide), fun t ht => ?_⟩
    have s11 := same_new (o := .tup [V.str "with", y1, y2, V.ref l, x]) ht
    have s911 := (s9.trans s10).trans s11
    have t78 := b8.tps P7
    have t68 := (b7.tps P6).trans t78
    have t58 := b58.tps P5
    exact k _ (.with_ c1 c2 (kinds.take rk.toNat) b1) bu1 _ ⟨rfl, wc1, wc2, ⟨by rw [List.length_take]; omega, fun x hx => List.mem_of_mem_take hx⟩, w1⟩ d1 z1 (.tup (SqT.of upd_same) (.cons (.str _) (.cons ((Dp.tps t68 dc1 (noL_cal c1)).same s911) (.cons ((Dp.tps t78 dc2 (noL_cal c2)).same s911) (.cons (.tup (SqT.of (s11 _ _ upd_same)) (dpAll_strs _)) (.cons ((Dp.tps (t35.trans t58) dx1 (noL_bl b1)).same s911) .nil)))))) (((P9.same s10).same s11).mono (by omega)) (fun b o z h1 h2 => s11 _ _ (s10 _ _ (s9 _ _ (b08 _ _ z h1 h2))))
end

/-! ### the law's drawn tree -/
abbrev sLTr : Stmt := topS 40
abbrev NLTr : List Str := ["_law_pool_here", "_law_words", "_law_names_here", "_law_kinds", "_law_heads_here", "_law_k", "_law_params", "_law_keeps", "_law_functions", "_law_head", "_law_own", "_law_param", "_law_first"]
abbrev PLTr : List Str := ["_law_pool_here"]
theorem scLTr : FnScope NLTr PLTr (defScope sLTr) := ⟨rfl, rfl, rfl, by decide +kernel, rfl, by decide +kernel, by decide +kernel⟩
def rCatU (K : PySem.W.Frag) : R2 := fun x y H Q => ∃ a b xs ys, x = .ref a ∧ y = .ref b ∧ SqT K H a xs ∧ SqT K H b ys ∧ xs ≠ [] ∧ xs.length + ys.length ≤ sizeLine ∧ ∀ p H', Same H H' → SqT K H' p (xs ++ ys) → Q (.ref p) H'
theorem op_catU {X : Cx} : OpR X (binaryOp .Add) (rCatU X.K) := fun pins s σ H x y v u Q I rx ry ⟨a, b, xs, ys, e1, e2, q1, q2, ne, sz, k⟩ =>
  op_catT pins s σ H x y v u Q I rx ry ⟨a, b, xs, ys, e1, e2, q1, q2, ne, sz, fun e => k a H (Same.refl _) (by rw [e, List.append_nil]; exact q1), fun _ p hp => k p _ (same_new hp) (SqT.of upd_same)⟩
structure LsAt (H : Hp) (p c q : Addr) (xs : List V) : Prop where
  e : H q = some (.lst xs)
  n1 : q ≠ p
  n2 : q ≠ c
theorem LsAt.but {H H' : Hp} {p c q : Addr} {xs : List V} (h : LsAt H p c q xs) (b : But p c H H') : LsAt H' p c q xs := ⟨b _ _ h.e h.n1 h.n2, h.n1, h.n2⟩
theorem LsAt.same {H H' : Hp} {p c q : Addr} {xs : List V} (h : LsAt H p c q xs) (b : Same H H') : LsAt H' p c q xs := ⟨b _ _ h.e, h.n1, h.n2⟩
theorem LsAt.new {H : Hp} {p c q : Addr} {xs : List V} {lim : V} {n : Nat} (h : PoolAt H p c lim n) (hq : H q = none) : LsAt (upd H q (.lst xs)) p c q xs := ⟨upd_same, h.ne1 hq, h.ne2 hq⟩
theorem LsAt.upd {H : Hp} {p c q r : Addr} {xs : List V} {o : HO} (h : LsAt H p c q xs) (n : q ≠ r) : LsAt (upd H r o) p c q xs := ⟨by rw [upd_ne n]; exact h.e, h.n1, h.n2⟩
theorem cut_3 {l : List Str} {r : Int} (r0 : 0 ≤ r) : cutV (l.map V.str) (some 3) (some (4 + r)) = ((l.drop 3).take (1 + r.toNat)).map V.str := by
  obtain ⟨a, rfl⟩ : ∃ a : Nat, r = (a : Int) := ⟨r.toNat, by omega⟩
  unfold cutV
  rw [show (3 : Int) = ((3 : Nat) : Int) from rfl, show ((4 : Int) + (a : Int)) = ((4 + a : Nat) : Int) by omega, HT.sIx_nat, HT.sIx_nat, List.length_map, List.map_take, List.map_drop, Int.toNat_natCast]
  rcases Nat.le_or_ge l.length 3 with h | h
  · rw [Nat.min_eq_right h, List.drop_of_length_le (by rw [List.length_map]; exact Nat.le_refl _), List.drop_of_length_le (by rw [List.length_map]; exact h)]
    simp
  · rw [Nat.min_eq_left h, List.take_eq_take_iff, List.length_drop, List.length_map]
    omega
theorem dpAll_take {K : PySem.W.Frag} {H : Hp} : ∀ {xs : List V} {ds : List PyData} (k : Nat), DpAll K H xs ds → DpAll K H (xs.take k) (ds.take k)
  | _, _, 0, _ => by rw [List.take_zero, List.take_zero]; exact .nil
  | _, _, _ + 1, .nil => by rw [List.take_nil, List.take_nil]; exact .nil
  | _, _, k + 1, .cons a b => by rw [List.take_succ_cons, List.take_succ_cons]; exact .cons a (dpAll_take k b)
theorem cut_last {l : List V} {x : V} : cutV (l ++ [x]) none (some (-1)) = l := by
  unfold cutV
  rw [HT.sIx_none, List.drop_zero]
  show (l ++ [x]).take ((if (-1 : Int) < 0 then ((-1 : Int) + ((l ++ [x]).length : Int)).toNat else min (-1 : Int).toNat (l ++ [x]).length) - 0) = l
  rw [if_pos (by decide), List.length_append]
  have e : ((-1 : Int) + ((l.length + [x].length : Nat) : Int)).toNat - 0 = l.length := by
    show ((-1 : Int) + ((l.length + 1 : Nat) : Int)).toNat - 0 = _
    omega
  rw [e, List.take_append_of_le_length (Nat.le_refl _), List.take_length]
theorem split8 {ws : List Str} {w8 w9 w10 : Str} (h8 : ws[8]? = some w8) (h9 : ws[9]? = some w9) (h10 : ws[10]? = some w10) : ∃ r, ws.drop 8 = w8 :: w9 :: w10 :: r := by
  have e : ∀ i, (ws.drop 8)[i]? = ws[8 + i]? := fun i => List.getElem?_drop
  have e0 := e 0
  have e1 := e 1
  have e2 := e 2
  rw [h8] at e0
  rw [h9] at e1
  rw [h10] at e2
  cases h : ws.drop 8 with
  | nil => rw [h] at e0; cases e0
  | cons a r =>
    rw [h] at e0 e1 e2
    cases r with
    | nil => cases e1
    | cons b r =>
      cases r with
      | nil => cases e2
      | cons d r =>
        simp at e0 e1 e2
        subst e0 e1 e2
        exact ⟨r, rfl⟩
theorem take2_sub {a b : Str} (k : Nat) : ([a, b].take k).Sublist [a, b] := List.take_sublist _ _
theorem own_sub {ws : List Str} {w8 w9 w10 : Str} (h8 : ws[8]? = some w8) (h9 : ws[9]? = some w9) (h10 : ws[10]? = some w10) {nN : Nat} (hN : nN ≤ 8) {q : List Str} (hq : q.Sublist [w8, w9]) : (ws.take nN ++ (q ++ [w10])).Sublist ws := by
  obtain ⟨r, e⟩ := split8 h8 h9 h10
  have z : ws = ws.take 8 ++ (w8 :: w9 :: w10 :: r) := by rw [← e, List.take_append_drop]
  have s1 : (ws.take nN).Sublist (ws.take 8) := List.take_sublist_take_left hN
  have s2 : (q ++ [w10]).Sublist (w8 :: w9 :: w10 :: r) := by
    have z2 : (q ++ [w10]).Sublist ([w8, w9] ++ (w10 :: r)) := List.Sublist.append hq (List.Sublist.cons₂ _ (List.nil_sublist _))
    exact z2
  exact (s1.append s2).trans (by rw [← z]; exact List.Sublist.refl _)
/-- what is drawn -/
structure DrawnT (t : Tr) : Prop where
  ex : ∃ ws : List Str, NamesOk ws ∧ ws.length = 16 ∧ ∃ nN nK : Nat, nN ≤ 2 ∧ 1 ≤ nK ∧ nK ≤ 2 ∧ t.names = ws.take nN ∧ t.kinds = (ws.drop 3).take nK ∧
    (∀ e ∈ t.keeps, e.c = 0 ∧ EX t.names e) ∧ t.keeps.length ≤ 1 ∧ 1 ≤ t.fns.length ∧ t.fns.length ≤ 3 ∧ t.fns.map Fn.name = (ws.drop 5).take t.fns.length ∧
    (t.fns.map fun f => szB f.b).sum ≤ 33 ∧
    ∃ w8 w9 w10, ws[8]? = some w8 ∧ ws[9]? = some w9 ∧ ws[10]? = some w10 ∧
      ∀ f ∈ t.fns, (∃ b1 b2 k, f.ps = [(w8, b1), (w9, b2)].take k) ∧ ∃ e blk, f.b = .set w10 e :: blk ∧ blk.length ≤ 3 ∧ dpB blk ≤ 5 ∧ EX (t.names ++ prs f) e ∧
        wL (t.names ++ (prs f ++ [w10])) t.kinds (t.fns.map fun f => (f.name, f.ps)) false blk
def ct : Nat := 200 + 3 * (100 + cb 5)
theorem ct_eq : ct = 200 + 3 * (100 + cb 5) := rfl
theorem cb5 : cb 5 ≤ 20000000 := by decide
def spLTr (K : PySem.W.Frag) : Sp := fun vs H Q _ => ∃ (p c : Addr) (n : Nat), vs = [.ref p] ∧ PoolAt H p c (Lim 30) n ∧ n ≤ 1000000000 ∧
  ∀ (v : V) (t : Tr) (bu : Nat) (H' : Hp), DrawnT t → Dp K H' v (trD t) → PoolAt H' p c (Lim bu) (n + ct) → But p c H H' → Q v H'
section
variable {P : Program} {w : World} {K : PySem.W.Frag} {mg : Str → Option Value} {base : Heap}
theorem ok_pb {fp fb : Addr} {dp db : FuncData} (FP : Fun K "_law_piece" "_law_piece" sLPi fp dp) (FB : Fun K "_law_block" "_law_block" sLBk fb db) (T : TxGen mg)
    (mp : mg "_law_piece" = some (.ref fp)) (kp : PySem.W.keepIn K (.ref fp) = true) (bp : Binds K dp PLPi []) (mb : mg "_law_block" = some (.ref fb)) (kb : PySem.W.keepIn K (.ref fb) = true) (bb : Binds K db PLBk [])
    (GD : Has P w K mg base CX0 2 "_law_draw" PDraw spDraw) (GE : Has P w K mg base CX0 3 "_law_expression" PLEx (spLEx K)) (GC : Has P w K mg base CX0 5 "_law_call" PLCa (spLCa K)) (GS : Has P w K mg base CX0 3 "_law_some" PLSo (spLSo K)) : ∀ m, FnOk P w K mg base CX0 (5 + 2 * m) fb db PLBk (spLBk K m) := by
  have vac : ∀ {vs : List V} {H : Hp} {Q : VK} {E : XK}, spLBk K 0 vs H Q E → False := fun h => by
    obtain ⟨p, c, v, n, bu, d, last, own, kinds, heads, rfl, P0, hn, ev, ok, hf, ht, k⟩ := h
    cases last with
    | true => have := ht rfl; omega
    | false => have := hf rfl; omega
  intro m
  induction m with
  | zero => exact ⟨fun vs H Q E h => (vac h).elim, fun _ _ _ _ _ _ _ _ _ _ _ _ _ h => (vac h).elim⟩
  | succ m ih =>
    have GB : Has P w K mg base CX0 (5 + 2 * m) "_law_block" PLBk (spLBk K m) := ⟨fb, db, ih, mb, kb, bb⟩
    have GP : Has P w K mg base CX0 (5 + 2 * m + 1) "_law_piece" PLPi (spLPi K m) := ⟨fp, dp, ok_LPi FP T GD GE GC GS GB, mp, kp, bp⟩
    rw [show 5 + 2 * m + 1 = 6 + 2 * m by omega] at GP
    have r := ok_LBk FB T GD GP
    rw [show 6 + 2 * m + 1 = 5 + 2 * (m + 1) by omega] at r
    exact r
theorem ok_LTr {f : Addr} {fd : FuncData} (F : Fun K "_law_tree" "_law_tree" sLTr f fd) (T : TxGen mg) (GD : Has P w K mg base CX0 2 "_law_draw" PDraw spDraw) (GN : Has P w K mg base CX0 3 "_law_names" PNames spNames) (GE : Has P w K mg base CX0 3 "_law_expression" PLEx (spLEx K)) (GB : Has P w K mg base CX0 15 "_law_block" PLBk (spLBk K 5)) : FnOk P w K mg base CX0 16 f fd PLTr (spLTr K) := by
  refine F.ok scLTr (fun vs H Q E h => ?_) (fun cdv A outer s H vs Q E hr h => ?_)
  · obtain ⟨p, c, n, rfl, _⟩ := h
    rfl
  · obtain ⟨p, c, n, rfl, P0, hn, k⟩ := h
    have hr2 := hr.mono (j := 2) (by omega)
    have hr3 := hr.mono (j := 3) (by omega)
    have hcb := cb5
    have hct := ct_eq
    obtain ⟨c5, hc5⟩ : ∃ c5, c5 = cb 5 := ⟨_, rfl⟩
    rw [← hc5] at hcb hct
    refine ⟨_, (pss_cons (ps_set (i := 1) scLTr.nd rfl (Or.inl rfl) (pe_callH GN hr3 rfl pass0 (pa_cons (pv 0) pa_nil)))
  (pss_cons (ps_set (i := 2) scLTr.nd rfl (Or.inl rfl) (pe_slice sl_list (pv 1) po_none (po_some (pe_callH GD hr2 rfl pass0 (pa_cons (pv 0) (pa_cons pe_int pa_nil))))))
  (pss_cons (ps_set (i := 3) scLTr.nd rfl (Or.inl rfl) (pe_slice sl_list (pv 1) (po_some pe_int) (po_some (pe_op op_add pe_int (pe_callH GD hr2 rfl pass0 (pa_cons (pv 0) (pa_cons pe_int pa_nil)))))))
  (pss_cons (ps_set (i := 4) scLTr.nd rfl (Or.inl rfl) (pe_lst pa_nil))
  (pss_cons (ps_for PassesOwn.never rfl (pi_range1 (by rfl) T.n_range (pa_cons (pe_op op_add pe_int (pe_callH GD hr2 rfl pass0 (pa_cons (pv 0) (pa_cons pe_int pa_nil)))) pa_nil)) (pg_name (i := 5) scLTr.nd rfl (Or.inl rfl))
  (pss_cons (ps_set (i := 6) scLTr.nd rfl (Or.inl rfl) (pe_lst (pa_cons (pe_tup (pa_cons (pe_ix (r := rIxL K) ix_list (pv 1) pe_int (fun _ _ => rfl)) (pa_cons (pe_cmpR op_eq (pe_callH GD hr2 rfl pass0 (pa_cons (pv 0) (pa_cons pe_int pa_nil))) pe_int (nomark _)) pa_nil))) (pa_cons (pe_tup (pa_cons (pe_ix (r := rIxL K) ix_list (pv 1) pe_int (fun _ _ => rfl)) (pa_cons (pe_cmpR op_eq (pe_callH GD hr2 rfl pass0 (pa_cons (pv 0) (pa_cons pe_int pa_nil))) pe_int (nomark _)) pa_nil))) pa_nil))))
  (pss_one (ps_expr (pe_bm PySem.F.plainAttrs_list PySem.F.slot_list_append PySem.F.type_list_append mt_append (pv 4) (pa_cons (pe_tup (pa_cons (pe_ix (r := rIxL K) ix_list (pv 1) (pe_op op_add pe_int (pv 5)) (fun _ _ => rfl)) (pa_cons (pe_callTy call_tuple_of (by rfl) T.n_tuple bb_tuple (pa_cons (pe_slice sl_list (pv 6) po_none (po_some (pe_callH GD hr2 rfl pass0 (pa_cons (pv 0) (pa_cons pe_int pa_nil))))) pa_nil)) pa_nil))) pa_nil))))))
  (pss_cons (ps_set (i := 7) scLTr.nd rfl (Or.inl rfl) (pe_lst pa_nil))
  (C8.pss_cut (ps_if (PW.pt (pw_and (pt_cmpR op_gt (pe_callB call_len_seq (by rfl) T.n_len bb_len (pa_cons (pv 2) pa_nil)) pe_int (nomark _)) (pw_and1 (pt_cmpR op_eq (pe_callH GD hr2 rfl pass0 (pa_cons (pv 0) (pa_cons pe_int pa_nil))) pe_int (nomark _)))))
  (pss_one (ps_expr (pe_bm PySem.F.plainAttrs_list PySem.F.slot_list_append PySem.F.type_list_append mt_append (pv 7) (pa_cons (pe_tup (pa_cons pe_int (pa_cons (pe_ix (r := rIxT K) ix_tup (pe_callH GE hr3 rfl pass0 (pa_cons (pv 0) (pa_cons (pv 2) (pa_cons pe_int pa_nil)))) pe_int (fun _ _ => rfl)) pa_nil))) pa_nil))))
  pss_nil)
  (pss_cons (ps_set (i := 8) scLTr.nd rfl (Or.inl rfl) (pe_lst pa_nil))
  (pss_cons (ps_for PassesOwn.never rfl (pi_list (pv 4)) (pg_name (i := 9) scLTr.nd rfl (Or.inl rfl))
  (pss_cons (ps_set (i := 10) scLTr.nd rfl (Or.inl rfl) (pe_op op_cat (pe_op op_cat (pv 2) (pe_lc (own := [("_law_param", 11)]) (g := gName 11) (tt := tYes) rfl scLTr.nd (pi_tup (pe_ix (r := rIxT K) ix_tup (pv 9) pe_int (fun _ _ => rfl))) (blkOk_by (own := [("_law_param", 11)]) (N := NLTr) (sc := (defScope sLTr)) (by decide +kernel)) (fun _ _ _ _ _ => (pg_name (i := 11) scLTr.nd rfl (Or.inl rfl))) (fun _ _ _ _ _ => pts_nil) (fun _ _ _ _ _ => (pe_ix (r := rIxT K) ix_tup (pv 11) pe_int (fun _ _ => rfl))))) (pe_lst (pa_cons (pe_ix (r := rIxL K) ix_list (pv 1) pe_int (fun _ _ => rfl)) pa_nil))))
  (pss_cons (ps_set (i := 12) scLTr.nd rfl (Or.inl rfl) (pe_tup (pa_cons pe_str (pa_cons (pe_ix (r := rIxL K) ix_list (pv 1) pe_int (fun _ _ => rfl)) (pa_cons (pe_callH GE hr3 rfl pass0 (pa_cons (pv 0) (pa_cons (pe_slice sl_list (pv 10) po_none (po_some (pe_un un_neg pe_int))) (pa_cons pe_int pa_nil)))) pa_nil)))))
  (pss_one (ps_expr (pe_bm PySem.F.plainAttrs_list PySem.F.slot_list_append PySem.F.type_list_append mt_append (pv 8) (pa_cons (pe_op op_catU (pv 9) (pe_tup (pa_cons (pe_op op_catU (pe_tup (pa_cons (pv 12) pa_nil)) (pe_callH GB hr rfl pass0 (pa_cons (pv 0) (pa_cons (pe_tup (pa_cons (pv 10) (pa_cons (pv 3) (pa_cons (pv 4) pa_nil)))) (pa_cons pe_int (pa_cons pe_bl pa_nil)))))) pa_nil))) pa_nil)))))))
  (pss_one (ps_ret (pe_tup (pa_cons (pe_callTy call_tuple_of (by rfl) T.n_tuple bb_tuple (pa_cons (pv 2) pa_nil)) (pa_cons (pe_callTy call_tuple_of (by rfl) T.n_tuple bb_tuple (pa_cons (pv 3) pa_nil)) (pa_cons (pe_callTy call_tuple_of (by rfl) T.n_tuple bb_tuple (pa_cons (pv 7) pa_nil)) (pa_cons (pe_callTy call_tuple_of (by rfl) T.n_tuple bb_tuple (pa_cons (pv 8) pa_nil)) pa_nil)))))))))))))))), ?_⟩
    refine ⟨_, rfl, p, c, Lim 30, n, rfl, P0, by omega, fun wl ws H1 nok l16 P1 b1 nw ew => ?_⟩
    have lw : LsAt H1 p c wl (ws.map V.str) := ⟨ew, P0.ne1 nw, P0.ne2 nw⟩
    have fw := nw
    clear ew nw
    refine ⟨_, rfl, _, rfl, p, c, Lim 30, n + 2, 3, rfl, P1, by omega, by decide, by decide, fun rN H2 rN0 rN1 P2 b2 => ?_⟩
    have lw := lw.but b2
    refine ⟨_, rfl, wl, _, rfl, SqL.of lw.e, fun nl hnl => ?_⟩
    rw [cut_upto rN0]
    have ln : LsAt (upd H2 nl (.lst ((ws.take rN.toNat).map V.str))) p c nl _ := LsAt.new P2 hnl
    have s3 := same_new (o := .lst ((ws.take rN.toNat).map V.str)) hnl
    have P3 := P2.same s3
    have lw := lw.same s3
    have b3 : But p c H _ := fun b o z h1 h2 => s3 _ _ (b2 _ _ (b1 _ _ z h1 h2) h1 h2)
    clear hnl s3 b2 P2 P1 b1
    generalize upd H2 nl (.lst ((ws.take rN.toNat).map V.str)) = H3 at *
    refine ⟨_, rfl, _, rfl, _, rfl, p, c, Lim 30, n + 3, 2, rfl, P3, by omega, by decide, by decide, fun rK H4 rK0 rK1 P4 b4 => ?_⟩
    have lw := lw.but b4
    have ln := ln.but b4
    refine ⟨_, _, rfl, rfl, _, rfl, wl, _, rfl, SqL.of lw.e, fun kl hkl => ?_⟩
    rw [cut_3 rK0]
    have lk : LsAt (upd H4 kl (.lst (((ws.drop 3).take (1 + rK.toNat)).map V.str))) p c kl _ := LsAt.new P4 hkl
    have s5 := same_new (o := .lst (((ws.drop 3).take (1 + rK.toNat)).map V.str)) hkl
    have P5 := P4.same s5
    have lw := lw.same s5
    have ln := ln.same s5
    have b5 : But p c H _ := fun b o z h1 h2 => s5 _ _ (b4 _ _ (b3 _ _ z h1 h2) h1 h2)
    clear hkl s5 b4 P4 P3 b3
    generalize upd H4 kl (.lst (((ws.drop 3).take (1 + rK.toNat)).map V.str)) = H5 at *
    refine ⟨(by show 0 ≤ sizeLine; decide), fun hl hhl => ?_⟩
    have lh : LsAt (upd H5 hl (.lst [])) p c hl [] := LsAt.new P5 hhl
    have s6 := same_new (o := .lst []) hhl
    have hw : hl ≠ wl := fun z => by rw [z, lw.e] at hhl; cases hhl
    have hN : hl ≠ nl := fun z => by rw [z, ln.e] at hhl; cases hhl
    have hK : hl ≠ kl := fun z => by rw [z, lk.e] at hhl; cases hhl
    have P6 := P5.same s6
    have lw := lw.same s6
    have ln := ln.same s6
    have lk := lk.same s6
    have b6 : But p c H _ := fun b o z h1 h2 => s6 _ _ (b5 _ _ z h1 h2)
    have hlp := P5.ne1 hhl
    have hlc := P5.ne2 hhl
    have fh : H hl = none := by
      cases q : H hl with
      | none => rfl
      | some o =>
        have z : H5 hl = some o := b5 _ _ q hlp hlc
        rw [hhl] at z; cases z
    clear hhl s6 b5 P5
    generalize upd H5 hl (.lst []) = H6 at *
    obtain ⟨w8, h8⟩ : ∃ x, ws[8]? = some x := ⟨_, List.getElem?_eq_getElem (by omega)⟩
    obtain ⟨w9, h9⟩ : ∃ x, ws[9]? = some x := ⟨_, List.getElem?_eq_getElem (by omega)⟩
    obtain ⟨w10, h10⟩ : ∃ x, ws[10]? = some x := ⟨_, List.getElem?_eq_getElem (by omega)⟩
    have a8 : atI (ws.map V.str) 8 = some (.str w8) := atI_nat (j := 8) (by rw [List.getElem?_map, h8]; rfl)
    have a9 : atI (ws.map V.str) 9 = some (.str w9) := atI_nat (j := 9) (by rw [List.getElem?_map, h9]; rfl)
    have a10 : atI (ws.map V.str) 10 = some (.str w10) := atI_nat (j := 10) (by rw [List.getElem?_map, h10]; rfl)
    refine ⟨_, rfl, p, c, Lim 30, n + 4, 3, rfl, P6, by omega, by decide, by decide, fun rh H7 rh0 rh1 P7 b7 => ?_⟩
    have b67 : But p c H H7 := fun b o z h1 h2 => b7 _ _ (b6 _ _ z h1 h2) h1 h2
    have lw := lw.but b7
    have ln := ln.but b7
    have lk := lk.but b7
    have lh := lh.but b7
    refine ⟨_, _, rfl, rfl, _, rfl, by omega, by omega, ?_⟩
    refine for_range (lo := 0) (n := (1 + rh).toNat) (fun i σ H' => (∃ x5 x6 : Option V, σ = [some (.ref p), some (.ref wl), some (.ref nl), some (.ref kl), some (.ref hl), x5, x6, none, none, none, none, none, none]) ∧ PoolAt H' p c (Lim 30) (n + 5 + 3 * i) ∧ But p c H H' ∧ LsAt H' p c wl (ws.map V.str) ∧ LsAt H' p c nl ((ws.take rN.toNat).map V.str) ∧ LsAt H' p c kl (((ws.drop 3).take (1 + rK.toNat)).map V.str) ∧
      ∃ hs heads, LsAt H' p c hl hs ∧ hs.length = i ∧ Paired (fun x h => Dp K H' x (hdaD h)) hs heads ∧ heads.map Prod.fst = (ws.drop 5).take i ∧ ∀ h ∈ heads, ∃ b1 b2 k, h.2 = [(w8, b1), (w9, b2)].take k)
      ⟨⟨_, _, rfl⟩, P7, b67, lw, ln, lk, [], [], lh, rfl, .nil, by simp, fun _ z => (nomatch z)⟩ ?_ ?_
    · rintro i σ H8 hi ⟨⟨x5, x6, rfl⟩, P8, b8, lw8, ln, lk, hs, heads, lh, lhs, ph, hf, hp⟩
      have lw := lw8
      have hi3 : i < 3 := by omega
      obtain ⟨wi, hwi⟩ : ∃ x, ws[5 + i]? = some x := ⟨_, List.getElem?_eq_getElem (by omega)⟩
      have ai : atI (ws.map V.str) (5 + (0 + (i : Int))) = some (.str wi) := by
        rw [show (5 + (0 + (i : Int))) = ((5 + i : Nat) : Int) by omega]
        exact atI_nat (by rw [List.getElem?_map, hwi]; rfl)
      refine ⟨_, rfl, wl, _, _, _, rfl, rfl, SqL.of lw.e, a8, ?_⟩
      refine ⟨_, rfl, p, c, Lim 30, n + 5 + 3 * i, 2, rfl, P8, by omega, by decide, by decide, fun r1 H9 r10 r11 P9 b9 => ?_⟩
      have lw := lw.but b9
      refine ⟨rfl, (by show 2 ≤ sizeLine; decide), fun t1 ht1 => ?_⟩
      have s10 := same_new (o := .tup [V.str w8, V.bl (decide (V.int r1 = V.int 1))]) ht1
      have P10 := P9.same s10
      have lw := lw.same s10
      have b810 : But p c H8 (upd H9 t1 (.tup [V.str w8, V.bl (decide (V.int r1 = V.int 1))])) := fun b o z h1 h2 => s10 _ _ (b9 _ _ z h1 h2)
      have e1 : upd H9 t1 (.tup [V.str w8, V.bl (decide (V.int r1 = V.int 1))]) t1 = some (.tup [V.str w8, V.bl (decide (V.int r1 = V.int 1))]) := upd_same
      generalize upd H9 t1 (.tup [V.str w8, V.bl (decide (V.int r1 = V.int 1))]) = H10 at *
      refine ⟨_, rfl, wl, _, _, _, rfl, rfl, SqL.of lw.e, a9, ?_⟩
      refine ⟨_, rfl, p, c, Lim 30, n + 5 + 3 * i + 1, 2, rfl, P10, by omega, by decide, by decide, fun r2 H11 r20 r21 P11 b11 => ?_⟩
      have lw := lw.but b11
      have t11 := b11.tps P10
      refine ⟨rfl, (by show 2 ≤ sizeLine; decide), fun t2 ht2 => ?_⟩
      have s12 := same_new (o := .tup [V.str w9, V.bl (decide (V.int r2 = V.int 1))]) ht2
      have P12 := P11.same s12
      have lw := lw.same s12
      have b812 : But p c H8 (upd H11 t2 (.tup [V.str w9, V.bl (decide (V.int r2 = V.int 1))])) := fun b o z h1 h2 => s12 _ _ (b11 _ _ (b810 _ _ z h1 h2) h1 h2)
      have e2 : upd H11 t2 (.tup [V.str w9, V.bl (decide (V.int r2 = V.int 1))]) t2 = some (.tup [V.str w9, V.bl (decide (V.int r2 = V.int 1))]) := upd_same
      have e1 := s12 _ _ (t11.1 _ _ e1)
      clear s12 P11 b11 t11 P10 ht1 s10 b9 P9 b810
      generalize upd H11 t2 (.tup [V.str w9, V.bl (decide (V.int r2 = V.int 1))]) = H12 at *
      refine ⟨(by show 2 ≤ sizeLine; decide), fun pl hpl => ?_⟩
      have lp : LsAt (upd H12 pl (.lst [V.ref t1, V.ref t2])) p c pl _ := LsAt.new P12 hpl
      have s13 := same_new (o := .lst [V.ref t1, V.ref t2]) hpl
      have P13 := P12.same s13
      have lw := lw.same s13
      have e1 := s13 _ _ e1
      have e2 := s13 _ _ e2
      have b813 : But p c H8 (upd H12 pl (.lst [V.ref t1, V.ref t2])) := fun b o z h1 h2 => s13 _ _ (b812 _ _ z h1 h2)
      clear s13 P12 hpl b812
      generalize upd H12 pl (.lst [V.ref t1, V.ref t2]) = H13 at *
      have lh13 := lh.but b813
      -- heads.append
      refine ⟨_, rfl, .inl ⟨rfl, _, SqL.of lh13.e⟩, _, rfl, _, rfl, _, _, rfl, rfl, wl, _, _, _, rfl, rfl, SqL.of lw.e, ai, ?_⟩
      refine ⟨_, rfl, _, rfl, p, c, Lim 30, n + 5 + 3 * i + 2, 3, rfl, P13, by omega, by decide, by decide, fun rk H14 rk0 rk1 P14 b14 => ?_⟩
      have lp := lp.but b14
      have t14 := b14.tps P13
      obtain ⟨kk, rfl⟩ : ∃ a : Nat, rk = (a : Int) := ⟨rk.toNat, by omega⟩
      refine ⟨_, rfl, pl, _, rfl, SqL.of lp.e, fun q hq => ?_⟩
      rw [cut_take]
      have s15 := same_new (o := .lst ([V.ref t1, V.ref t2].take kk)) hq
      refine ⟨q, _, rfl, .inl ⟨SqL.of upd_same, fun l hll => ?_⟩⟩
      have s16 := same_new (o := .tup ([V.ref t1, V.ref t2].take kk)) hll
      refine ⟨(by show 2 ≤ sizeLine; decide), fun t3 ht3 => ?_⟩
      have s17 := same_new (o := .tup [V.str wi, V.ref l]) ht3
      have s1417 := (s15.trans s16).trans s17
      have P17 := P14.same s1417
      have e1 := s1417 _ _ (t14.1 _ _ e1)
      have e2 := s1417 _ _ (t14.1 _ _ e2)
      have el := s17 _ _ (upd_same (H := upd H14 q (.lst ([V.ref t1, V.ref t2].take kk))) (a := l) (o := .tup ([V.ref t1, V.ref t2].take kk)))
      have e3 : upd (upd (upd H14 q (.lst ([V.ref t1, V.ref t2].take kk))) l (.tup ([V.ref t1, V.ref t2].take kk))) t3 (.tup [V.str wi, V.ref l]) t3 = some (.tup [V.str wi, V.ref l]) := upd_same
      have b817 : But p c H8 (upd (upd (upd H14 q (.lst ([V.ref t1, V.ref t2].take kk))) l (.tup ([V.ref t1, V.ref t2].take kk))) t3 (.tup [V.str wi, V.ref l])) := fun b o z h1 h2 => s1417 _ _ (b14 _ _ (b813 _ _ z h1 h2) h1 h2)
      clear s1417 s17 s16 s15 ht3 hll hq P14 lp
      generalize upd (upd (upd H14 q (.lst ([V.ref t1, V.ref t2].take kk))) l (.tup ([V.ref t1, V.ref t2].take kk))) t3 (.tup [V.str wi, V.ref l]) = H17 at *
      have lh17 := lh.but b817
      refine ⟨hl, _, _, rfl, rfl, lh17.e, small1000 (by omega), ?_⟩
      have t18 : Tps H17 (upd H17 hl (.lst (hs ++ [.ref t3]))) := Tps.lst lh17.e
      have dh : Dp K (upd H17 hl (.lst (hs ++ [.ref t3]))) (.ref t3) (hdaD (wi, [(w8, decide (V.int r1 = V.int 1)), (w9, decide (V.int r2 = V.int 1))].take kk)) := by
        have d1 : Dp K (upd H17 hl (.lst (hs ++ [.ref t3]))) (.ref t1) (prD (w8, decide (V.int r1 = V.int 1))) := .tup (SqT.of (t18.1 _ _ e1)) (.cons (.str _) (.cons (.bl _) .nil))
        have d2 : Dp K (upd H17 hl (.lst (hs ++ [.ref t3]))) (.ref t2) (prD (w9, decide (V.int r2 = V.int 1))) := .tup (SqT.of (t18.1 _ _ e2)) (.cons (.str _) (.cons (.bl _) .nil))
        refine .tup (SqT.of (t18.1 _ _ e3)) (.cons (.str _) (.cons (.tup (SqT.of (t18.1 _ _ el)) ?_) .nil))
        rw [List.map_take]
        exact dpAll_take kk (.cons d1 (.cons d2 .nil))
      refine ⟨⟨_, _, rfl⟩, ?_, fun b o z h1 h2 => ?_, (lw8.but b817).upd hw.symm, (ln.but b817).upd hN.symm, (lk.but b817).upd hK.symm, hs ++ [.ref t3], heads ++ [(wi, [(w8, decide (V.int r1 = V.int 1)), (w9, decide (V.int r2 = V.int 1))].take kk)], ⟨upd_same, hlp, hlc⟩, by rw [List.length_append, lhs]; rfl, Paired.snoc (Paired.mapP ph fun _ h z => Dp.tps ((b817.tps P8).trans t18) z (noL_hda h)) dh, ?_, fun h hh => ?_⟩
      · rw [show n + 5 + 3 * (i + 1) = n + 5 + 3 * i + 2 + 1 by omega]
        exact P17.upd hlp hlc
      · rw [upd_ne (ne_of_none z fh)]
        exact b817 _ _ (b8 _ _ z h1 h2) h1 h2
      · rw [List.map_append, hf, take_snoc (l := ws.drop 5) (z := wi) (by rw [List.getElem?_drop]; exact hwi)]
        rfl
      · rcases List.mem_append.mp hh with z | z
        · exact hp h z
        · rw [List.mem_singleton.mp z]
          exact ⟨_, _, kk, rfl⟩
    · rintro σ H8 ⟨⟨x5, x6, rfl⟩, P8, b8, lw, ln, lk, hs, heads, lh, lhs, ph, hf, hp⟩
      have lnn : (ws.take rN.toNat).length ≤ 2 := by rw [List.length_take]; omega
      have nnd : (ws.take rN.toNat).Nodup := nok.nd.sublist (List.take_sublist _ _)
      have lhs3 : hs.length ≤ 3 := by omega
      have lhd : hs.length = heads.length := Paired.length ph
      have e1h : (1 + rh).toNat = heads.length := by omega
      rw [e1h] at P8 hf
      have hd1 : 1 ≤ heads.length ∧ heads.length ≤ 3 := by omega
      clear e1h
      have P8 : PoolAt H8 p c (Lim 30) (n + 14) := P8.mono (by omega)
      refine ⟨(by show 0 ≤ sizeLine; decide), fun kp hkp => ?_⟩
      have s9 := same_new (o := .lst []) hkp
      have lkp : LsAt (upd H8 kp (.lst [])) p c kp [] := LsAt.new P8 hkp
      have kw : kp ≠ wl := fun z => by rw [z, lw.e] at hkp; cases hkp
      have kN : kp ≠ nl := fun z => by rw [z, ln.e] at hkp; cases hkp
      have kK : kp ≠ kl := fun z => by rw [z, lk.e] at hkp; cases hkp
      have kH : kp ≠ hl := fun z => by rw [z, lh.e] at hkp; cases hkp
      have fk : H kp = none := by
        cases q : H kp with
        | none => rfl
        | some o =>
          have z : H8 kp = some o := b8 _ _ q lkp.n1 lkp.n2
          rw [hkp] at z; cases z
      have P9 := P8.same s9
      have lw := lw.same s9
      have ln := ln.same s9
      have lk := lk.same s9
      have lh := lh.same s9
      have ph := Paired.mapP ph fun _ h z => Dp.same s9 z
      have b9 : But p c H (upd H8 kp (.lst [])) := fun b o z h1 h2 => s9 _ _ (b8 _ _ z h1 h2)
      clear hkp s9 P8 b8
      generalize upd H8 kp (.lst []) = H9 at *
      refine ⟨fun σ H' => σ = [some (.ref p), some (.ref wl), some (.ref nl), some (.ref kl), some (.ref hl), x5, x6, some (.ref kp), none, none, none, none, none] ∧ PoolAt H' p c (Lim 30) (n + 25) ∧ But p c H H' ∧ LsAt H' p c wl (ws.map V.str) ∧ LsAt H' p c nl ((ws.take rN.toNat).map V.str) ∧ LsAt H' p c kl (((ws.drop 3).take (1 + rK.toNat)).map V.str) ∧ LsAt H' p c hl hs ∧ Paired (fun x h => Dp K H' x (hdaD h)) hs heads ∧
        ∃ us keeps, LsAt H' p c kp us ∧ Paired (fun x e => Dp K H' x (exD e)) us keeps ∧ keeps.length ≤ 1 ∧ ∀ e ∈ keeps, e.c = 0 ∧ EX (ws.take rN.toNat) e, ?_, ?_⟩
      · refine ⟨_, rfl, nl, _, rfl, .inl (SqL.of ln.e), _, _, rfl, rfl, _, rfl, ?_⟩
        refine ite2 (fun hg => ?_) (fun hg => iteF ?_)
        · refine ⟨_, rfl, p, c, Lim 30, n + 14, 2, rfl, P9, by omega, by decide, by decide, fun rk H10 rk0 rk1 P10 b10 => ?_⟩
          have b910 : But p c H H10 := fun b o z h1 h2 => b10 _ _ (b9 _ _ z h1 h2) h1 h2
          have lw := lw.but b10
          have ln := ln.but b10
          have lk := lk.but b10
          have lh := lh.but b10
          have lkp := lkp.but b10
          have ph := Paired.mapP ph fun _ h z => Dp.tps (b10.tps P9) z (noL_hda h)
          refine ⟨rfl, _, rfl, ?_⟩
          refine ite2 (fun hg2 => ?_) (fun hg2 => ?_)
          · refine ⟨_, rfl, .inl ⟨rfl, _, SqL.of lkp.e⟩, _, rfl, _, rfl, p, c, nl, Lim 30, n + 15, ws.take rN.toNat, rfl, P10, by omega, ln.e, ln.n1, ln.n2, nnd, by omega, fun v e H11 hex dx P11 b11 => ?_⟩
            have dx : Dp K H11 v (.tuple [.int e.c, .tuple (e.ts.map fun p => .tuple [.str p.1, .int p.2])]) := dx
            obtain ⟨va, vx, rfl, hva, hvd⟩ := dx.tupInv
            obtain ⟨v1, v2, rfl, _, g2⟩ := hvd.two
            refine ⟨va, _, _, _, rfl, rfl, hva, rfl, (by show 2 ≤ sizeLine; decide), fun t ht => ?_⟩
            have s12 := same_new (o := .tup [V.int 0, v2]) ht
            have b1012 : But p c H10 (upd H11 t (.tup [V.int 0, v2])) := fun b o z h1 h2 => s12 _ _ (b11 _ _ z h1 h2)
            have lw := lw.but b1012
            have ln := ln.but b1012
            have lk := lk.but b1012
            have lh := lh.but b1012
            have lkp := lkp.but b1012
            have ph := Paired.mapP ph fun _ h z => Dp.tps (b1012.tps P10) z (noL_hda h)
            refine ⟨kp, _, _, rfl, rfl, lkp.e, by show 0 < sizeLine; decide, ?_⟩
            have t13 : Tps (upd H11 t (.tup [V.int 0, v2])) (upd (upd H11 t (.tup [V.int 0, v2])) kp (.lst ([] ++ [.ref t]))) := Tps.lst lkp.e
            refine ⟨rfl, ((P11.same s12).upd lkp.n1 lkp.n2).mono (by omega), fun b o z h1 h2 => ?_, lw.upd kw.symm, ln.upd kN.symm, lk.upd kK.symm, lh.upd kH.symm, Paired.mapP ph fun _ h z => Dp.tps t13 z (noL_hda h), [] ++ [.ref t], [⟨0, e.ts⟩], ⟨upd_same, lkp.n1, lkp.n2⟩, .cons ?_ .nil, Nat.le_refl _, fun x hx => ?_⟩
            · rw [upd_ne (ne_of_none z fk)]
              exact b1012 _ _ (b910 _ _ z h1 h2) h1 h2
            · exact .tup (t13.sqt (SqT.of upd_same)) (.cons (.int _) (.cons (Dp.tps t13 (g2.same s12) (noLs_map (fun _ => rfl) _)) .nil))
            · rw [List.mem_singleton.mp hx]
              exact ⟨rfl, ⟨by show (-3 : Int) ≤ 0; decide, by show (0 : Int) ≤ 3; decide⟩, hex.nm, hex.up, hex.ln⟩
          · exact ⟨rfl, P10.mono (by omega), b910, lw, ln, lk, lh, ph, [], [], lkp, .nil, by show 0 ≤ 1; decide, fun _ z => (nomatch z)⟩
        · exact ⟨rfl, P9.mono (by omega), b9, lw, ln, lk, lh, ph, [], [], lkp, .nil, by show 0 ≤ 1; decide, fun _ z => (nomatch z)⟩
      · rintro σ H10 ⟨rfl, P10, b10, lw, ln, lk, lh, ph, kus, keeps, lkp, pk, lkk, kk⟩
        refine ⟨(by show 0 ≤ sizeLine; decide), fun fl hfl => ?_⟩
        have s11 := same_new (o := .lst []) hfl
        have lf : LsAt (upd H10 fl (.lst [])) p c fl [] := LsAt.new P10 hfl
        have fw' : fl ≠ wl := fun z => by rw [z, lw.e] at hfl; cases hfl
        have fN : fl ≠ nl := fun z => by rw [z, ln.e] at hfl; cases hfl
        have fK : fl ≠ kl := fun z => by rw [z, lk.e] at hfl; cases hfl
        have fH : fl ≠ hl := fun z => by rw [z, lh.e] at hfl; cases hfl
        have fP : fl ≠ kp := fun z => by rw [z, lkp.e] at hfl; cases hfl
        have ff : H fl = none := by
          cases q : H fl with
          | none => rfl
          | some o =>
            have z : H10 fl = some o := b10 _ _ q lf.n1 lf.n2
            rw [hfl] at z; cases z
        have P11 := P10.same s11
        have lw := lw.same s11
        have ln := ln.same s11
        have lk := lk.same s11
        have lh := lh.same s11
        have lkp := lkp.same s11
        have ph := Paired.mapP ph fun _ h z => Dp.same s11 z
        have pk := Paired.mapP pk fun _ h z => Dp.same s11 z
        have b11 : But p c H (upd H10 fl (.lst [])) := fun b o z h1 h2 => s11 _ _ (b10 _ _ z h1 h2)
        clear hfl s11 P10 b10
        generalize upd H10 fl (.lst []) = H11 at *
        refine ⟨_, rfl, hl, rfl, ⟨_, SqL.of lh.e⟩, ?_⟩
        refine for_list (K := K) (a := hl) (xs := hs) (fun i σ H' => (∃ x9 x10 x12 : Option V, σ = [some (.ref p), some (.ref wl), some (.ref nl), some (.ref kl), some (.ref hl), x5, x6, some (.ref kp), some (.ref fl), x9, x10, none, x12]) ∧ But p c H H' ∧ LsAt H' p c wl (ws.map V.str) ∧ LsAt H' p c nl ((ws.take rN.toNat).map V.str) ∧ LsAt H' p c kl (((ws.drop 3).take (1 + rK.toNat)).map V.str) ∧ LsAt H' p c hl hs ∧ Paired (fun x h => Dp K H' x (hdaD h)) hs heads ∧ LsAt H' p c kp kus ∧ Paired (fun x e => Dp K H' x (exD e)) kus keeps ∧
          ∃ (us : List V) (fns : List Fn) (bu : Nat), PoolAt H' p c (Lim bu) (n + 25 + i * (10 + c5)) ∧ LsAt H' p c fl us ∧ us.length = i ∧ Paired (fun x f => Dp K H' x (fnD f)) us fns ∧ (fns.map fun f => (f.name, f.ps)) = heads.take i ∧ (fns.map fun f => szB f.b).sum + bu = 30 + i ∧
            ∀ f ∈ fns, ∃ e blk, f.b = .set w10 e :: blk ∧ blk.length ≤ 3 ∧ dpB blk ≤ 5 ∧ EX (ws.take rN.toNat ++ prs f) e ∧ wL (ws.take rN.toNat ++ (prs f ++ [w10])) ((ws.drop 3).take (1 + rK.toNat)) heads false blk)
          ⟨⟨_, _, _, rfl⟩, b11, lw, ln, lk, lh, ph, lkp, pk, [], [], 30, by rw [Nat.zero_mul]; exact P11, lf, rfl, .nil, by simp, rfl, fun _ z => (nomatch z)⟩ (fun i σ H' _ h' => SqL.of h'.2.2.2.2.2.1.e) ?_ ?_
        · rintro i x σ H12 hx ⟨⟨x9, x10, x12, rfl⟩, b12, lw, ln, lk, lh, ph, lkp, pk, us, fns, bu, P12, lf, lus, pf, hfn, hsz, hfs⟩
          obtain ⟨hd, hhd, hdd⟩ := Paired.at ph hx
          have hi : i < hs.length := (List.getElem?_eq_some_iff.mp hx).1
          have mh := List.mem_of_getElem? hhd
          obtain ⟨ba1, ba2, bk, hps⟩ := hp hd mh
          have hdd' : Dp K H12 x (.tuple [.str hd.1, .tuple (hd.2.map prD)]) := hdd
          obtain ⟨ha, hx2, rfl, hha, hhd2⟩ := hdd'.tupInv
          obtain ⟨hv1, hv2, rfl, hg1, hg2⟩ := hhd2.two
          rw [hg1.strInv] at hha
          obtain ⟨pa, px, rfl, hpa, hpd⟩ := hg2.tupInv
          have pp := DpAll.map hpd
          have lpx : px.length = hd.2.length := Paired.length pp
          have l22 : hd.2.length ≤ 2 := by rw [hps, List.length_take]; exact Nat.min_le_right _ _
          have nb : i * (10 + c5) ≤ 2 * (10 + c5) := Nat.mul_le_mul_right _ (by omega)
          refine ⟨_, rfl, _, rfl, ha, _, _, _, rfl, rfl, hha, rfl, pa, rfl, ⟨_, hpa⟩, fun D hD => ?_⟩
          have Dp' := P12.ne1 hD
          have Dc := P12.ne2 hD
          refine lc_tup (K := K) (a := pa) (xs := px) (fun j H' => Same H12 H' ∧ H' D = some (.lst (((hd.2.take j).map Prod.fst).map V.str))) ⟨same_new hD, upd_same⟩ (fun j H' _ h' => SqT.same h'.1 hpa) ?_ ?_
          · rintro j z H13 hz ⟨s13, eD⟩
            obtain ⟨pr, hpr, hpr2⟩ := Paired.at pp hz
            have hj : j < px.length := (List.getElem?_eq_some_iff.mp hz).1
            have hpr2 : Dp K H12 z (.tuple [.str pr.1, .bool pr.2]) := hpr2
            obtain ⟨pz, pzs, rfl, hpz, hpzd⟩ := hpr2.tupInv
            obtain ⟨z1, z2, rfl, zg1, _⟩ := hpzd.two
            rw [zg1.strInv] at hpz
            refine ⟨wipe1 (by decide), V.ref pz, by kernel_rfl, pz, _, _, _, rfl, rfl, SqT.same s13 hpz, rfl, ?_⟩
            refine ⟨_, eD, small1000 (by rw [List.length_map, List.length_map, List.length_take]; omega), fun b o z => ?_, ?_⟩
            · rw [upd_ne (ne_of_none z hD)]
              exact s13 _ _ z
            · rw [upd_same, take_snoc hpr, List.map_append, List.map_append]
              rfl
          · rintro H13 ⟨s13, eD⟩
            rw [lpx, List.take_length] at eD
            have lw13 := lw.same s13
            have ln13 := ln.same s13
            have lps : (hd.2.map Prod.fst).length ≤ 2 := by rw [List.length_map]; exact l22
            refine ⟨nl, D, _, _, rfl, rfl, ln13.e, eD, Nat.le_of_lt (small1000 (by rw [List.length_map, List.length_map]; omega)), fun q1 hq1 => ?_⟩
            have s14 := same_new (o := .lst ((ws.take rN.toNat).map V.str ++ (hd.2.map Prod.fst).map V.str)) hq1
            have eq1 : upd H13 q1 (.lst ((ws.take rN.toNat).map V.str ++ (hd.2.map Prod.fst).map V.str)) q1 = some (.lst ((ws.take rN.toNat).map V.str ++ (hd.2.map Prod.fst).map V.str)) := upd_same
            have s1214 := s13.trans s14
            have lw14 := lw.same s1214
            generalize upd H13 q1 (.lst ((ws.take rN.toNat).map V.str ++ (hd.2.map Prod.fst).map V.str)) = H14 at *
            refine ⟨_, rfl, wl, _, _, _, rfl, rfl, SqL.of lw14.e, a10, (by show 1 ≤ sizeLine; decide), fun q2 hq2 => ?_⟩
            have s15 := same_new (o := .lst [V.str w10]) hq2
            refine ⟨q1, q2, _, _, rfl, rfl, s15 _ _ eq1, upd_same, Nat.le_of_lt (small1000 (by rw [List.length_append, List.length_map, List.length_map]; show _ + _ + 1 ≤ _; omega)), fun ol hol => ?_⟩
            have s16 := same_new (o := .lst (((ws.take rN.toNat).map V.str ++ (hd.2.map Prod.fst).map V.str) ++ [V.str w10])) hol
            have s1216 := (s1214.trans s15).trans s16
            have eol : upd (upd H14 q2 (.lst [V.str w10])) ol (.lst (((ws.take rN.toNat).map V.str ++ (hd.2.map Prod.fst).map V.str) ++ [V.str w10])) ol = some (.lst (((ws.take rN.toNat).map V.str ++ (hd.2.map Prod.fst).map V.str) ++ [V.str w10])) := upd_same
            have nol : H12 ol = none := none_same (s1214.trans s15) hol
            clear s16 s15 s14 hq2 hq1 hol
            generalize upd (upd H14 q2 (.lst [V.str w10])) ol (.lst (((ws.take rN.toNat).map V.str ++ (hd.2.map Prod.fst).map V.str) ++ [V.str w10])) = H16 at *
            have P16 := P12.same s1216
            have lol : LsAt H16 p c ol _ := ⟨eol, P12.ne1 nol, P12.ne2 nol⟩
            -- first
            refine ⟨_, rfl, wl, _, _, _, rfl, rfl, SqL.of (lw.same s1216).e, a10, ?_⟩
            refine ⟨_, rfl, _, rfl, _, rfl, _, rfl, ol, _, rfl, SqL.of lol.e, fun q3 hq3 => ?_⟩
            rw [cut_last]
            have eqs : (ws.take rN.toNat).map V.str ++ (hd.2.map Prod.fst).map V.str = (ws.take rN.toNat ++ hd.2.map Prod.fst).map V.str := by rw [List.map_append]
            have s17 := same_new (o := .lst ((ws.take rN.toNat).map V.str ++ (hd.2.map Prod.fst).map V.str)) hq3
            have eq3 : upd H16 q3 (.lst ((ws.take rN.toNat).map V.str ++ (hd.2.map Prod.fst).map V.str)) q3 = some (.lst ((ws.take rN.toNat ++ hd.2.map Prod.fst).map V.str)) := by rw [upd_same, eqs]
            have nq3 := P16.ne1 hq3
            have nq4 := P16.ne2 hq3
            have P17 := P16.same s17
            have lol := lol.same s17
            have s1217 := s1216.trans s17
            generalize upd H16 q3 (.lst ((ws.take rN.toNat).map V.str ++ (hd.2.map Prod.fst).map V.str)) = H17 at *
            have psub : (hd.2.map Prod.fst).Sublist [w8, w9] := by rw [hps, List.map_take]; exact take2_sub bk
            have osub : (ws.take rN.toNat ++ (hd.2.map Prod.fst ++ [w10])).Sublist ws := own_sub h8 h9 h10 (by omega) psub
            have ond : (ws.take rN.toNat ++ (hd.2.map Prod.fst ++ [w10])).Nodup := nok.nd.sublist osub
            have ond2 : (ws.take rN.toNat ++ hd.2.map Prod.fst).Nodup := by
              rw [← List.append_assoc] at ond
              exact ond.sublist (List.sublist_append_left _ _)
            have l5 : (ws.take rN.toNat ++ hd.2.map Prod.fst).length ≤ 4 := by rw [List.length_append]; omega
            refine ⟨p, c, q3, Lim bu, _, ws.take rN.toNat ++ hd.2.map Prod.fst, rfl, P17, by omega, eq3, nq3, nq4, ond2, by rw [List.length_append]; omega, fun v e H18 hex dx P18 b18 => ?_⟩
            have lol := lol.but b18
            refine ⟨(by show 3 ≤ sizeLine; decide), fun ft hft => ?_⟩
            have s19 := same_new (o := .tup [V.str "set", V.str w10, v]) hft
            have P19 := P18.same s19
            have lol := lol.same s19
            have b1219 : But p c H12 (upd H18 ft (.tup [V.str "set", V.str w10, v])) := fun b o z h1 h2 => s19 _ _ (b18 _ _ (s1217 _ _ z) h1 h2)
            have eft : upd H18 ft (.tup [V.str "set", V.str w10, v]) ft = some (.tup [V.str "set", V.str w10, v]) := upd_same
            have dv := dx.same s19
            clear s19 hft P18 b18 dx P17 s1217 s17 hq3 eq3 P16 lw14 lw13 ln13
            generalize upd H18 ft (.tup [V.str "set", V.str w10, v]) = H19 at *
            have dfirst : Dp K H19 (.ref ft) (stD (.set w10 e)) := .tup (SqT.of eft) (.cons (.str _) (.cons (.str _) (.cons dv .nil)))
            -- functions.append(head + ((first,) + block,))
            have lf19 := lf.but b1219
            refine ⟨_, rfl, .inl ⟨rfl, _, SqL.of lf19.e⟩, _, rfl, _, rfl, (by show 1 ≤ sizeLine; decide), fun u1 hu1 => ?_⟩
            have s20 := same_new (o := .tup [V.ref ft]) hu1
            refine ⟨_, rfl, _, rfl, _, rfl, _, rfl, (by show 3 ≤ sizeLine; decide), fun ev hev => ?_⟩
            have s21 := same_new (o := .tup [V.ref ol, V.ref kl, V.ref hl]) hev
            have s1921 := s20.trans s21
            have P21 := P19.same s1921
            have b1221 : But p c H12 (upd (upd H19 u1 (.tup [V.ref ft])) ev (.tup [V.ref ol, V.ref kl, V.ref hl])) := fun b o z h1 h2 => s1921 _ _ (b1219 _ _ z h1 h2)
            have eu1 := s21 _ _ (upd_same (H := H19) (a := u1) (o := .tup [V.ref ft]))
            have eev : upd (upd H19 u1 (.tup [V.ref ft])) ev (.tup [V.ref ol, V.ref kl, V.ref hl]) ev = some (.tup [V.ref ol, V.ref kl, V.ref hl]) := upd_same
            have dfirst := dfirst.same s1921
            have lol := lol.same s1921
            clear s1921 s21 s20 hev hu1 P19
            generalize upd (upd H19 u1 (.tup [V.ref ft])) ev (.tup [V.ref ol, V.ref kl, V.ref hl]) = H21 at *
            have lk21 := lk.but b1221
            have lh21 := lh.but b1221
            have eown : (ws.take rN.toNat).map V.str ++ (hd.2.map Prod.fst).map V.str ++ [V.str w10] = (ws.take rN.toNat ++ (hd.2.map Prod.fst ++ [w10])).map V.str := by
              rw [List.map_append, List.map_append, List.append_assoc]
              rfl
            have env : EnvAt K H21 p c (.ref ev) (ws.take rN.toNat ++ (hd.2.map Prod.fst ++ [w10])) ((ws.drop 3).take (1 + rK.toNat)) heads :=
              ⟨ev, ol, kl, hl, hs, rfl, SqT.of eev, by rw [lol.e, eown], lk21.e, lh21.e, Paired.mapP ph fun _ h z => Dp.tps (b1221.tps P12) z (noL_hda h), ⟨lol.n1, lol.n2⟩, ⟨lk21.n1, lk21.n2⟩, ⟨lh21.n1, lh21.n2⟩⟩
            have envok : EnvOk (ws.take rN.toNat ++ (hd.2.map Prod.fst ++ [w10])) ((ws.drop 3).take (1 + rK.toNat)) heads := by
              refine ⟨⟨ond, by simp, by rw [List.length_append, List.length_append]; show _ + (_ + 1) ≤ 8; omega⟩, ⟨fun z => ?_, by rw [List.length_take]; omega⟩, ⟨List.ne_nil_of_mem mh, hd1.2⟩, fun h hh => ?_⟩
              · have := congrArg List.length z
                rw [List.length_take, List.length_drop, List.length_nil] at this
                omega
              · obtain ⟨c1, c2, ck, hc⟩ := hp h hh
                have m1 : h.1 ∈ ws := by
                  have : h.1 ∈ heads.map Prod.fst := List.mem_map.mpr ⟨h, hh, rfl⟩
                  rw [hf] at this
                  exact List.mem_of_mem_drop (List.mem_of_mem_take this)
                refine ⟨by rw [hc, List.length_take]; exact Nat.min_le_right _ _, nok.name _ m1, fun pr hpr => ?_⟩
                rw [hc] at hpr
                have hpr := List.mem_of_mem_take hpr
                simp only [List.mem_cons, List.not_mem_nil, or_false] at hpr
                rcases hpr with rfl | rfl
                · exact nok.name _ (List.mem_of_getElem? h8)
                · exact nok.name _ (List.mem_of_getElem? h9)
            refine ⟨p, c, .ref ev, _, bu, 2, false, _, _, heads, rfl, P21, by omega, env, envok, fun _ => (by decide), fun h => (nomatch h), fun bv blk bu2 H22 wl2 bl3 bdp bsz bdx P22 b22 => ?_⟩
            have bdx : Dp K H22 bv (.tuple (stsD blk)) := bdx
            obtain ⟨bb, bxs, rfl, hbb, hbbd⟩ := bdx.tupInv
            have t22 := b22.tps P21
            have t1222 := (b1221.tps P12).trans t22
            have b1222 : But p c H12 H22 := fun b o z h1 h2 => b22 _ _ (b1221 _ _ z h1 h2) h1 h2
            have lbx : bxs.length = blk.length := by rw [stsD_map] at hbbd; exact Paired.length hbbd.map
            refine ⟨u1, bb, _, _, rfl, rfl, t22.sqt (SqT.of eu1), hbb, (fun z => nomatch z), Nat.le_of_lt (small1000 (by show 1 + bxs.length ≤ 1000; omega)), fun bp H23 s23 hbp => ?_⟩
            refine ⟨(by show 1 ≤ sizeLine; decide), fun u2 hu2 => ?_⟩
            have s24 := same_new (o := .tup [V.ref bp]) hu2
            refine ⟨ha, u2, _, _, rfl, rfl, SqT.same (s23.trans s24) (t1222.sqt hha), SqT.of upd_same, (fun z => nomatch z), (by show 2 + 1 ≤ sizeLine; decide), fun fp H25 s25 hfp => ?_⟩
            have s2225 := (s23.trans s24).trans s25
            have s2325 := s24.trans s25
            have b1225 : But p c H12 H25 := fun b o z h1 h2 => s2225 _ _ (b1222 _ _ z h1 h2)
            have P25 := P22.same s2225
            have lf25 := lf.but b1225
            refine ⟨fl, _, _, rfl, rfl, lf25.e, small1000 (by omega), ?_⟩
            have t26 : Tps H25 (upd H25 fl (.lst (us ++ [.ref fp]))) := Tps.lst lf25.e
            have t1225 := t1222.trans (Tps.of s2225)
            have dblk : DpAll K H25 (V.ref ft :: bxs) (stsD (.set w10 e :: blk)) := .cons ((Dp.tps t22 dfirst (noL_st _)).same s2225) (DpAll.same s2225 hbbd)
            have dfn : Dp K H25 (.ref fp) (fnD ⟨hd.1, hd.2, .set w10 e :: blk⟩) := by
              refine .tup hfp (.cons (.str _) (.cons (.tup (t1225.sqt hpa) ?_) (.cons (.tup (SqT.same s2325 hbp) dblk) .nil)))
              exact DpAll.tps t1225 hpd (noLs_map noL_pr _)
            have prq : prs ⟨hd.1, hd.2, .set w10 e :: blk⟩ = hd.2.map Prod.fst := rfl
            refine ⟨⟨_, _, _, rfl⟩, fun b o z h1 h2 => ?_, (lw.but b1225).upd fw'.symm, (ln.but b1225).upd fN.symm, (lk.but b1225).upd fK.symm, (lh.but b1225).upd fH.symm, Paired.mapP ph fun _ h z => Dp.tps (t1225.trans t26) z (noL_hda h), (lkp.but b1225).upd fP.symm, Paired.mapP pk fun _ h z => Dp.tps (t1225.trans t26) z (noL_ex h), us ++ [.ref fp], fns ++ [⟨hd.1, hd.2, .set w10 e :: blk⟩], bu2, ?_, ⟨upd_same, lf.n1, lf.n2⟩, by rw [List.length_append, lus]; rfl, Paired.snoc (Paired.mapP pf fun _ f z => Dp.tps (t1225.trans t26) z (noL_fn f)) (Dp.tps t26 dfn (noL_fn _)), ?_, ?_, fun f hf => ?_⟩
            · rw [upd_ne (ne_of_none z ff)]
              exact b1225 _ _ (b12 _ _ z h1 h2) h1 h2
            · refine (P25.upd lf.n1 lf.n2).mono ?_
              rw [Nat.succ_mul]
              omega
            · rw [List.map_append, hfn, take_snoc hhd]
              rfl
            · rw [List.map_append, List.sum_append]
              show _ + (1 + 0 + szB blk + 0) + bu2 = _
              omega
            · rcases List.mem_append.mp hf with z | z
              · exact hfs f z
              · rw [List.mem_singleton.mp z]
                exact ⟨e, blk, rfl, bl3, bdp, hex, wl2⟩
        · rintro σ H12 ⟨⟨x9, x10, x12, rfl⟩, b12, lw, ln, lk, lh, ph, lkp, pk, us, fns, bu, P12, lf, lus, pf, hfn, hsz, hfs⟩
          rw [lhd, List.take_length] at hfn
          have lfn : fns.length = heads.length := by rw [← hfn, List.length_map]
          rw [lhd] at P12 hsz
          have nb : heads.length * (10 + c5) ≤ 3 * (10 + c5) := Nat.mul_le_mul_right _ hd1.2
          refine ⟨_, rfl, nl, _, rfl, .inl ⟨SqL.of ln.e, fun l1 hl1 => ?_⟩⟩
          have s1 := same_new (o := .tup ((ws.take rN.toNat).map V.str)) hl1
          refine ⟨_, rfl, kl, _, rfl, .inl ⟨SqL.of (s1 _ _ lk.e), fun l2 hl2 => ?_⟩⟩
          have s2 := same_new (o := .tup (((ws.drop 3).take (1 + rK.toNat)).map V.str)) hl2
          have s12 := s1.trans s2
          refine ⟨_, rfl, kp, _, rfl, .inl ⟨SqL.of (s12 _ _ lkp.e), fun l3 hl3 => ?_⟩⟩
          have s3 := same_new (o := .tup kus) hl3
          have s13 := s12.trans s3
          refine ⟨_, rfl, fl, _, rfl, .inl ⟨SqL.of (s13 _ _ lf.e), fun l4 hl4 => ?_⟩⟩
          have s4 := same_new (o := .tup us) hl4
          have s14 := s13.trans s4
          refine ⟨(by show 4 ≤ sizeLine; decide), fun tt htt => ?_⟩
          have s5 := same_new (o := .tup [V.ref l1, V.ref l2, V.ref l3, V.ref l4]) htt
          have s15 := s14.trans s5
          have e1 := s5 _ _ (s4 _ _ (s3 _ _ (s2 _ _ (upd_same (H := H12) (a := l1) (o := .tup ((ws.take rN.toNat).map V.str))))))
          have e2 := s5 _ _ (s4 _ _ (s3 _ _ (upd_same (H := upd H12 l1 (.tup ((ws.take rN.toNat).map V.str))) (a := l2) (o := .tup (((ws.drop 3).take (1 + rK.toNat)).map V.str)))))
          have e3 := s5 _ _ (s4 _ _ (upd_same (H := upd (upd H12 l1 (.tup ((ws.take rN.toNat).map V.str))) l2 (.tup (((ws.drop 3).take (1 + rK.toNat)).map V.str))) (a := l3) (o := .tup kus)))
          have e4 := s5 _ _ (upd_same (H := upd (upd (upd H12 l1 (.tup ((ws.take rN.toNat).map V.str))) l2 (.tup (((ws.drop 3).take (1 + rK.toNat)).map V.str))) l3 (.tup kus)) (a := l4) (o := .tup us))
          refine k _ ⟨ws.take rN.toNat, (ws.drop 3).take (1 + rK.toNat), keeps, fns⟩ bu _ ⟨ws, nok, l16, rN.toNat, 1 + rK.toNat, by omega, by omega, by omega, rfl, rfl, kk, lkk, by show 1 ≤ fns.length; omega, by show fns.length ≤ 3; omega, ?_, by show (fns.map fun f => szB f.b).sum ≤ 33; omega, w8, w9, w10, h8, h9, h10, fun f hf => ⟨?_, ?_⟩⟩ ?_ ((P12.same s15).mono (by omega)) (fun b o z h1 h2 => s15 _ _ (b12 _ _ z h1 h2))
          · show fns.map Fn.name = (ws.drop 5).take fns.length
            rw [lfn, ← hf, ← hfn, List.map_map]
            rfl
          · exact hp (f.name, f.ps) (by rw [← hfn]; exact List.mem_map.mpr ⟨f, hf, rfl⟩)
          · obtain ⟨e, blk, q1, q2, q3, q4, q5⟩ := hfs f hf
            refine ⟨e, blk, q1, q2, q3, q4, ?_⟩
            show wL _ _ (fns.map fun f => (f.name, f.ps)) false blk
            rw [hfn]
            exact q5
          · refine .tup (SqT.of upd_same) (.cons (.tup (SqT.of e1) (dpAll_strs _)) (.cons (.tup (SqT.of e2) (dpAll_strs _)) (.cons (.tup (SqT.of e3) ?_) (.cons (.tup (SqT.of e4) ?_) .nil))))
            · exact DpAll.ofPaired (Paired.mapP pk fun _ _ z => z.same s15)
            · exact DpAll.ofPaired (Paired.mapP pf fun _ _ z => z.same s15)
end

/-! ### _law_parts, _law_size -/
abbrev sLPt : Stmt := topS 41
abbrev NLPt : List Str := ["_law_statement", "_law_handler"]
abbrev PLPt : List Str := ["_law_statement"]
theorem scLPt : FnScope NLPt PLPt (defScope sLPt) := ⟨rfl, rfl, rfl, by decide +kernel, rfl, by decide +kernel, by decide +kernel⟩
theorem Paired.mapR {α β γ : Type} {F : α → γ → Prop} {f : β → γ} : ∀ {xs : List α} {l : List β}, Paired (fun x g => F x (f g)) xs l → Paired F xs (l.map f)
  | _, _, .nil => .nil
  | _, _, .cons a b => .cons a (Paired.mapR b)
def spLPt (K : PySem.W.Frag) : Sp := fun vs H Q _ => ∃ (v : V) (s : St), vs = [v] ∧ Dp K H v (stD s) ∧ gS s ∧
  ∀ (q : Addr) (xs : List V) (H' : Hp), Same H H' → H q = none → H' q = some (.lst xs) → Paired (fun x b => Dp K H' x (blD b)) xs (parts s) → Q (.ref q) H'
section
variable {P : Program} {w : World} {K : PySem.W.Frag} {mg : Str → Option Value} {base : Heap}
theorem ok_LPt {f : Addr} {fd : FuncData} (F : Fun K "_law_parts" "_law_parts" sLPt f fd) : FnOk P w K mg base CX0 1 f fd PLPt (spLPt K) := by
  refine F.ok scLPt (fun vs H Q E h => ?_) (fun cdv A outer sh H vs Q E hr h => ?_)
  · obtain ⟨v, s, rfl, _⟩ := h
    rfl
  · obtain ⟨v, st, rfl, hv, oks, k⟩ := h
    refine ⟨_, (pss_cons (ps_if (pt_cmpR op_eq (pe_ix (r := rIxT K) ix_tup (pv 0) pe_int (fun _ _ => rfl)) pe_str (nomark _))
  (pss_one (ps_ret (pe_lst (pa_cons (pe_ix (r := rIxT K) ix_tup (pv 0) pe_int (fun _ _ => rfl)) (pa_cons (pe_ix (r := rIxT K) ix_tup (pv 0) pe_int (fun _ _ => rfl)) pa_nil)))))
  pss_nil)
  (pss_cons (ps_if (pt_cmpR op_eq (pe_ix (r := rIxT K) ix_tup (pv 0) pe_int (fun _ _ => rfl)) pe_str (nomark _))
  (pss_one (ps_ret (pe_lst (pa_cons (pe_ix (r := rIxT K) ix_tup (pv 0) pe_int (fun _ _ => rfl)) pa_nil))))
  pss_nil)
  (pss_cons (ps_if (pt_cmpR op_eq (pe_ix (r := rIxT K) ix_tup (pv 0) pe_int (fun _ _ => rfl)) pe_str (nomark _))
  (pss_one (ps_ret (pe_op op_cat (pe_op op_cat (pe_lst (pa_cons (pe_ix (r := rIxT K) ix_tup (pv 0) pe_int (fun _ _ => rfl)) pa_nil)) (pe_lc (own := [("_law_handler", 1)]) (g := gName 1) (tt := tYes) rfl scLPt.nd (pi_tup (pe_ix (r := rIxT K) ix_tup (pv 0) pe_int (fun _ _ => rfl))) (blkOk_by (own := [("_law_handler", 1)]) (N := NLPt) (sc := (defScope sLPt)) (by decide +kernel)) (fun _ _ _ _ _ => (pg_name (i := 1) scLPt.nd rfl (Or.inl rfl))) (fun _ _ _ _ _ => pts_nil) (fun _ _ _ _ _ => (pe_ix (r := rIxT K) ix_tup (pv 1) pe_int (fun _ _ => rfl))))) (pe_lst (pa_cons (pe_ix (r := rIxT K) ix_tup (pv 0) pe_int (fun _ _ => rfl)) pa_nil)))))
  pss_nil)
  (pss_cons (ps_if (pt_cmpR op_eq (pe_ix (r := rIxT K) ix_tup (pv 0) pe_int (fun _ _ => rfl)) pe_str (nomark _))
  (pss_one (ps_ret (pe_lst (pa_cons (pe_ix (r := rIxT K) ix_tup (pv 0) pe_int (fun _ _ => rfl)) pa_nil))))
  pss_nil)
  (pss_cons (ps_if (pt_cmpR op_eq (pe_ix (r := rIxT K) ix_tup (pv 0) pe_int (fun _ _ => rfl)) pe_str (nomark _))
  (pss_one (ps_ret (pe_lst (pa_cons (pe_ix (r := rIxT K) ix_tup (pv 0) pe_int (fun _ _ => rfl)) pa_nil))))
  pss_nil)
  (pss_one (ps_ret (pe_lst pa_nil)))))))), ?_⟩
    obtain ⟨va, xs, rfl, hq, hd⟩ := stInv hv
    have one : ∀ {x : V} {b : List St}, Dp K H x (blD b) → parts st = [b] → ∀ q, H q = none → Q (.ref q) (upd H q (.lst [x])) := fun {x b} hx hp q hq => by
      have s1 := same_new (o := .lst [x]) hq
      exact k q [x] _ s1 hq upd_same (by rw [hp]; exact .cons (hx.same s1) .nil)
    have emp : parts st = [] → ∀ q, H q = none → Q (.ref q) (upd H q (.lst [])) := fun hp q hq => k q [] _ (same_new hq) hq upd_same (by rw [hp]; exact .nil)
    cases st <;> simp only [wordS] at hq
    case ite a b =>
      obtain ⟨x, y, rfl, h1, h2⟩ := DpAll.two hd
      refine ⟨_, rfl, va, _, _, _, rfl, rfl, hq, rfl, rfl, _, rfl, iteS rfl ?_⟩
      refine ⟨_, rfl, va, _, _, _, rfl, rfl, hq, rfl, _, rfl, va, _, _, _, rfl, rfl, hq, rfl, (by show 2 ≤ sizeLine; decide), fun q hn => ?_⟩
      have s1 := same_new (o := .lst [x, y]) hn
      exact k q [x, y] _ s1 hn upd_same (.cons (h1.same s1) (.cons (h2.same s1) .nil))
    case whl b =>
      obtain ⟨x, rfl, h1⟩ := DpAll.one hd
      refine ⟨_, rfl, va, _, _, _, rfl, rfl, hq, rfl, rfl, _, rfl, iteE rfl ?_⟩
      refine ⟨_, rfl, va, _, _, _, rfl, rfl, hq, rfl, rfl, _, rfl, iteS rfl ?_⟩
      exact ⟨_, rfl, va, _, _, _, rfl, rfl, hq, rfl, (by show 1 ≤ sizeLine; decide), one h1 rfl⟩
    case try_ b hs f =>
      obtain ⟨x, y, z, rfl, h1, h2, h3⟩ := DpAll.three hd
      refine ⟨_, rfl, va, _, _, _, rfl, rfl, hq, rfl, rfl, _, rfl, iteE rfl ?_⟩
      refine ⟨_, rfl, va, _, _, _, rfl, rfl, hq, rfl, rfl, _, rfl, iteE rfl ?_⟩
      refine ⟨_, rfl, va, _, _, _, rfl, rfl, hq, rfl, rfl, _, rfl, iteS rfl ?_⟩
      refine ⟨_, rfl, va, _, _, _, rfl, rfl, hq, rfl, (by show 1 ≤ sizeLine; decide), fun q1 hn1 => ?_⟩
      have s1 := same_new (o := .lst [x]) hn1
      have e1 : upd H q1 (.lst [x]) q1 = some (.lst [x]) := upd_same
      generalize upd H q1 (.lst [x]) = H1 at *
      have h2' : Dp K H1 y (.tuple (hdsD hs)) := h2.same s1
      obtain ⟨ha, zs, rfl, hza, hzd⟩ := h2'.tupInv
      rw [hdsD_map] at hzd
      have pz := DpAll.map hzd
      have lz : zs.length = hs.length := Paired.length pz
      have oks' : hs.length ≤ 2 ∧ gL b ∧ gHs hs ∧ gL f := oks
      refine ⟨_, rfl, va, _, _, _, rfl, rfl, SqT.same s1 hq, rfl, ha, rfl, ⟨_, hza⟩, fun D hD => ?_⟩
      refine lc_tup (K := K) (a := ha) (xs := zs) (fun i H' => Same H1 H' ∧ ∃ us, H' D = some (.lst us) ∧ us.length = i ∧ Paired (fun x (g : Hd) => Dp K H' x (blD g.b)) us (hs.take i)) ⟨same_new hD, [], upd_same, rfl, .nil⟩ (fun i H' _ h' => SqT.same h'.1 hza) ?_ ?_
      · rintro i v H2 hx ⟨s2, us, eD, lus, pus⟩
        obtain ⟨g, hg, hgd⟩ := Paired.at pz hx
        have hi : i < zs.length := (List.getElem?_eq_some_iff.mp hx).1
        obtain ⟨ks, gb⟩ := g
        have hgd : Dp K H1 v (.tuple [nmD ks, .tuple (stsD gb)]) := hgd
        obtain ⟨ga, gs, rfl, hga, hgd2⟩ := hgd.tupInv
        obtain ⟨g1, g2, rfl, k1, k2⟩ := hgd2.two
        refine ⟨wipe1 (by decide), V.ref ga, by kernel_rfl, ga, _, _, _, rfl, rfl, SqT.same s2 hga, rfl, us, eD, small1000 (by omega), fun c o z => ?_, _, upd_same, by rw [List.length_append, lus]; rfl, ?_⟩
        · rw [upd_ne (ne_of_none z hD)]
          exact s2 _ _ z
        · have tp : Tps H2 (upd H2 D (.lst (us ++ [g2]))) := Tps.lst eD
          rw [take_snoc hg]
          exact Paired.snoc (Paired.mapP pus fun _ g z => Dp.tps tp z (noL_bl g.b)) (Dp.tps tp (k2.same s2) (noL_bl gb))
      · rintro H2 ⟨s2, us, eD, lus, pus⟩
        rw [lz, List.take_length] at pus
        have e1' := s2 _ _ e1
        refine ⟨q1, D, _, _, rfl, rfl, e1', eD, Nat.le_of_lt (small1000 (by show 1 + us.length ≤ _; omega)), fun q2 hq2 => ?_⟩
        have s3 := same_new (o := .lst ([x] ++ us)) hq2
        refine ⟨_, rfl, va, _, _, _, rfl, rfl, SqT.same (s1.trans (s2.trans s3)) hq, rfl, (by show 1 ≤ sizeLine; decide), fun q3 hq3 => ?_⟩
        have s4 := same_new (o := .lst [z]) hq3
        refine ⟨q2, q3, _, _, rfl, rfl, s4 _ _ upd_same, upd_same, Nat.le_of_lt (small1000 (by show ([x] ++ us).length + 1 ≤ _; rw [List.length_append]; show 1 + us.length + 1 ≤ _; omega)), fun q4 hq4 => ?_⟩
        have s5 := same_new (o := .lst (([x] ++ us) ++ [z])) hq4
        have s25 := s2.trans (s3.trans (s4.trans s5))
        have s05 := s1.trans s25
        refine k q4 _ _ s05 (none_same (s1.trans (s2.trans (s3.trans s4))) hq4) upd_same ?_
        exact Paired.app (l₁ := [x] ++ us) (l₂ := b :: hs.map Hd.b) (.cons (h1.same s05) (Paired.mapR (Paired.mapP pus fun _ _ z => z.same (s3.trans (s4.trans s5))))) (.cons (h3.same s05) .nil)
    case undo ns b =>
      obtain ⟨x, y, rfl, h1, h2⟩ := DpAll.two hd
      refine ⟨_, rfl, va, _, _, _, rfl, rfl, hq, rfl, rfl, _, rfl, iteE rfl ?_⟩
      refine ⟨_, rfl, va, _, _, _, rfl, rfl, hq, rfl, rfl, _, rfl, iteE rfl ?_⟩
      refine ⟨_, rfl, va, _, _, _, rfl, rfl, hq, rfl, rfl, _, rfl, iteE rfl ?_⟩
      refine ⟨_, rfl, va, _, _, _, rfl, rfl, hq, rfl, rfl, _, rfl, iteS rfl ?_⟩
      exact ⟨_, rfl, va, _, _, _, rfl, rfl, hq, rfl, (by show 1 ≤ sizeLine; decide), one h2 rfl⟩
    case with_ e l ks b =>
      obtain ⟨x, y, z, u, rfl, h1, h2, h3, h4⟩ := DpAll.four hd
      refine ⟨_, rfl, va, _, _, _, rfl, rfl, hq, rfl, rfl, _, rfl, iteE rfl ?_⟩
      refine ⟨_, rfl, va, _, _, _, rfl, rfl, hq, rfl, rfl, _, rfl, iteE rfl ?_⟩
      refine ⟨_, rfl, va, _, _, _, rfl, rfl, hq, rfl, rfl, _, rfl, iteE rfl ?_⟩
      refine ⟨_, rfl, va, _, _, _, rfl, rfl, hq, rfl, rfl, _, rfl, iteE rfl ?_⟩
      refine ⟨_, rfl, va, _, _, _, rfl, rfl, hq, rfl, rfl, _, rfl, iteS rfl ?_⟩
      exact ⟨_, rfl, va, _, _, _, rfl, rfl, hq, rfl, (by show 1 ≤ sizeLine; decide), one h4 rfl⟩
    all_goals
      refine ⟨_, rfl, va, _, _, _, rfl, rfl, hq, (atI_nat (j := 0) rfl), rfl, _, rfl, iteE (by decide +kernel) ?_⟩
      refine ⟨_, rfl, va, _, _, _, rfl, rfl, hq, (atI_nat (j := 0) rfl), rfl, _, rfl, iteE (by decide +kernel) ?_⟩
      refine ⟨_, rfl, va, _, _, _, rfl, rfl, hq, (atI_nat (j := 0) rfl), rfl, _, rfl, iteE (by decide +kernel) ?_⟩
      refine ⟨_, rfl, va, _, _, _, rfl, rfl, hq, (atI_nat (j := 0) rfl), rfl, _, rfl, iteE (by decide +kernel) ?_⟩
      refine ⟨_, rfl, va, _, _, _, rfl, rfl, hq, (atI_nat (j := 0) rfl), rfl, _, rfl, iteE (by decide +kernel) ?_⟩
      exact ⟨(by show 0 ≤ sizeLine; decide), emp rfl⟩
end

/-! ### the law -/
def rSlU (K : PySem.W.Frag) : V → Option Int → Option Int → Hp → VK → Prop := fun x lo hi H Q => ∃ a xs, x = .ref a ∧ SqT K H a xs ∧ ∀ p H', Same H H' → SqT K H' p (cutV xs lo hi) → Q (.ref p) H'
theorem sl_tupU {X : Cx} : SlR X (rSlU X.K) := by
  intro pins s σ H x v vl vu lo hi sl Q I rx hs pl pu h
  obtain ⟨a, xs, rfl, hx, k⟩ := h
  refine sl_tupA pins s σ H _ v vl vu lo hi sl Q I rx hs pl pu ⟨a, xs, rfl, hx, fun hw => k a H (Same.refl _) ?_, fun _ p hp => k p _ (same_new hp) (SqT.of upd_same)⟩
  have e : cutV xs lo hi = xs := by
    unfold cutV
    rw [hw.1, hw.2, List.drop_zero, Nat.sub_zero, List.take_length]
  rw [e]
  exact hx
def rCatV (K : PySem.W.Frag) : R2 := fun x y H Q => ∃ a b xs ys, x = .ref a ∧ y = .ref b ∧ SqT K H a xs ∧ SqT K H b ys ∧ xs.length + ys.length ≤ sizeLine ∧ ∀ p H', Same H H' → SqT K H' p (xs ++ ys) → Q (.ref p) H'
theorem op_catV {X : Cx} : OpR X (binaryOp .Add) (rCatV X.K) := fun pins s σ H x y v u Q I rx ry ⟨a, b, xs, ys, e1, e2, q1, q2, sz, k⟩ =>
  op_catA pins s σ H x y v u Q I rx ry ⟨a, b, xs, ys, e1, e2, q1, q2, sz, fun e => k b H (Same.refl _) (by rw [e]; exact q2), fun _ e => k a H (Same.refl _) (by rw [e, List.append_nil]; exact q1), fun _ _ p hp => k p _ (same_new hp) (SqT.of upd_same)⟩

/-! ### k03: the law's texts of sums and calls -/
abbrev sLXt : Stmt := topS 43
abbrev NLXt : List Str := ["_law_expression_here", "_law_text_here", "_law_name", "_law_factor", "_law_body"]
abbrev PLXt : List Str := ["_law_expression_here"]
theorem scLXt : FnScope NLXt PLXt (defScope sLXt) := ⟨rfl, rfl, rfl, by decide +kernel, rfl, by decide +kernel, by decide +kernel⟩
theorem tailS_app (a X : Str) : ∀ r : List (Bool × Str), tailS (a ++ X) r = a ++ tailS X r := fun r => by
  induction r generalizing X with
  | nil => rfl
  | cons p r ih =>
    show tailS ((a ++ X) ++ (sepS p.1 ++ p.2)) r = a ++ tailS (X ++ (sepS p.1 ++ p.2)) r
    rw [show (a ++ X) ++ (sepS p.1 ++ p.2) = a ++ (X ++ (sepS p.1 ++ p.2)) from TL.ext_tl (by simp only [TL.tl_append, List.append_assoc]), ih]
/-- the parts that the law writes -/
def lawB0 (p : Str × Int) : Str := numS p.2.natAbs ++ (if p.1 = "" then ("" : Str) else "*" ++ p.1)
def lawBd (p : Str × Int) : Str := if p.1 ≠ "" ∧ p.2.natAbs = 1 then p.1 else lawB0 p
def lawPt (p : Str × Int) : List (Bool × Str) := if p.2 = 0 then [] else [(decide (p.2 < 0), lawBd p)]
theorem sepS_len (b : Bool) : (sepS b).length = 3 := by unfold sepS; split <;> decide +kernel
theorem cut_three (b : Bool) (u : Str) : cutS (sepS b ++ u) (some 3) none = u := by
  have h3 := sepS_len b
  refine TL.ext_tl ?_
  unfold cutS
  have e1 : HT.sIx (sepS b ++ u).length 0 (some 3) = min 3 (sepS b ++ u).length := HT.sIx_nat ..
  have e2 := len_add (sepS b) u
  rw [HT.sIx_none, e1, Nat.min_eq_left (by omega)]
  show (((sepS b ++ u).cps.toList.drop 3).take _) = TL.tl u
  have e3 : (sepS b ++ u).cps.toList = TL.tl (sepS b) ++ TL.tl u := TL.tl_append _ _
  have e4 : (TL.tl (sepS b)).length = 3 := by rw [← TL.len_tl]; exact h3
  rw [e3, List.drop_left' e4]
  exact List.take_of_length_le (by rw [← TL.len_tl]; omega)
theorem at_one (b : Bool) (u : Str) : (sepS b ++ u).cps.toList[1]? = some (if b = true then 45 else 43) := by
  have e3 : (sepS b ++ u).cps.toList = TL.tl (sepS b) ++ TL.tl u := TL.tl_append _ _
  rw [e3]
  cases b with
  | true => rw [show TL.tl (sepS true) = [32, 45, 32] by decide +kernel]; rfl
  | false => rw [show TL.tl (sepS false) = [32, 43, 32] by decide +kernel]; rfl
theorem add_assoc3 (A B D : Str) : A ++ B ++ D = A ++ (B ++ D) := TL.ext_tl (by simp only [TL.tl_append, List.append_assoc])
theorem law_parts {e : Ex} (g : GE e) : (e.ts ++ [(("", e.c) : Str × Int)]).flatMap lawPt = e.ts.map (fun p => (decide (p.2 < 0), termS p.1 p.2)) ++ (if e.c ≠ 0 then [(decide (e.c < 0), numS e.c.natAbs)] else []) := by
  rw [List.flatMap_append]
  congr 1
  · have : ∀ l : List (Str × Int), (∀ p ∈ l, isName p.1 = true ∧ p.2 ≠ 0) → l.flatMap lawPt = l.map (fun p => (decide (p.2 < 0), termS p.1 p.2)) := fun l => by
      induction l with
      | nil => exact fun _ => rfl
      | cons p l ih =>
        intro h
        obtain ⟨h1, h2⟩ := h p List.mem_cons_self
        rw [List.flatMap_cons, List.map_cons, ih fun q hq => h q (List.mem_cons_of_mem _ hq)]
        have ne := name_ne h1
        have e : lawPt p = [(decide (p.2 < 0), termS p.1 p.2)] := by
          unfold lawPt lawBd lawB0 termS
          rw [if_neg h2, if_neg ne]
          by_cases q : p.2.natAbs = 1
          · rw [if_pos ⟨ne, q⟩, if_pos q]
          · rw [if_neg fun z => q z.2, if_neg q, empty_add, add_assoc3]
        rw [e]
        rfl
    exact this e.ts fun p hp => ⟨(g.nm p hp).1, (g.nm p hp).2.2.1⟩
  · rw [List.flatMap_cons, List.flatMap_nil, List.append_nil]
    unfold lawPt lawBd lawB0
    by_cases q : e.c = 0
    · rw [if_pos q, if_neg fun z => z q]
    · rw [if_neg q, if_pos q, if_neg fun z => z.1 rfl, if_pos rfl, str_emp, add_empty]
structure TxLt (mg : Str → Option Value) : Prop where
  n_str : mg "str" = none
  n_abs : mg "abs" = none
  n_int : mg "int" = none
  n_len : mg "len" = none
  n_range : mg "range" = none
def spLXt (K : PySem.W.Frag) : Sp := fun vs H Q _ => ∃ (v : V) (e : Ex), vs = [v] ∧ Dp K H v (exD e) ∧ GE e ∧ ∀ H', Same H H' → Q (.str (exprS e.c e.ts)) H'
section
variable {P : Program} {w : World} {K : PySem.W.Frag} {mg : Str → Option Value} {base : Heap}
theorem ok_LXt {f : Addr} {fd : FuncData} (F : Fun K "_law_expression_text" "_law_expression_text" sLXt f fd) (T : TxLt mg) : FnOk P w K mg base CX0 1 f fd PLXt (spLXt K) := by
  refine F.ok scLXt (fun vs H Q E h => ?_) (fun cdv A outer s H vs Q E hr h => ?_)
  · obtain ⟨v, e, rfl, _⟩ := h
    rfl
  · obtain ⟨v, e, rfl, hv, g, k⟩ := h
    refine ⟨_, (pss_cons (ps_set (i := 1) scLXt.nd rfl (Or.inl rfl) pe_str)
  (pss_cons (ps_for PassesOwn.never rfl (pi_tup (pe_op op_catV (pe_ix (r := rIxT K) ix_tup (pv 0) pe_int (fun _ _ => rfl)) (pe_tup (pa_cons (pe_tup (pa_cons pe_str (pa_cons (pe_ix (r := rIxT K) ix_tup (pv 0) pe_int (fun _ _ => rfl)) pa_nil))) pa_nil)))) (pg_tup (by rfl) (pgs_cons (pg_name (i := 2) scLXt.nd rfl (Or.inl rfl)) (pgs_cons (pg_name (i := 3) scLXt.nd rfl (Or.inl rfl)) pgs_nil)))
  (C8.pss_cut (ps_set (i := 4) scLXt.nd rfl (Or.inl rfl) (pe_op op_add_str (pe_callTy call_str_int (by rfl) T.n_str bb_str (pa_cons (pe_callB call_abs (by rfl) T.n_abs bb_abs (pa_cons (pv 3) pa_nil)) pa_nil)) (pe_ifExp (pt_cmpR op_eq (pv 2) pe_str (nomark _)) pe_str (pe_op op_add_str pe_str (pv 2)))))
  (C8.pss_cut (ps_if (PW.pt (pw_and (pt_cmpR op_ne (pv 2) pe_str (nomark _)) (pw_and1 (pt_cmpR op_eq (pe_callB call_abs (by rfl) T.n_abs bb_abs (pa_cons (pv 3) pa_nil)) pe_int (nomark _)))))
  (pss_one (ps_set (i := 4) scLXt.nd rfl (Or.inl rfl) (pv 2)))
  pss_nil)
  (pss_one (ps_if (pt_cmpR op_ne (pv 3) pe_int (nomark _))
  (pss_one (ps_set (i := 1) scLXt.nd rfl (Or.inl rfl) (pe_op op_add_str (pe_op op_add_str (pv 1) (pe_ix (r := rIxL K) ix_list (pe_lst (pa_cons pe_str (pa_cons pe_str pa_nil))) (pe_callTy call_int1 (by rfl) T.n_int bb_int (pa_cons (pe_cmpR op_lt (pv 3) pe_int (nomark _)) pa_nil)) (fun _ _ => rfl))) (pv 4))))
  pss_nil)))))
  (pss_cons (ps_if (pt_cmpR op_eq (pv 1) pe_str (nomark _))
  (pss_one (ps_ret pe_str))
  pss_nil)
  (pss_one (ps_ret (pe_ifExp (pt_cmpR op_eq (pe_ix ix_str (pv 1) pe_int (fun _ _ => rfl)) pe_str (nomark _)) (pe_slice sl_str (pv 1) (po_some pe_int) po_none) (pe_op op_add_str pe_str (pe_slice sl_str (pv 1) (po_some pe_int) po_none)))))))), ?_⟩
    have hv : Dp K H v (.tuple [.int e.c, .tuple (e.ts.map fun p => .tuple [.str p.1, .int p.2])]) := hv
    obtain ⟨a, xs, rfl, hq, hd⟩ := hv.tupInv
    obtain ⟨x, y, rfl, h1, h2⟩ := hd.two
    rw [h1.intInv] at hq
    obtain ⟨b, ys, rfl, hb, hbd⟩ := h2.tupInv
    have px := DpAll.map (f := fun p : Str × Int => PyData.tuple [.str p.1, .int p.2]) hbd
    refine ⟨_, rfl, a, _, _, _, rfl, rfl, hq, rfl, ?_⟩
    have e24 : sizeLine = 2 ^ 24 := rfl
    have le : ("" : Str).length = 0 := by decide +kernel
    have lst : ("*" : Str).length = 1 := by decide +kernel
    have pit : Paired (fun v (r : Str × Int) => ∃ a, v = .ref a ∧ SqT K H a [.str r.1, .int r.2]) ys e.ts := Paired.mapP px fun v r z => by
      have z : Dp K H v (.tuple [.str r.1, .int r.2]) := z
      obtain ⟨c, zs, rfl, hc, hcd⟩ := z.tupInv
      obtain ⟨x, y, rfl, h1, h2⟩ := hcd.two
      rw [h1.strInv, h2.intInv] at hc
      exact ⟨c, rfl, hc⟩
    have ly := Paired.length pit
    have lts := g.ln
    refine ⟨_, rfl, a, _, _, _, rfl, rfl, hq, rfl, (by show 2 ≤ sizeLine; decide), fun t ht => ⟨(by show 1 ≤ sizeLine; decide), fun u hu => ?_⟩⟩
    have s1 := same_new (o := .tup [V.str "", .int e.c]) ht
    have s2 := same_new (o := .tup [V.ref t]) hu
    have s12 := s1.trans s2
    have et : SqT K (upd (upd H t (.tup [V.str "", .int e.c])) u (.tup [V.ref t])) t [V.str "", .int e.c] := SqT.same s2 (SqT.of upd_same)
    refine ⟨b, u, _, _, rfl, rfl, SqT.same s12 hb, SqT.of upd_same, by rw [e24]; show ys.length + 1 ≤ _; omega, fun p H3 s3 hp => ?_⟩
    have s13 := s12.trans s3
    have pal : Paired (fun v (r : Str × Int) => ∃ a, v = .ref a ∧ SqT K H3 a [.str r.1, .int r.2]) (ys ++ [.ref t]) (e.ts ++ [(("", e.c) : Str × Int)]) := Paired.snoc (Paired.mapP pit fun v r ⟨c, e, q⟩ => ⟨c, e, SqT.same s13 q⟩) ⟨t, rfl, SqT.same s3 et⟩
    have lal := Paired.length pal
    have gal : ∀ r ∈ e.ts ++ [(("", e.c) : Str × Int)], r.2.natAbs < 10 ∧ r.1.length ≤ 3 := fun r hr => by
      rcases List.mem_append.mp hr with z | z
      · exact ⟨(g.nm r z).2.2.2, (g.nm r z).2.1⟩
      · rw [List.mem_singleton.mp z]
        exact ⟨g.c, by rw [le]; decide⟩
    refine ⟨p, rfl, ⟨_, hp⟩, for_it (walk_tup (K := K) (a := p) (xs := ys ++ [V.ref t])) (fun i σ H' => Same H3 H' ∧ ∃ x2 x3 x4 : Option V, σ = [some (.ref a), some (.str (tailS "" (((e.ts ++ [(("", e.c) : Str × Int)]).take i).flatMap lawPt))), x2, x3, x4]) ⟨Same.refl _, _, _, _, rfl⟩ (fun i σ H' _ h' => SqT.same h'.1 hp) ?_ ?_⟩
    · rintro i x σ H4 H5 hi ⟨s4, x2, x3, x4, rfl⟩ ⟨rfl, hx⟩
      obtain ⟨r, hr', c, rfl, hc⟩ := Paired.at pal hx
      obtain ⟨gr, gl⟩ := gal r (List.mem_of_getElem? hr')
      refine ⟨c, _, rfl, SqT.same s4 hc, rfl, _, _, rfl, _, _, rfl, rfl, ?_⟩
      have lg : r.2.natAbs.log2 < 1920 := log_lt (Nat.lt_of_lt_of_le gr (by decide))
      have ln := num_len10 gr
      have l0 : (lawB0 r).length ≤ 5 := by
        unfold lawB0
        rw [len_add, ln]
        split
        · rw [le]; decide
        · rw [len_add, lst]; omega
      have lb : (lawBd r).length ≤ 5 := by
        unfold lawBd
        split
        · omega
        · exact l0
      refine ⟨fun σ H' => σ = [some (.ref a), some (.str (tailS "" (((e.ts ++ [(("", e.c) : Str × Int)]).take i).flatMap lawPt))), some (.str r.1), some (.int r.2), some (.str (lawB0 r))] ∧ H' = H5, ?_, ?_⟩
      · refine ⟨_, rfl, r.2, rfl, _, rfl, by rw [abs_nat]; exact lg, ?_⟩
        rw [abs_nat]
        refine ⟨_, rfl, rfl, _, rfl, ?_⟩
        unfold lawB0
        by_cases hn : r.1 = ""
        · refine iteS (decide_eq_true (by rw [hn])) ?_
          rw [if_pos hn]
          exact ⟨_, _, rfl, rfl, by show (numS r.2.natAbs).length + _ ≤ _; rw [ln, le, e24]; decide, rfl, rfl⟩
        · refine iteE (decide_eq_false fun z => hn (by injection z)) ?_
          rw [if_neg hn]
          exact ⟨_, rfl, _, _, rfl, rfl, by rw [lst, e24]; omega, _, _, rfl, rfl, by show (numS r.2.natAbs).length + _ ≤ _; rw [ln, len_add, lst, e24]; omega, rfl, rfl⟩
      rintro σ H6 ⟨rfl, rfl⟩
      refine ⟨fun σ H' => σ = [some (.ref a), some (.str (tailS "" (((e.ts ++ [(("", e.c) : Str × Int)]).take i).flatMap lawPt))), some (.str r.1), some (.int r.2), some (.str (lawBd r))] ∧ H' = H6, ?_, ?_⟩
      · refine ⟨_, rfl, rfl, _, rfl, ?_⟩
        by_cases hn : r.1 = ""
        · have eb : lawBd r = lawB0 r := if_neg fun z => z.1 hn
          rw [eb]
          exact iteE (by rw [decide_eq_true (by rw [hn])]; rfl) ⟨rfl, rfl⟩
        · refine iteS (by rw [decide_eq_false fun z => hn (by injection z)]; rfl) ?_
          refine ⟨_, rfl, r.2, rfl, rfl, _, rfl, ?_⟩
          rw [abs_nat]
          by_cases h1 : r.2.natAbs = 1
          · have eb : lawBd r = r.1 := if_pos ⟨hn, h1⟩
            rw [eb]
            exact iteS (decide_eq_true (by rw [h1]; rfl)) ⟨_, rfl, rfl, rfl⟩
          · have eb : lawBd r = lawB0 r := if_neg fun z => h1 z.2
            rw [eb]
            exact iteE (decide_eq_false fun z => h1 (by injection z with z; omega)) ⟨rfl, rfl⟩
      rintro σ H7 ⟨rfl, rfl⟩
      have etk : ((e.ts ++ [(("", e.c) : Str × Int)]).take (i + 1)).flatMap lawPt = ((e.ts ++ [(("", e.c) : Str × Int)]).take i).flatMap lawPt ++ lawPt r := by
        rw [take_snoc hr', List.flatMap_append, List.flatMap_cons, List.flatMap_nil, List.append_nil]
      refine ⟨_, rfl, rfl, _, rfl, ?_⟩
      by_cases h0 : r.2 = 0
      · refine iteE (by rw [h0]; rfl) ⟨s4, some (V.str r.1), some (V.int r.2), some (V.str (lawBd r)), ?_⟩
        rw [etk, show lawPt r = [] from if_pos h0, List.append_nil]
      · refine iteS (by rw [decide_eq_false fun z => h0 (by injection z)]; rfl) ?_
        have tl := tail_len5 (X := ("" : Str)) (n := 0) (by rw [le]; decide) (((e.ts ++ [(("", e.c) : Str × Int)]).take i).flatMap lawPt) fun q hq => by
          obtain ⟨w, hw, hq⟩ := List.mem_flatMap.mp hq
          obtain ⟨gw, gwl⟩ := gal w (List.mem_of_mem_take hw)
          unfold lawPt at hq
          split at hq
          · cases hq
          · rw [List.mem_singleton.mp hq]
            have ln2 := num_len10 gw
            show (lawBd w).length ≤ 5
            unfold lawBd lawB0
            split
            · omega
            · rw [len_add, ln2]
              split
              · rw [le]; decide
              · rw [len_add, lst]; omega
        have fl : ∀ l : List (Str × Int), (l.flatMap lawPt).length ≤ l.length := fun l => by
          induction l with
          | nil => exact Nat.le_refl _
          | cons w l ih =>
            rw [List.flatMap_cons, List.length_append, List.length_cons]
            have : (lawPt w).length ≤ 1 := by
              unfold lawPt
              split
              · exact Nat.zero_le _
              · exact Nat.le_refl _
            omega
        have fl2 := fl ((e.ts ++ [(("", e.c) : Str × Int)]).take i)
        have fl3 : ((e.ts ++ [(("", e.c) : Str × Int)]).take i).length ≤ 9 := by
          rw [List.length_take, List.length_append]
          show min i (e.ts.length + 1) ≤ 9
          omega
        have l3 : (sepS (decide (r.2 < 0))).length = 3 := by unfold sepS; split <;> decide +kernel
        refine ⟨_, rfl, (by show 2 ≤ sizeLine; decide), fun L hL => ?_⟩
        have s5 := same_new (o := .lst [V.str " + ", V.str " - "]) hL
        refine ⟨_, rfl, _, _, rfl, rfl, .inr ⟨_, rfl, L, _, _, V.str (sepS (decide (r.2 < 0))), rfl, rfl, SqL.of upd_same, ?_, _, _, rfl, rfl, by rw [l3, e24]; omega, _, rfl, _, _, rfl, rfl, by rw [len_add, l3, e24]; omega, s4.trans s5, some (V.str r.1), some (V.int r.2), some (V.str (lawBd r)), ?_⟩⟩
        · cases decide (r.2 < 0) with
          | true => exact atI_nat (j := 1) rfl
          | false => exact atI_nat (j := 0) rfl
        · rw [etk, show lawPt r = [(decide (r.2 < 0), lawBd r)] from if_neg h0]
          have : ∀ (X : Str) (l : List (Bool × Str)) (q : Bool × Str), tailS X (l ++ [q]) = tailS X l ++ (sepS q.1 ++ q.2) := fun X l q => by
            unfold tailS
            rw [List.foldl_append]
            rfl
          rw [this]
          have e3 : ∀ A B D : Str, A ++ B ++ D = A ++ (B ++ D) := fun A B D => TL.ext_tl (by simp only [TL.tl_append, List.append_assoc])
          rw [← e3]
          rfl
    · rintro σ H4 ⟨s4, x2, x3, x4, rfl⟩
      rw [lal, List.take_length, law_parts g]
      have s14 := s13.trans s4
      by_cases hz : e.ts = [] ∧ e.c = 0
      · have e0 : exprS e.c e.ts = "0" := by
          rw [hz.1, hz.2]
          decide +kernel
        rw [hz.1, hz.2]
        refine ⟨_, rfl, rfl, _, rfl, iteS rfl ?_⟩
        have := k H4 s14
        rw [e0] at this
        exact this
      · have epp : partsS e.c e.ts = e.ts.map (fun p => (decide (p.2 < 0), termS p.1 p.2)) ++ (if e.c ≠ 0 then [(decide (e.c < 0), numS e.c.natAbs)] else []) := by
          unfold partsS
          congr 1
          by_cases q : e.c = 0
          · rw [if_neg fun z => z.elim (fun z => z q) fun z => hz ⟨z, q⟩, if_neg fun z => z q]
          · rw [if_pos (.inl q), if_pos q]
        rw [← epp]
        have hne : partsS e.c e.ts ≠ [] := fun z => by
          rw [parts_pts] at z
          exact pts_ne e (List.map_eq_nil_iff.mp z)
        have el := expr_len g
        unfold exprS at k el
        cases ep : partsS e.c e.ts with
        | nil => exact absurd ep hne
        | cons q r =>
          rw [ep] at k el
          have k : ∀ H', Same H H' → Q (.str (tailS (if q.1 = true then "-" ++ q.2 else q.2) r)) H' := k
          have el : (tailS (if q.1 = true then "-" ++ q.2 else q.2) r).length ≤ 80 := el
          have et : tailS "" (q :: r) = sepS q.1 ++ tailS q.2 r := by
            show tailS ("" ++ (sepS q.1 ++ q.2)) r = _
            rw [str_emp, empty_add, tailS_app]
          rw [et]
          have lmin : ("-" : Str).length = 1 := by decide +kernel
          have lt : (tailS q.2 r).length ≤ 80 := by
            cases hb : q.1 with
            | true =>
              rw [hb, if_pos rfl, tailS_app, len_add, lmin] at el
              omega
            | false =>
              rw [hb, if_neg Bool.false_ne_true] at el
              exact el
          have ls := sepS_len q.1
          have lz : (sepS q.1 ++ tailS q.2 r).length ≤ 83 := by rw [len_add]; omega
          have nz : sepS q.1 ++ tailS q.2 r ≠ "" := fun z => by
            have := congrArg Str.length z
            rw [len_add, le] at this
            omega
          have ha := at_one q.1 (tailS q.2 r)
          have hc := cut_three q.1 (tailS q.2 r)
          generalize sepS q.1 ++ tailS q.2 r = z at *
          refine ⟨_, rfl, rfl, _, rfl, iteE (decide_eq_false fun w => nz (by injection w)) ?_⟩
          refine ⟨_, rfl, z, 1, _, rfl, rfl, by rw [e24]; omega, atI_nat (j := 1) ha, rfl, _, rfl, ?_⟩
          cases hb : q.1 with
          | false =>
            rw [hb] at k
            refine iteS (decide_eq_true (by decide +kernel)) ⟨_, rfl, 3, rfl, z, rfl, by rw [e24]; omega, ?_⟩
            rw [hc]
            exact k H4 s14
          | true =>
            rw [hb] at k
            refine iteE (decide_eq_false (by decide +kernel)) ⟨_, rfl, 3, rfl, z, rfl, by rw [e24]; omega, _, _, rfl, rfl, ?_, ?_⟩
            · rw [hc, lmin, e24]
              omega
            · rw [hc]
              have := k H4 s14
              rw [if_pos rfl, tailS_app] at this
              exact this
end

/-! ### k03: _law_call_text, _law_line, _law_heads -/
abbrev sLCt : Stmt := topS 44
abbrev NLCt : List Str := ["_law_call_here", "_law_words", "_law_word", "_law_one"]
abbrev PLCt : List Str := ["_law_call_here"]
theorem scLCt : FnScope NLCt PLCt (defScope sLCt) := ⟨rfl, rfl, rfl, by decide +kernel, rfl, by decide +kernel, by decide +kernel⟩
abbrev sLLn : Stmt := topS 46
abbrev NLLn : List Str := ["_law_statement"]
abbrev PLLn : List Str := ["_law_statement"]
theorem scLLn : FnScope NLLn PLLn (defScope sLLn) := ⟨rfl, rfl, rfl, by decide +kernel, rfl, by decide +kernel, by decide +kernel⟩
abbrev sLHd : Stmt := topS 45
abbrev NLHd : List Str := ["_law_statement", "_law_handler", "_law_words"]
abbrev PLHd : List Str := ["_law_statement"]
theorem scLHd : FnScope NLHd PLHd (defScope sLHd) := ⟨rfl, rfl, rfl, by decide +kernel, rfl, by decide +kernel, by decide +kernel⟩
def spLCt (K : PySem.W.Frag) : Sp := fun vs H Q _ => ∃ (v : V) (c : Cal), vs = [v] ∧ Dp K H v (calD c) ∧ GC c ∧ ∀ H', Same H H' → Q (.str (callS c)) H'
def spLLn (K : PySem.W.Frag) : Sp := fun vs H Q _ => ∃ (v : V) (s : St), vs = [v] ∧ Dp K H v (stD s) ∧ gS s ∧ headsS s = [] ∧ ∀ H', Same H H' → Q (.str (simS s)) H'
section
variable {P : Program} {w : World} {K : PySem.W.Frag} {mg : Str → Option Value} {base : Heap}
theorem ok_LCt {f : Addr} {fd : FuncData} (F : Fun K "_law_call_text" "_law_call_text" sLCt f fd) (GX : Has P w K mg base CX0 1 "_law_expression_text" PLXt (spLXt K)) : FnOk P w K mg base CX0 2 f fd PLCt (spLCt K) := by
  refine F.ok scLCt (fun vs H Q E h => ?_) (fun cdv A outer s H vs Q E hr h => ?_)
  · obtain ⟨v, c, rfl, _⟩ := h
    rfl
  · obtain ⟨v, ⟨fn, as⟩, rfl, hv, g, k⟩ := h
    refine ⟨_, (pss_cons (ps_set (i := 1) scLCt.nd rfl (Or.inl rfl) (pe_lst pa_nil))
  (pss_cons (ps_for PassesOwn.never rfl (pi_tup (pe_ix (r := rIxT K) ix_tup (pv 0) pe_int (fun _ _ => rfl))) (pg_tup (by rfl) (pgs_cons (pg_name (i := 2) scLCt.nd rfl (Or.inl rfl)) (pgs_cons (pg_name (i := 3) scLCt.nd rfl (Or.inl rfl)) pgs_nil)))
  (pss_one (ps_expr (pe_bm PySem.F.plainAttrs_list PySem.F.slot_list_append PySem.F.type_list_append mt_append (pv 1) (pa_cons (pe_ifExp (pt_cmpR op_eq (pv 2) pe_str (nomark _)) (pe_op op_add_str pe_str (pv 3)) (pe_callH GX hr rfl pass0 (pa_cons (pv 3) pa_nil))) pa_nil)))))
  (pss_one (ps_ret (pe_op op_add_str (pe_op op_add_str (pe_op op_add_str (pe_ix (r := rIxT K) ix_tup (pv 0) pe_int (fun _ _ => rfl)) pe_str) (pe_join pe_str (pv 1))) pe_str))))), ?_⟩
    have e24 : sizeLine = 2 ^ 24 := rfl
    have l1 : ("(" : Str).length = 1 := by decide +kernel
    have l2 : (")" : Str).length = 1 := by decide +kernel
    have la1 : ("&" : Str).length = 1 := by decide +kernel
    have hv : Dp K H v (.tuple [.str fn, .tuple (as.map argD)]) := hv
    obtain ⟨a, xs, rfl, hq, hd⟩ := hv.tupInv
    obtain ⟨x, y, rfl, h1, h2⟩ := hd.two
    rw [h1.strInv] at hq
    obtain ⟨b, ys, rfl, hb, hbd⟩ := h2.tupInv
    have px := DpAll.map (f := argD) hbd
    have lx := Paired.length px
    have la : as.length ≤ 2 := g.2.1
    have ln : fn.length ≤ 3 := g.1.2
    have hj := joins_len (ys := as.map argS) (m := 80) fun y hy => by
      obtain ⟨a, ha, rfl⟩ := List.mem_map.mp hy
      exact arg_len (g.2.2 a ha)
    rw [List.length_map] at hj
    have h4 := join_len ", " (as.map argS)
    rw [List.length_map] at h4
    refine ⟨(by show 0 ≤ sizeLine; decide), fun X hX => ?_⟩
    have s1 := same_new (o := .lst []) hX
    refine ⟨_, rfl, a, _, _, _, rfl, rfl, SqT.same s1 hq, rfl, b, rfl, ⟨_, SqT.same s1 hb⟩, for_it (walk_tup (K := K) (a := b) (xs := ys)) (fun i σ H' => Same H H' ∧ ∃ x2 x3 : Option V, σ = [some (.ref a), some (.ref X), x2, x3] ∧ H' X = some (.lst (((as.map argS).take i).map V.str))) ⟨s1, _, _, rfl, upd_same⟩ (fun i σ H' _ h' => SqT.same h'.1 hb) ?_ ?_⟩
    · rintro i x σ H2 H3 hi ⟨s2, x2, x3, rfl, eX⟩ ⟨rfl, hx⟩
      obtain ⟨ar, har, dar⟩ := Paired.at px hx
      have gar := g.2.2 ar (List.mem_of_getElem? har)
      have htk : (as.map argS).take (i + 1) = (as.map argS).take i ++ [argS ar] := take_snoc (by rw [List.getElem?_map, har]; rfl)
      have ltk : (((as.map argS).take i).map V.str).length ≤ 10000 := by rw [List.length_map, List.length_take, List.length_map]; omega
      have put : ∀ {H' : Hp} {o : HO}, Same H H' → Same H (upd H' X o) := fun s' b o z => by
        rw [upd_ne (ne_of_none z hX)]
        exact s' _ _ z
      cases ar with
      | place n =>
        have dar : Dp K H x (.tuple [.str "place", .str n]) := dar
        obtain ⟨c, zs, rfl, hc, hcd⟩ := dar.tupInv
        obtain ⟨m1, m2, rfl, d1, d2⟩ := hcd.two
        rw [d1.strInv, d2.strInv] at hc
        have gn := (show GN n from gar).2
        refine ⟨c, _, rfl, SqT.same s2 hc, rfl, _, _, rfl, _, _, rfl, rfl, ?_⟩
        refine ⟨_, rfl, .inl ⟨rfl, _, SqL.of eX⟩, _, rfl, rfl, _, rfl, iteS rfl ⟨_, rfl, _, _, rfl, rfl, by rw [la1, e24]; omega, X, _, _, rfl, rfl, eX, small10 ltk, put s2, _, _, rfl, ?_⟩⟩
        rw [upd_same, htk, List.map_append]
        rfl
      | value e =>
        have dar : Dp K H x (.tuple [.str "value", exD e]) := dar
        obtain ⟨c, zs, rfl, hc, hcd⟩ := dar.tupInv
        obtain ⟨m1, m2, rfl, d1, d2⟩ := hcd.two
        rw [d1.strInv] at hc
        refine ⟨c, _, rfl, SqT.same s2 hc, rfl, _, _, rfl, _, _, rfl, rfl, ?_⟩
        refine ⟨_, rfl, .inl ⟨rfl, _, SqL.of eX⟩, _, rfl, rfl, _, rfl, iteE (by decide +kernel) ⟨_, rfl, m2, e, rfl, d2.same s2, gar, fun H4 s4 => ⟨X, _, _, rfl, rfl, s4 _ _ eX, small10 ltk, put (s2.trans s4), _, _, rfl, ?_⟩⟩⟩
        rw [upd_same, htk, List.map_append]
        rfl
    · rintro σ H2 ⟨s2, x2, x3, rfl, eX⟩
      rw [lx, ← List.length_map (f := argS), List.take_length] at eX
      refine ⟨_, rfl, a, _, _, _, rfl, rfl, SqT.same s2 hq, rfl, _, _, rfl, rfl, by rw [l1, e24]; omega, ⟨_, rfl⟩, _, rfl, _, X, as.map argS, rfl, rfl, .inl (SqL.of eX), by rw [List.length_map]; omega, _, _, rfl, rfl, by rw [len_add, l1, e24]; omega, _, _, rfl, rfl, by rw [len_add, len_add, l1, l2, e24]; omega, k H2 s2⟩
theorem ok_LLn {f : Addr} {fd : FuncData} (F : Fun K "_law_line" "_law_line" sLLn f fd) (GX : Has P w K mg base CX0 1 "_law_expression_text" PLXt (spLXt K)) (GC' : Has P w K mg base CX0 2 "_law_call_text" PLCt (spLCt K)) : FnOk P w K mg base CX0 3 f fd PLLn (spLLn K) := by
  refine F.ok scLLn (fun vs H Q E h => ?_) (fun cdv A outer s H vs Q E hr h => ?_)
  · obtain ⟨v, st, rfl, _⟩ := h
    rfl
  · obtain ⟨v, st, rfl, hv, g, h0, k⟩ := h
    have hr1 := hr.mono (j := 1) (by decide)
    refine ⟨_, (pss_cons (ps_if (pt_cmpR op_eq (pe_ix (r := rIxT K) ix_tup (pv 0) pe_int (fun _ _ => rfl)) pe_str (nomark _))
  (pss_one (ps_ret (pe_op op_add_str (pe_op op_add_str (pe_ix (r := rIxT K) ix_tup (pv 0) pe_int (fun _ _ => rfl)) pe_str) (pe_callH GX hr1 rfl pass0 (pa_cons (pe_ix (r := rIxT K) ix_tup (pv 0) pe_int (fun _ _ => rfl)) pa_nil)))))
  pss_nil)
  (pss_cons (ps_if (pt_cmpR op_eq (pe_ix (r := rIxT K) ix_tup (pv 0) pe_int (fun _ _ => rfl)) pe_str (nomark _))
  (pss_one (ps_ret (pe_op op_add_str (pe_ix (r := rIxT K) ix_tup (pv 0) pe_int (fun _ _ => rfl)) pe_str)))
  pss_nil)
  (pss_cons (ps_if (pt_cmpR op_eq (pe_ix (r := rIxT K) ix_tup (pv 0) pe_int (fun _ _ => rfl)) pe_str (nomark _))
  (pss_one (ps_ret (pe_op op_add_str (pe_ifExp (pt_cmpR op_isN (pe_ix (r := rIxT K) ix_tup (pv 0) pe_int (fun _ _ => rfl)) pe_non (nomark _)) pe_str (pe_op op_add_str (pe_ix (r := rIxT K) ix_tup (pv 0) pe_int (fun _ _ => rfl)) pe_str)) (pe_callH GC' hr rfl pass0 (pa_cons (pe_slice sl_tupU (pv 0) (po_some pe_int) po_none) pa_nil)))))
  pss_nil)
  (pss_cons (ps_if (pt_cmpR op_eq (pe_ix (r := rIxT K) ix_tup (pv 0) pe_int (fun _ _ => rfl)) pe_str (nomark _))
  (pss_one (ps_ret (pe_op op_add_str pe_str (pe_callH GX hr1 rfl pass0 (pa_cons (pe_ix (r := rIxT K) ix_tup (pv 0) pe_int (fun _ _ => rfl)) pa_nil)))))
  pss_nil)
  (pss_cons (ps_if (pt_cmpR op_eq (pe_ix (r := rIxT K) ix_tup (pv 0) pe_int (fun _ _ => rfl)) pe_str (nomark _))
  (pss_one (ps_ret (pe_op op_add_str pe_str (pe_ix (r := rIxT K) ix_tup (pv 0) pe_int (fun _ _ => rfl)))))
  pss_nil)
  (pss_one (ps_ret (pe_op op_add_str pe_str (pe_join pe_str (pe_ix (r := rIxT K) ix_tup (pv 0) pe_int (fun _ _ => rfl))))))))))), ?_⟩
    have e24 : sizeLine = 2 ^ 24 := rfl
    have l3 : (" = " : Str).length = 3 := by decide +kernel
    have l4 : (" = ?" : Str).length = 4 := by decide +kernel
    have l5 : ("risk " : Str).length = 5 := by decide +kernel
    have l6 : ("raise " : Str).length = 6 := by decide +kernel
    have l7 : ("return " : Str).length = 7 := by decide +kernel
    have le0 : ("" : Str).length = 0 := by decide +kernel
    obtain ⟨va, xs, rfl, hq, hd⟩ := stInv hv
    cases st <;> simp only [wordS] at hq
    case set t e =>
      have g : GN t ∧ GE e := g
      have lt := g.1.2
      have le := expr_len g.2
      obtain ⟨x, y, rfl, h1, h2⟩ := DpAll.two hd
      rw [h1.strInv] at hq
      refine ⟨_, rfl, va, _, _, _, rfl, rfl, hq, rfl, rfl, _, rfl, iteS rfl ?_⟩
      exact ⟨_, rfl, va, _, _, _, rfl, rfl, hq, rfl, _, _, rfl, rfl, by rw [l3, e24]; omega, _, rfl, va, _, _, _, rfl, rfl, hq, rfl, y, e, rfl, h2, g.2, fun H' s' => ⟨_, _, rfl, rfl, by rw [len_add, l3, e24]; omega, k H' s'⟩⟩
    case input t =>
      have lt := (show GN t from g).2
      obtain ⟨x, rfl, h1⟩ := DpAll.one hd
      rw [h1.strInv] at hq
      refine ⟨_, rfl, va, _, _, _, rfl, rfl, hq, rfl, rfl, _, rfl, iteE (by decide +kernel) ?_⟩
      refine ⟨_, rfl, va, _, _, _, rfl, rfl, hq, rfl, rfl, _, rfl, iteS rfl ?_⟩
      exact ⟨_, rfl, va, _, _, _, rfl, rfl, hq, rfl, _, _, rfl, rfl, by rw [l4, e24]; omega, k H (Same.refl _)⟩
    case call t f as =>
      have g : (∀ x, t = some x → GN x) ∧ GC (f, as) := g
      have lc := call_len g.2
      obtain ⟨x, y, z, rfl, h1, h2, h3⟩ := DpAll.three hd
      rw [h2.strInv] at hq
      refine ⟨_, rfl, va, _, _, _, rfl, rfl, hq, rfl, rfl, _, rfl, iteE (by decide +kernel) ?_⟩
      refine ⟨_, rfl, va, _, _, _, rfl, rfl, hq, rfl, rfl, _, rfl, iteE (by decide +kernel) ?_⟩
      refine ⟨_, rfl, va, _, _, _, rfl, rfl, hq, rfl, rfl, _, rfl, iteS rfl ?_⟩
      have dc : ∀ {H' : Hp} {p : Addr}, Same H H' → SqT K H' p [V.str f, z] → Dp K H' (.ref p) (calD (f, as)) := fun s' e => .tup e (.cons (.str _) (.cons (h3.same s') .nil))
      cases t with
      | none =>
        have hx : x = .non := by cases h1; rfl
        subst hx
        refine ⟨_, rfl, va, _, _, _, rfl, rfl, hq, rfl, rfl, _, rfl, iteS rfl ?_⟩
        refine ⟨_, rfl, 2, rfl, va, _, rfl, hq, fun p1 H1 s1 hp1 => ⟨.ref p1, (f, as), rfl, dc s1 hp1, g.2, fun H2 s2 => ⟨_, _, rfl, rfl, by rw [le0, e24]; omega, ?_⟩⟩⟩
        rw [str_emp, empty_add]
        exact k H2 (s1.trans s2)
      | some t =>
        have lt := (g.1 t rfl).2
        have hx : x = .str t := Dp.strInv h1
        subst hx
        refine ⟨_, rfl, va, _, _, _, rfl, rfl, hq, rfl, rfl, _, rfl, iteE rfl ?_⟩
        refine ⟨_, rfl, va, _, _, _, rfl, rfl, hq, rfl, _, _, rfl, rfl, by rw [l3, e24]; omega, ?_⟩
        exact ⟨_, rfl, 2, rfl, va, _, rfl, hq, fun p1 H1 s1 hp1 => ⟨.ref p1, (f, as), rfl, dc s1 hp1, g.2, fun H2 s2 => ⟨_, _, rfl, rfl, by rw [len_add, l3, e24]; omega, k H2 (s1.trans s2)⟩⟩⟩
    case ret e =>
      have g : GE e := g
      have le := expr_len g
      obtain ⟨y, rfl, h1⟩ := DpAll.one hd
      refine ⟨_, rfl, va, _, _, _, rfl, rfl, hq, rfl, rfl, _, rfl, iteE (by decide +kernel) ?_⟩
      refine ⟨_, rfl, va, _, _, _, rfl, rfl, hq, rfl, rfl, _, rfl, iteE (by decide +kernel) ?_⟩
      refine ⟨_, rfl, va, _, _, _, rfl, rfl, hq, rfl, rfl, _, rfl, iteE (by decide +kernel) ?_⟩
      refine ⟨_, rfl, va, _, _, _, rfl, rfl, hq, rfl, rfl, _, rfl, iteS rfl ?_⟩
      exact ⟨_, rfl, va, _, _, _, rfl, rfl, hq, rfl, y, e, rfl, h1, g, fun H' s' => ⟨_, _, rfl, rfl, by rw [l7, e24]; omega, k H' s'⟩⟩
    case raise x =>
      have lt := (show GN x from g).2
      obtain ⟨y, rfl, h1⟩ := DpAll.one hd
      rw [h1.strInv] at hq
      refine ⟨_, rfl, va, _, _, _, rfl, rfl, hq, rfl, rfl, _, rfl, iteE (by decide +kernel) ?_⟩
      refine ⟨_, rfl, va, _, _, _, rfl, rfl, hq, rfl, rfl, _, rfl, iteE (by decide +kernel) ?_⟩
      refine ⟨_, rfl, va, _, _, _, rfl, rfl, hq, rfl, rfl, _, rfl, iteE (by decide +kernel) ?_⟩
      refine ⟨_, rfl, va, _, _, _, rfl, rfl, hq, rfl, rfl, _, rfl, iteE (by decide +kernel) ?_⟩
      refine ⟨_, rfl, va, _, _, _, rfl, rfl, hq, rfl, rfl, _, rfl, iteS rfl ?_⟩
      exact ⟨_, rfl, va, _, _, _, rfl, rfl, hq, rfl, _, _, rfl, rfl, by rw [l6, e24]; omega, k H (Same.refl _)⟩
    case risk ks =>
      have g : ks ≠ [] ∧ GNs ks := g
      have ls := nms_sum g.2
      have ll := nms_len g.2
      obtain ⟨x, rfl, h1⟩ := DpAll.one hd
      obtain ⟨b, rfl, hb⟩ := nm_inv h1
      refine ⟨_, rfl, va, _, _, _, rfl, rfl, hq, rfl, rfl, _, rfl, iteE (by decide +kernel) ?_⟩
      refine ⟨_, rfl, va, _, _, _, rfl, rfl, hq, rfl, rfl, _, rfl, iteE (by decide +kernel) ?_⟩
      refine ⟨_, rfl, va, _, _, _, rfl, rfl, hq, rfl, rfl, _, rfl, iteE (by decide +kernel) ?_⟩
      refine ⟨_, rfl, va, _, _, _, rfl, rfl, hq, rfl, rfl, _, rfl, iteE (by decide +kernel) ?_⟩
      refine ⟨_, rfl, va, _, _, _, rfl, rfl, hq, rfl, rfl, _, rfl, iteE (by decide +kernel) ?_⟩
      refine ⟨⟨_, rfl⟩, _, rfl, va, _, _, _, rfl, rfl, hq, rfl, _, b, ks, rfl, rfl, .inr hb, by omega, _, _, rfl, rfl, by show _ + (nmsS ks).length ≤ _; rw [l5, e24]; omega, k H (Same.refl _)⟩
    case ite a b => simp [headsS] at h0
    case whl b => simp [headsS] at h0
    case try_ b hs f => simp [headsS] at h0
    case undo ns b => simp [headsS] at h0
    case with_ e l ks b => simp [headsS] at h0
end

/-! ### k03: _law_heads -/
theorem shaped_nm {ns : List Str} (h : ∀ x ∈ ns, GN x) : SeqAt.shaped (nmD ns) = true := by
  have l1 : PyData.canLayAll0 (ns.map PyData.str) = true := by
    induction ns with
    | nil => simp [PyData.canLayAll0]
    | cons x r ih =>
      simp only [List.map_cons, PyData.canLayAll0, PyData.canLay0, strOk_name (h x List.mem_cons_self).1, Bool.true_and]
      exact ih fun p hp => h p (List.mem_cons_of_mem _ hp)
  have d1 : PyData.depthAll (ns.map PyData.str) ≤ 1 := by
    clear l1 h
    induction ns with
    | nil => simp [PyData.depthAll]
    | cons x r ih => simp only [List.map_cons, PyData.depthAll, PyData.depth]; omega
  unfold SeqAt.shaped nmD
  simp only [PyData.canLay0, PyData.depth, l1, Bool.true_and]
  exact decide_eq_true (by omega)
def lhS : St → List Str
  | .ite _ _ => ["if", "else"]
  | .try_ _ hs _ => "try" :: (hs.map (fun h => "except " ++ nmsS h.ks) ++ [("finally" : Str)])
  | .undo ns _ => ["undo " ++ nmsS ns]
  | .with_ e l ks _ => [("with " ++ callS e ++ ", " ++ callS l) ++ (if ks.isEmpty = true then Str.empty else " swallow " ++ nmsS ks)]
  | _ => ["while"]
def spLHd (K : PySem.W.Frag) : Sp := fun vs H Q _ => ∃ (v : V) (s : St), vs = [v] ∧ Dp K H v (stD s) ∧ gS s ∧ ∀ (q : Addr) (H' : Hp), Same H H' → H q = none → H' q = some (.lst ((lhS s).map V.str)) → Q (.ref q) H'
section
variable {P : Program} {w : World} {K : PySem.W.Frag} {mg : Str → Option Value} {base : Heap}
theorem ok_LHd {f : Addr} {fd : FuncData} (F : Fun K "_law_heads" "_law_heads" sLHd f fd) (GC' : Has P w K mg base CX0 2 "_law_call_text" PLCt (spLCt K)) : FnOk P w K mg base CX0 3 f fd PLHd (spLHd K) := by
  refine F.ok scLHd (fun vs H Q E h => ?_) (fun cdv A outer s H vs Q E hr h => ?_)
  · obtain ⟨v, st, rfl, _⟩ := h
    rfl
  · obtain ⟨v, st, rfl, hv, g, k⟩ := h
    refine ⟨_, (pss_cons (ps_if (pt_cmpR op_eq (pe_ix (r := rIxT K) ix_tup (pv 0) pe_int (fun _ _ => rfl)) pe_str (nomark _))
  (pss_one (ps_ret (pe_lst (pa_cons pe_str (pa_cons pe_str pa_nil)))))
  pss_nil)
  (pss_cons (ps_if (pt_cmpR op_eq (pe_ix (r := rIxT K) ix_tup (pv 0) pe_int (fun _ _ => rfl)) pe_str (nomark _))
  (pss_one (ps_ret (pe_op op_cat (pe_op op_cat (pe_lst (pa_cons pe_str pa_nil)) (pe_lc (own := [("_law_handler", 1)]) (g := gName 1) (tt := tYes) rfl scLHd.nd (pi_tup (pe_ix (r := rIxT K) ix_tup (pv 0) pe_int (fun _ _ => rfl))) (blkOk_by (own := [("_law_handler", 1)]) (N := NLHd) (sc := (defScope sLHd)) (by decide +kernel)) (fun _ _ _ _ _ => (pg_name (i := 1) scLHd.nd rfl (Or.inl rfl))) (fun _ _ _ _ _ => pts_nil) (fun _ _ _ _ _ => (pe_op op_add_str pe_str (pe_joinK (K := K) rfl pe_str (pe_ix (r := rIxT K) ix_tup (pv 1) pe_int (fun _ _ => rfl))))))) (pe_lst (pa_cons pe_str pa_nil)))))
  pss_nil)
  (pss_cons (ps_if (pt_cmpR op_eq (pe_ix (r := rIxT K) ix_tup (pv 0) pe_int (fun _ _ => rfl)) pe_str (nomark _))
  (pss_one (ps_ret (pe_lst (pa_cons (pe_op op_add_str pe_str (pe_join pe_str (pe_ix (r := rIxT K) ix_tup (pv 0) pe_int (fun _ _ => rfl)))) pa_nil))))
  pss_nil)
  (pss_cons (ps_if (pt_cmpR op_eq (pe_ix (r := rIxT K) ix_tup (pv 0) pe_int (fun _ _ => rfl)) pe_str (nomark _))
  (pss_cons (ps_set (i := 2) scLHd.nd rfl (Or.inl rfl) (pe_op op_add_str (pe_op op_add_str (pe_op op_add_str pe_str (pe_callH GC' hr rfl pass0 (pa_cons (pe_ix (r := rIxT K) ix_tup (pv 0) pe_int (fun _ _ => rfl)) pa_nil))) pe_str) (pe_callH GC' hr rfl pass0 (pa_cons (pe_ix (r := rIxT K) ix_tup (pv 0) pe_int (fun _ _ => rfl)) pa_nil))))
  (pss_one (ps_ret (pe_lst (pa_cons (pe_op op_add_str (pv 2) (pe_ifExp (pt_cmpR (op_neD hr.units) (pe_ix (r := rIxT K) ix_tup (pv 0) pe_int (fun _ _ => rfl)) (pe_tup pa_nil) (nomark _)) (pe_op op_add_str pe_str (pe_join pe_str (pe_ix (r := rIxT K) ix_tup (pv 0) pe_int (fun _ _ => rfl)))) pe_str)) pa_nil)))))
  pss_nil)
  (pss_one (ps_ret (pe_lst (pa_cons pe_str pa_nil)))))))), ?_⟩
    have e24 : sizeLine = 2 ^ 24 := rfl
    have l5 : ("with " : Str).length = 5 := by decide +kernel
    have l6 : ("undo " : Str).length = 5 := by decide +kernel
    have l7 : ("except " : Str).length = 7 := by decide +kernel
    have l9 : (" swallow " : Str).length = 9 := by decide +kernel
    have le0 : ("" : Str).length = 0 := by decide +kernel
    obtain ⟨va, xs, rfl, hq, hd⟩ := stInv hv
    cases st <;> simp only [wordS] at hq
    case ite a b =>
      obtain ⟨x, y, rfl, h1, h2⟩ := DpAll.two hd
      refine ⟨_, rfl, va, _, _, _, rfl, rfl, hq, rfl, rfl, _, rfl, iteS rfl ?_⟩
      exact ⟨(by show 2 ≤ sizeLine; decide), fun q hq' => k q _ (same_new hq') hq' upd_same⟩
    case try_ p hs q =>
      have g : hs.length ≤ 2 ∧ gL p ∧ gHs hs ∧ gL q := g
      obtain ⟨x, y, z, rfl, h1, h2, h3⟩ := DpAll.three hd
      obtain ⟨b, ys, rfl, hb, hbd⟩ := h2.tupInv
      rw [hdsD_map] at hbd
      have px := DpAll.map (f := hdD) hbd
      have lx : ys.length = hs.length := Paired.length px
      refine ⟨_, rfl, va, _, _, _, rfl, rfl, hq, rfl, rfl, _, rfl, iteE (by decide +kernel) ?_⟩
      refine ⟨_, rfl, va, _, _, _, rfl, rfl, hq, rfl, rfl, _, rfl, iteS rfl ?_⟩
      refine ⟨(by show 1 ≤ sizeLine; decide), fun L1 hL1 => ?_⟩
      have s1 := same_new (o := .lst [V.str "try"]) hL1
      refine ⟨_, rfl, va, _, _, _, rfl, rfl, SqT.same s1 hq, rfl, b, rfl, ⟨_, SqT.same s1 hb⟩, fun D hD => ?_⟩
      refine lc_map (walk_tup (K := K) (a := b) (xs := ys)) (fun i => V.str ((hs.map fun h => "except " ++ nmsS h.ks).getD i "")) hD (by omega) (fun H' s' => SqT.same (s1.trans s') hb) ?_ ?_
      · rintro i v H3 H4 k1 hi s3 ⟨rfl, hv⟩ kk
        obtain ⟨h, hh, dh⟩ := Paired.at px hv
        have gh := hd_g (gHs_mem g.2.2.1 (List.mem_of_getElem? hh))
        have lsn := nms_sum gh.1.2
        have lln := nms_len gh.1.2
        have dh : Dp K H v (.tuple [nmD h.ks, blD h.b]) := by
          have : hdD h = .tuple [nmD h.ks, blD h.b] := by cases h; rfl
          rw [← this]
          exact dh
        obtain ⟨c1, w1, rfl, hc1, hd1⟩ := dh.tupInv
        obtain ⟨m1, m2, rfl, dm1, dm2⟩ := hd1.two
        obtain ⟨b2, rfl, hb2⟩ := nm_inv dm1
        have s13 := s1.trans s3
        have e : (hs.map fun h => "except " ++ nmsS h.ks).getD i "" = "except " ++ nmsS h.ks := by
          rw [List.getD_eq_getElem?_getD, List.getElem?_map, hh]
          rfl
        rw [e] at kk
        exact ⟨rfl, ⟨_, rfl⟩, _, rfl, c1, _, _, _, rfl, rfl, SqT.same s13 hc1, rfl, _, b2, h.ks, rfl, rfl, .inr (SqT.same s13 hb2), by omega, _, _, rfl, rfl, by show _ + (nmsS h.ks).length ≤ _; rw [l7, e24]; omega, kk _ (Same.refl _)⟩
      · intro H3 s3 eD
        have eD : H3 D = some (.lst ((hs.map fun h => "except " ++ nmsS h.ks).map V.str)) := by
          rw [eD, lx]
          congr 2
          rw [range_map hs (fun h => V.str ("except " ++ nmsS h.ks)) _ fun i x hx => by
            show V.str ((hs.map _).getD i "") = _
            rw [List.getD_eq_getElem?_getD, List.getElem?_map, hx]
            rfl, List.map_map]
          rfl
        refine ⟨L1, D, _, _, rfl, rfl, s3 _ _ upd_same, eD, by rw [List.length_map, List.length_map, e24]; show 1 + hs.length ≤ _; omega, fun M hM => ⟨(by show 1 ≤ sizeLine; decide), fun u hu => ?_⟩⟩
        have s4 := same_new (o := .lst ([V.str "try"] ++ (hs.map fun h => "except " ++ nmsS h.ks).map V.str)) hM
        have s5 := same_new (o := .lst [V.str "finally"]) hu
        refine ⟨M, u, _, _, rfl, rfl, s5 _ _ upd_same, upd_same, by rw [List.length_append, List.length_map, List.length_map, e24]; show 1 + hs.length + 1 ≤ _; omega, fun R hR => ?_⟩
        have s6 := same_new (o := .lst (([V.str "try"] ++ (hs.map fun h => "except " ++ nmsS h.ks).map V.str) ++ [V.str "finally"])) hR
        have s15 := ((s1.trans s3).trans s4).trans s5
        refine k R _ (s15.trans s6) (none_same s15 hR) ?_
        rw [upd_same]
        show _ = some (HO.lst ((("try" : Str) :: (hs.map (fun h => "except " ++ nmsS h.ks) ++ [("finally" : Str)])).map V.str))
        rw [List.map_cons, List.map_append]
        rfl
    case undo ns p =>
      have g : (ns ≠ [] ∧ GNs ns) ∧ gL p := g
      have ls := nms_sum g.1.2
      have ll := nms_len g.1.2
      obtain ⟨y, x, rfl, h0, h1⟩ := DpAll.two hd
      obtain ⟨b, rfl, hb⟩ := nm_inv h0
      refine ⟨_, rfl, va, _, _, _, rfl, rfl, hq, rfl, rfl, _, rfl, iteE (by decide +kernel) ?_⟩
      refine ⟨_, rfl, va, _, _, _, rfl, rfl, hq, rfl, rfl, _, rfl, iteE (by decide +kernel) ?_⟩
      refine ⟨_, rfl, va, _, _, _, rfl, rfl, hq, rfl, rfl, _, rfl, iteS rfl ?_⟩
      exact ⟨⟨_, rfl⟩, _, rfl, va, _, _, _, rfl, rfl, hq, rfl, _, b, ns, rfl, rfl, .inr hb, by omega, _, _, rfl, rfl, by show _ + (nmsS ns).length ≤ _; rw [l6, e24]; omega, (by show 1 ≤ sizeLine; decide), fun q hq' => k q _ (same_new hq') hq' upd_same⟩
    case with_ e l ks p =>
      have g : GC e ∧ GC l ∧ GNs ks ∧ gL p := g
      have ls := nms_sum g.2.2.1
      have ll := nms_len g.2.2.1
      have le := call_len g.1
      have lf := call_len g.2.1
      have lsep := sep2
      obtain ⟨u1, u2, u3, x, rfl, d1, d2, d3, h1⟩ := DpAll.four hd
      obtain ⟨b, rfl, hb⟩ := nm_inv d3
      refine ⟨_, rfl, va, _, _, _, rfl, rfl, hq, rfl, rfl, _, rfl, iteE (by decide +kernel) ?_⟩
      refine ⟨_, rfl, va, _, _, _, rfl, rfl, hq, rfl, rfl, _, rfl, iteE (by decide +kernel) ?_⟩
      refine ⟨_, rfl, va, _, _, _, rfl, rfl, hq, rfl, rfl, _, rfl, iteE (by decide +kernel) ?_⟩
      refine ⟨_, rfl, va, _, _, _, rfl, rfl, hq, rfl, rfl, _, rfl, iteS rfl ?_⟩
      refine ⟨_, rfl, va, _, _, _, rfl, rfl, hq, rfl, u1, e, rfl, d1, g.1, fun H1 s1 => ⟨_, _, rfl, rfl, by rw [l5, e24]; omega, _, _, rfl, rfl, by rw [len_add, l5, lsep, e24]; omega, ?_⟩⟩
      refine ⟨_, rfl, va, _, _, _, rfl, rfl, SqT.same s1 hq, rfl, u2, l, rfl, d2.same s1, g.2.1, fun H2 s2 => ⟨_, _, rfl, rfl, by simp only [len_add, l5, lsep, e24]; omega, ?_⟩⟩
      have s12 := s1.trans s2
      have hq2 := SqT.same s12 hq
      have hb2 := SqT.same s12 hb
      refine ⟨_, rfl, _, rfl, va, _, _, _, rfl, rfl, hq2, rfl, (by show 0 ≤ sizeLine; decide), fun t0 ht0 => ?_⟩
      have s0 := same_new (o := .tup []) ht0
      have s03 := s12.trans s0
      have dks : Dp K (upd H2 t0 (.tup [])) (.ref b) (nmD ks) := (.tup (SqT.same s0 hb2) (dpAll_strs ks))
      have eqv0 : PyData.eqv (nmD ks) (.tuple []) = ks.isEmpty := by
        cases ks with
        | nil => rfl
        | cons x r => simp [nmD, PyData.eqv, PyData.eqvAll]
      refine ⟨nmD ks, .tuple [], dks, .tup (SqT.of upd_same) .nil, shaped_nm g.2.2.1.2, by decide +kernel, _, rfl, ?_⟩
      rw [eqv0]
      by_cases hE : ks.isEmpty = true
      · refine iteE (by rw [hE]; rfl) ⟨_, _, rfl, rfl, by simp only [len_add, l5, lsep, le0, e24]; omega, ?_⟩
        refine ⟨(by show 1 ≤ sizeLine; decide), fun q hq' => k q _ (s03.trans (same_new hq')) (none_same s03 hq') ?_⟩
        rw [upd_same]
        show _ = some (HO.lst [V.str (("with " ++ callS e ++ ", " ++ callS l) ++ (if ks.isEmpty = true then Str.empty else " swallow " ++ nmsS ks))])
        rw [if_pos hE, str_emp]
      · refine iteS (by rw [Bool.eq_false_iff.mpr hE]; rfl) ?_
        refine ⟨⟨_, rfl⟩, _, rfl, va, _, _, _, rfl, rfl, SqT.same s0 hq2, rfl, _, b, ks, rfl, rfl, .inr (SqT.same s0 hb2), by omega, _, _, rfl, rfl, by show _ + (nmsS ks).length ≤ _; rw [l9, e24]; omega, _, _, rfl, rfl, by show _ + (" swallow " ++ nmsS ks).length ≤ _; simp only [len_add, l5, l9, lsep, e24]; omega, ?_⟩
        refine ⟨(by show 1 ≤ sizeLine; decide), fun q hq' => k q _ (s03.trans (same_new hq')) (none_same s03 hq') ?_⟩
        rw [upd_same]
        show _ = some (HO.lst [V.str (("with " ++ callS e ++ ", " ++ callS l) ++ (if ks.isEmpty = true then Str.empty else " swallow " ++ nmsS ks))])
        rw [if_neg hE]
        rfl
    case whl p =>
      obtain ⟨x, rfl, h1⟩ := DpAll.one hd
      refine ⟨_, rfl, va, _, _, _, rfl, rfl, hq, rfl, rfl, _, rfl, iteE (by decide +kernel) ?_⟩
      refine ⟨_, rfl, va, _, _, _, rfl, rfl, hq, rfl, rfl, _, rfl, iteE (by decide +kernel) ?_⟩
      refine ⟨_, rfl, va, _, _, _, rfl, rfl, hq, rfl, rfl, _, rfl, iteE (by decide +kernel) ?_⟩
      refine ⟨_, rfl, va, _, _, _, rfl, rfl, hq, rfl, rfl, _, rfl, iteE (by decide +kernel) ?_⟩
      exact ⟨(by show 1 ≤ sizeLine; decide), fun q hq' => k q _ (same_new hq') hq' upd_same⟩
    all_goals
      first
        | obtain ⟨_, rfl, _⟩ := DpAll.one hd
        | obtain ⟨_, _, rfl, _, _⟩ := DpAll.two hd
        | obtain ⟨_, _, _, rfl, _⟩ := DpAll.three hd
      refine ⟨_, rfl, va, _, _, _, rfl, rfl, hq, rfl, rfl, _, rfl, iteE (by decide +kernel) ?_⟩
      refine ⟨_, rfl, va, _, _, _, rfl, rfl, hq, rfl, rfl, _, rfl, iteE (by decide +kernel) ?_⟩
      refine ⟨_, rfl, va, _, _, _, rfl, rfl, hq, rfl, rfl, _, rfl, iteE (by decide +kernel) ?_⟩
      refine ⟨_, rfl, va, _, _, _, rfl, rfl, hq, rfl, rfl, _, rfl, iteE (by decide +kernel) ?_⟩
      exact ⟨(by show 1 ≤ sizeLine; decide), fun q hq' => k q _ (same_new hq') hq' upd_same⟩
end

/-! ### tuple == tuple, whose items are flat or instances with an own __eq__: both answers -/
section
open PySem.SeqAt MeetsSeq MeetsSeq2 MeetsSeq3 SeqRoads2
variable {prog : Program} {w : World} {A : Around} {R : Result → Shared → Prop}
theorem tuple_eqB (l b : Addr) (items items2 : Array Value) (n n2 : Nat) (dd dd2 : Option Addr) (sl sl2 : Array (Option Value)) (I : Nat → Shared → Prop)
    (turn : ∀ i (h1 : i < items.size) (h2 : i < items2.size) s, I i s → wpAny (model prog w) A.in1 (eqBool items[i] items2[i]) (fun r s' => (r = true ∧ I (i + 1) s') ∨ (r = false ∧ R (.ok (.ret (.bool false))) s')) (fun e s' => R (.error e) s') s)
    (fin : ∀ s, I (min items.size items2.size) s → R (.ok (.ret (.bool (items.size == items2.size)))) s) {s : Shared} (hl1 : s.heap.get? l = some { cls := .type "tuple", dict := dd, data := .seq items n, slots := sl }) (hb1 : s.heap.get? b = some { cls := .type "tuple", dict := dd2, data := .seq items2 n2, slots := sl2 }) (h : I 0 s) :
    wpAny (model prog w) A.in1 (Builtin.«tuple.__eq__» ⟨[.ref l, .ref b], []⟩) (GQ.FinOf prog w A R) (fun e s' => R (.error e) s') s := by
  have f2 := AutoSeq1.sub_tuple_tuple
  have hZ : (items.toList.zip items2.toList).length = min items.size items2.size := by simp
  have h0 := h
  obtain ⟨hp, g, d, tk, os⟩ := s
  wp_walk using AutoSeq1.wpAny_loadPart' hl1, AutoSeq1.wpAny_loadPart' hb1, wpAny_forIn_list _ (fun rest b s' => b.1 = none ∧ ∃ i, rest = (items.toList.zip items2.toList).drop i ∧ i ≤ min items.size items2.size ∧ I i s') _
  case turn =>
    rintro ⟨y, x⟩ rest b s' ⟨hb', i, hz, hi, hI⟩
    have hlt : i < (items.toList.zip items2.toList).length := by
      rcases Nat.lt_or_ge i (items.toList.zip items2.toList).length with h' | h'
      · exact h'
      · rw [List.drop_of_length_le h'] at hz; cases hz
    have h12 : i < min items.size items2.size := hZ ▸ hlt
    have h1 : i < items.size := by omega
    have h2 : i < items2.size := by omega
    rw [List.drop_eq_getElem_cons hlt] at hz
    injection hz with hyx hrest
    have hy : y = items[i] := by have := congrArg Prod.fst hyx; simpa using this
    have hx : x = items2[i] := by have := congrArg Prod.snd hyx; simpa using this
    subst hy hx
    refine wpAny_bind (wpAny_mono (turn i h1 h2 s' hI) (fun r s2 q2 => ?_) fun _ _ x => x)
    rcases q2 with ⟨hr, q2⟩ | ⟨hr, q2⟩
    · subst hr
      wp_walk
      exact ⟨rfl, i + 1, hrest, by omega, q2⟩
    · subst hr
      wp_walk
      exact q2
  case fin =>
    rintro ⟨b1, b2⟩ s' ⟨hb', i, hz, hi, hI⟩
    simp only at hb'
    subst hb'
    have hge : min items.size items2.size ≤ i := by
      rcases Nat.lt_or_ge i (items.toList.zip items2.toList).length with h' | h'
      · rw [List.drop_eq_getElem_cons h'] at hz; cases hz
      · exact hZ ▸ h'
    have hi' : i = min items.size items2.size := by omega
    have hR := fin s' (hi' ▸ hI)
    wp_walk
    exact hR
  case h =>
    exact ⟨rfl, 0, rfl, Nat.zero_le _, h0⟩
theorem rc_tupB {E : Value → Shared → Prop} {s : Shared} {l b : Addr} {items items2 : Array Value} {Q : Value → Shared → Prop} (hu : A.units < cLine) (I : Nat → Shared → Prop) (hl : s.heap.IsTuple l items) (hb : s.heap.IsTuple b items2)
    (turn : ∀ i (h1 : i < items.size) (h2 : i < items2.size) s, I i s → wpAny (model prog w) A.in1 (eqBool items[i] items2[i]) (fun r s' => (r = true ∧ I (i + 1) s') ∨ (r = false ∧ Q (.bool false) s')) E s)
    (fin : ∀ s, I (min items.size items2.size) s → Q (.bool (items.size == items2.size)) s) (h : I 0 s) : wpAny (model prog w) A (richCompare .Eq (.ref l) (.ref b)) Q E s := by
  obtain ⟨⟨cls, dd, data, sl⟩, ho, hc, n, hd⟩ := id hl
  obtain ⟨⟨cls2, dd2, data2, sl2⟩, ho2, hc2, n2, hd2⟩ := id hb
  simp only at hc hd hc2 hd2
  subst hc hd hc2 hd2
  refine wpAny_richCompare_same_room (op := .Eq) ⟨_, ho, rfl⟩ ⟨_, ho2, rfl⟩ F.slot_tuple_eq (GQ.call_here F.slot_tuple_eq ⟨_, ho, rfl⟩ F.entry_tuple_eq (F.args_tuple_eq_2 _ _) ?_) hu
  refine tuple_eqB (R := wants (fun v s' => v ≠ .notImplemented ∧ Q v s') E) l b items items2 n n2 dd dd2 sl sl2 I (fun i h1 h2 s' hI => wpAny_mono (turn i h1 h2 s' hI) (fun r s2 q => ?_) fun _ _ z => z) (fun s' q => ⟨(fun x => nomatch x), fin s' q⟩) ho ho2 h
  rcases q with q | ⟨q1, q2⟩
  · exact .inl q
  · exact .inr ⟨q1, ⟨(fun x => nomatch x), q2⟩⟩
end

/-! ### tuple == (): the items are not looked at -/
def rEqE (K : PySem.W.Frag) : V → V → Hp → VK → Prop := fun x y H Q => ∃ ta tb xs, x = .ref ta ∧ y = .ref tb ∧ SqT K H ta xs ∧ SqT K H tb [] ∧ Q (.bl xs.isEmpty) H
section
variable {X : Cx}
theorem op_eqE (hu : X.A.units < cLine) : OpR X (compareOp .Eq) (rEqE X.K) := by
  intro pins s σ H x y v u Q I rx ry h
  obtain ⟨ta, tb, xs, rfl, rfl, e1, e2, q⟩ := h
  obtain rfl : v = Value.ref ta := rx
  obtain rfl : u = Value.ref tb := ry
  obtain ⟨its, r1, t1, _⟩ := I.tuple e1
  obtain ⟨its2, r2, t2, _⟩ := I.tuple e2
  show wpAny (model X.prog X.w) X.A (richCompare .Eq (.ref ta) (.ref tb)) _ _ _
  have l1 : its.length = xs.length := r1.length.symm
  have l2 : its2.length = 0 := r2.length.symm
  refine rc_tupB hu (fun i s' => s' = s) t1 t2 (fun i h1 h2 s' hI => ?_) (fun s' hI => ?_) rfl
  · exact absurd h2 (by simp [l2])
  · subst hI
    refine ⟨_, H, I, ?_, q⟩
    have e : (its.toArray.size == its2.toArray.size) = xs.isEmpty := by
      rw [List.size_toArray, List.size_toArray, l1, l2]
      cases xs <;> rfl
    rw [e]
    rfl
end

/-! ### tuple != tuple, told by the items' eqBool -/
section
open PySem.SeqAt MeetsSeq MeetsSeq2 MeetsSeq3 SeqRoads2
variable {prog : Program} {w : World} {A : Around} {R : Result → Shared → Prop}
theorem tuple_neB (l b : Addr) (items items2 : Array Value) (n n2 : Nat) (dd dd2 : Option Addr) (sl sl2 : Array (Option Value)) (I : Nat → Shared → Prop)
    (turn : ∀ i (h1 : i < items.size) (h2 : i < items2.size) s, I i s → wpAny (model prog w) A.in1 (eqBool items[i] items2[i]) (fun r s' => (r = true ∧ I (i + 1) s') ∨ (r = false ∧ R (.ok (.ret (.bool true))) s')) (fun e s' => R (.error e) s') s)
    (fin : ∀ s, I (min items.size items2.size) s → R (.ok (.ret (.bool (items.size != items2.size)))) s) {s : Shared} (hl1 : s.heap.get? l = some { cls := .type "tuple", dict := dd, data := .seq items n, slots := sl }) (hb1 : s.heap.get? b = some { cls := .type "tuple", dict := dd2, data := .seq items2 n2, slots := sl2 }) (h : I 0 s) :
    wpAny (model prog w) A.in1 (Builtin.«tuple.__ne__» ⟨[.ref l, .ref b], []⟩) (GQ.FinOf prog w A R) (fun e s' => R (.error e) s') s := by
  have f2 := AutoSeq1.sub_tuple_tuple
  have hZ : (items.toList.zip items2.toList).length = min items.size items2.size := by simp
  have h0 := h
  obtain ⟨hp, g, d, tk, os⟩ := s
  wp_walk using AutoSeq1.wpAny_loadPart' hl1, AutoSeq1.wpAny_loadPart' hb1, wpAny_forIn_list _ (fun rest b s' => b.1 = none ∧ ∃ i, rest = (items.toList.zip items2.toList).drop i ∧ i ≤ min items.size items2.size ∧ I i s') _
  case turn =>
    rintro ⟨y, x⟩ rest b s' ⟨hb', i, hz, hi, hI⟩
    have hlt : i < (items.toList.zip items2.toList).length := by
      rcases Nat.lt_or_ge i (items.toList.zip items2.toList).length with h' | h'
      · exact h'
      · rw [List.drop_of_length_le h'] at hz; cases hz
    have h12 : i < min items.size items2.size := hZ ▸ hlt
    have h1 : i < items.size := by omega
    have h2 : i < items2.size := by omega
    rw [List.drop_eq_getElem_cons hlt] at hz
    injection hz with hyx hrest
    have hy : y = items[i] := by have := congrArg Prod.fst hyx; simpa using this
    have hx : x = items2[i] := by have := congrArg Prod.snd hyx; simpa using this
    subst hy hx
    refine wpAny_bind (wpAny_mono (turn i h1 h2 s' hI) (fun r s2 q2 => ?_) fun _ _ x => x)
    rcases q2 with ⟨hr, q2⟩ | ⟨hr, q2⟩
    · subst hr
      wp_walk
      exact ⟨rfl, i + 1, hrest, by omega, q2⟩
    · subst hr
      wp_walk
      exact q2
  case fin =>
    rintro ⟨b1, b2⟩ s' ⟨hb', i, hz, hi, hI⟩
    simp only at hb'
    subst hb'
    have hge : min items.size items2.size ≤ i := by
      rcases Nat.lt_or_ge i (items.toList.zip items2.toList).length with h' | h'
      · rw [List.drop_eq_getElem_cons h'] at hz; cases hz
      · exact hZ ▸ h'
    have hi' : i = min items.size items2.size := by omega
    have hR := fin s' (hi' ▸ hI)
    wp_walk
    exact hR
  case h =>
    exact ⟨rfl, 0, rfl, Nat.zero_le _, h0⟩
theorem rc_tupN {E : Value → Shared → Prop} {s : Shared} {l b : Addr} {items items2 : Array Value} {Q : Value → Shared → Prop} (hu : A.units < cLine) (I : Nat → Shared → Prop) (hl : s.heap.IsTuple l items) (hb : s.heap.IsTuple b items2)
    (turn : ∀ i (h1 : i < items.size) (h2 : i < items2.size) s, I i s → wpAny (model prog w) A.in1 (eqBool items[i] items2[i]) (fun r s' => (r = true ∧ I (i + 1) s') ∨ (r = false ∧ Q (.bool true) s')) E s)
    (fin : ∀ s, I (min items.size items2.size) s → Q (.bool (items.size != items2.size)) s) (h : I 0 s) : wpAny (model prog w) A (richCompare .NotEq (.ref l) (.ref b)) Q E s := by
  obtain ⟨⟨cls, dd, data, sl⟩, ho, hc, n, hd⟩ := id hl
  obtain ⟨⟨cls2, dd2, data2, sl2⟩, ho2, hc2, n2, hd2⟩ := id hb
  simp only at hc hd hc2 hd2
  subst hc hd hc2 hd2
  refine wpAny_richCompare_same_room (op := .NotEq) ⟨_, ho, rfl⟩ ⟨_, ho2, rfl⟩ F.slot_tuple_ne (GQ.call_here F.slot_tuple_ne ⟨_, ho, rfl⟩ F.entry_tuple_ne (F.args_tuple_ne_2 _ _) ?_) hu
  refine tuple_neB (R := wants (fun v s' => v ≠ .notImplemented ∧ Q v s') E) l b items items2 n n2 dd dd2 sl sl2 I (fun i h1 h2 s' hI => wpAny_mono (turn i h1 h2 s' hI) (fun r s2 q => ?_) fun _ _ z => z) (fun s' q => ⟨(fun x => nomatch x), fin s' q⟩) ho ho2 h
  rcases q with q | ⟨q1, q2⟩
  · exact .inl q
  · exact .inr ⟨q1, ⟨(fun x => nomatch x), q2⟩⟩
end

/-! ### tuple != (): the items are not looked at -/
def rNeE (K : PySem.W.Frag) : V → V → Hp → VK → Prop := fun x y H Q => ∃ ta tb xs, x = .ref ta ∧ y = .ref tb ∧ SqT K H ta xs ∧ SqT K H tb [] ∧ Q (.bl (!xs.isEmpty)) H
section
variable {X : Cx}
theorem op_neE (hu : X.A.units < cLine) : OpR X (compareOp .NotEq) (rNeE X.K) := by
  intro pins s σ H x y v u Q I rx ry h
  obtain ⟨ta, tb, xs, rfl, rfl, e1, e2, q⟩ := h
  obtain rfl : v = Value.ref ta := rx
  obtain rfl : u = Value.ref tb := ry
  obtain ⟨its, r1, t1, _⟩ := I.tuple e1
  obtain ⟨its2, r2, t2, _⟩ := I.tuple e2
  show wpAny (model X.prog X.w) X.A (richCompare .NotEq (.ref ta) (.ref tb)) _ _ _
  have l1 : its.length = xs.length := r1.length.symm
  have l2 : its2.length = 0 := r2.length.symm
  refine rc_tupN hu (fun i s' => s' = s) t1 t2 (fun i h1 h2 s' hI => ?_) (fun s' hI => ?_) rfl
  · exact absurd h2 (by simp [l2])
  · subst hI
    refine ⟨_, H, I, ?_, q⟩
    have e : (its.toArray.size != its2.toArray.size) = !xs.isEmpty := by
      rw [List.size_toArray, List.size_toArray, l1, l2]
      cases xs <;> rfl
    rw [e]
    rfl
end

/-! ### k03: _law_lines -/
abbrev sLLs : Stmt := topS 47
abbrev NLLs : List Str := ["_law_block_here", "_law_indent", "_law_lines_here", "_law_statement", "_law_parts_here", "_law_heads_here", "_law_k", "_law_is_left_out"]
abbrev PLLs : List Str := ["_law_block_here", "_law_indent"]
theorem scLLs : FnScope NLLs PLLs (defScope sLLs) := ⟨rfl, rfl, rfl, by decide +kernel, rfl, by decide +kernel, by decide +kernel⟩
abbrev ZP := Str × List St
def hsNE : St → Bool
  | .try_ _ hs _ => !hs.isEmpty
  | _ => false
/-- a part that is not written -/
def leftP (s : St) (p : ZP) : Bool := ((decide (p.1 = "finally") && hsNE s) || decide (p.1 = "else")) && p.2.isEmpty
def zipP (s : St) : List ZP := (lhS s).zip (parts s)
def asH (l : List ZP) : List HdS := l.map fun p => (p.1, [], p.2)
def keptH (s : St) (l : List ZP) : List HdS := asH (l.filter fun p => !leftP s p)
theorem lnHs_congr (f : List St → List Str) (ind : Str) : ∀ {l m : List HdS} {b : Bool}, l.map (fun h => (h.1, h.2.2)) = m.map (fun h => (h.1, h.2.2)) → lnHs f ind b l = lnHs f ind b m
  | [], [], _, _ => rfl
  | [], _ :: _, _, h => by cases h
  | _ :: _, [], _, h => by cases h
  | x :: l, y :: m, b, h => by
    rw [List.map_cons, List.map_cons] at h
    injection h with h1 h2
    injection h1 with h3 h4
    show hdL ind b x.1 :: (f x.2.2 ++ lnHs f ind true l) = hdL ind b y.1 :: (f y.2.2 ++ lnHs f ind true m)
    rw [h3, h4, lnHs_congr f ind h2]
theorem exc_ne (ks : List Str) : "except " ++ nmsS ks ≠ "finally" ∧ "except " ++ nmsS ks ≠ "else" := by
  have e : TL.tl ("except " ++ nmsS ks) = TL.tl "except " ++ TL.tl (nmsS ks) := TL.tl_append _ _
  have e1 : TL.tl ("except " : Str) = [101, 120, 99, 101, 112, 116, 32] := by decide +kernel
  have e2 : TL.tl ("finally" : Str) = [102, 105, 110, 97, 108, 108, 121] := by decide +kernel
  have e3 : TL.tl ("else" : Str) = [101, 108, 115, 101] := by decide +kernel
  rw [e1] at e
  refine ⟨fun z => ?_, fun z => ?_⟩
  · rw [z, e2] at e
    cases e
  · rw [z, e3] at e
    injection e with _ e
    injection e with e _
    exact absurd e (by decide)
theorem kw_ne : ("if" : Str) ≠ "finally" ∧ ("if" : Str) ≠ "else" ∧ ("else" : Str) ≠ "finally" ∧ ("try" : Str) ≠ "finally" ∧ ("try" : Str) ≠ "else" ∧ ("while" : Str) ≠ "finally" ∧ ("while" : Str) ≠ "else" ∧ ("finally" : Str) ≠ "else" := by decide +kernel
theorem und_ne (x : Str) : "undo " ++ x ≠ "finally" ∧ "undo " ++ x ≠ "else" ∧ ∀ y : Str, ("with " ++ x ++ y ≠ "finally" ∧ "with " ++ x ++ y ≠ "else") := by
  have e1 : TL.tl ("undo " : Str) = [117, 110, 100, 111, 32] := by decide +kernel
  have e4 : TL.tl ("with " : Str) = [119, 105, 116, 104, 32] := by decide +kernel
  have e2 : TL.tl ("finally" : Str) = [102, 105, 110, 97, 108, 108, 121] := by decide +kernel
  have e3 : TL.tl ("else" : Str) = [101, 108, 115, 101] := by decide +kernel
  refine ⟨fun z => ?_, fun z => ?_, fun y => ⟨fun z => ?_, fun z => ?_⟩⟩
  · have e := congrArg TL.tl z
    rw [TL.tl_append, e1, e2] at e
    cases e
  · have e := congrArg TL.tl z
    rw [TL.tl_append, e1, e3] at e
    cases e
  · have e := congrArg TL.tl z
    rw [TL.tl_append, TL.tl_append, e4, e2] at e
    cases e
  · have e := congrArg TL.tl z
    rw [TL.tl_append, TL.tl_append, e4, e3] at e
    cases e
theorem hd_app {a x : Str} {c : Nat} (h : (TL.tl a).head? = some c) : (TL.tl (a ++ x)).head? = some c := by
  rw [TL.tl_append]
  cases e : TL.tl a with
  | nil => rw [e] at h; cases h
  | cons d r => rw [e] at h; exact h
theorem hd_ne {a y : Str} {c : Nat} (h : (TL.tl a).head? = some c) (h2 : (TL.tl y).head? ≠ some c) : a ≠ y := fun z => h2 (by rw [← z]; exact h)
theorem left_no {s : St} {p : ZP} (h1 : p.1 ≠ "finally") (h2 : p.1 ≠ "else") : leftP s p = false := by
  unfold leftP
  rw [decide_eq_false h1, decide_eq_false h2]
  rfl
theorem zip_maps {α β γ : Type} (f : α → β) (g : α → γ) : ∀ l : List α, (l.map f).zip (l.map g) = l.map fun x => (f x, g x)
  | [] => rfl
  | x :: r => by rw [List.map_cons, List.map_cons, List.zip_cons_cons, zip_maps f g r]; rfl
/-- what is kept is what the program heads -/
theorem kept_all {s : St} (h : parts s ≠ []) : (keptH s (zipP s)).map (fun h => (h.1, h.2.2)) = (headsS s).map (fun h => (h.1, h.2.2)) ∧ (lhS s).length = (parts s).length ∧ ∀ p ∈ (zipP s)[0]?, leftP s p = false := by
  cases s with
  | ite a b =>
    have e : zipP (.ite a b) = [(("if", a) : ZP), (("else", b) : ZP)] := rfl
    have l1 : leftP (.ite a b) ("if", a) = false := left_no kw_ne.1 kw_ne.2.1
    have l2 : leftP (.ite a b) ("else", b) = b.isEmpty := by
      unfold leftP
      rw [decide_eq_true (rfl : (("else", b) : ZP).1 = "else"), Bool.or_true, Bool.true_and]
    refine ⟨?_, rfl, fun p hp => by rw [e] at hp; cases hp; exact l1⟩
    rw [e]
    unfold keptH asH
    rw [List.filter_cons, List.filter_cons, l1, l2]
    show _ = ((("if", [mk "if"], a) : HdS) :: (if b.isEmpty = true then [] else [(("else", [mk "else"], b) : HdS)])).map _
    cases b <;> rfl
  | whl b =>
    have e : zipP (.whl b) = [(("while", b) : ZP)] := rfl
    have l1 : leftP (.whl b) ("while", b) = false := left_no kw_ne.2.2.2.2.2.1 kw_ne.2.2.2.2.2.2.1
    refine ⟨?_, rfl, fun p hp => by rw [e] at hp; cases hp; exact l1⟩
    rw [e]
    unfold keptH asH
    rw [List.filter_cons, l1]
    rfl
  | undo ns b =>
    have e : zipP (.undo ns b) = [("undo " ++ nmsS ns, b)] := rfl
    have l1 : leftP (.undo ns b) ("undo " ++ nmsS ns, b) = false := left_no (und_ne _).1 (und_ne _).2.1
    refine ⟨?_, rfl, fun p hp => by rw [e] at hp; cases hp; exact l1⟩
    rw [e]
    unfold keptH asH
    rw [List.filter_cons, l1]
    rfl
  | with_ e l ks b =>
    have e0 : zipP (.with_ e l ks b) = [(((("with " ++ callS e ++ ", " ++ callS l) ++ (if ks.isEmpty = true then Str.empty else " swallow " ++ nmsS ks)), b) : ZP)] := rfl
    have hw : (TL.tl (("with " ++ callS e ++ ", " ++ callS l) ++ (if ks.isEmpty = true then Str.empty else " swallow " ++ nmsS ks))).head? = some 119 := hd_app (hd_app (hd_app (hd_app (by decide +kernel))))
    have l1 : leftP (.with_ e l ks b) ((("with " ++ callS e ++ ", " ++ callS l) ++ (if ks.isEmpty = true then Str.empty else " swallow " ++ nmsS ks)), b) = false := left_no (hd_ne hw (by decide +kernel)) (hd_ne hw (by decide +kernel))
    refine ⟨?_, rfl, fun p hp => by rw [e0] at hp; cases hp; exact l1⟩
    rw [e0]
    unfold keptH asH
    rw [List.filter_cons, l1]
    rfl
  | try_ b hs f =>
    have e0 : zipP (.try_ b hs f) = (("try", b) : ZP) :: (hs.map (fun h => (("except " ++ nmsS h.ks, h.b) : ZP)) ++ [(("finally", f) : ZP)]) := by
      show ((("try" : Str) :: (hs.map (fun h => "except " ++ nmsS h.ks) ++ [("finally" : Str)])).zip (b :: (hs.map Hd.b ++ [f]))) = _
      rw [List.zip_cons_cons, List.zip_append (by rw [List.length_map, List.length_map]), zip_maps]
      rfl
    have l1 : leftP (.try_ b hs f) ("try", b) = false := left_no kw_ne.2.2.2.1 kw_ne.2.2.2.2.1
    have l2 : ∀ h : Hd, leftP (.try_ b hs f) ("except " ++ nmsS h.ks, h.b) = false := fun h => left_no (exc_ne _).1 (exc_ne _).2
    have l3 : leftP (.try_ b hs f) ("finally", f) = (!hs.isEmpty && f.isEmpty) := by
      unfold leftP
      rw [decide_eq_true (rfl : (("finally", f) : ZP).1 = "finally"), decide_eq_false (show ¬ (("finally", f) : ZP).1 = "else" from kw_ne.2.2.2.2.2.2.2), Bool.or_false, Bool.true_and]
      rfl
    refine ⟨?_, ?_, fun p hp => by rw [e0] at hp; cases hp; exact l1⟩
    · rw [e0]
      unfold keptH asH
      rw [List.filter_cons, l1, List.filter_append, List.filter_cons, l3]
      have fe : (hs.map (fun h => (("except " ++ nmsS h.ks, h.b) : ZP))).filter (fun p => !leftP (.try_ b hs f) p) = hs.map (fun h => (("except " ++ nmsS h.ks, h.b) : ZP)) := List.filter_eq_self.mpr fun p hp => by
        obtain ⟨h, _, rfl⟩ := List.mem_map.mp hp
        rw [l2]
        rfl
      rw [fe]
      show _ = ((("try", [mk "try"], b) : HdS) :: (hs.map excH ++ (if hs.isEmpty = false ∧ f.isEmpty = true then [] else [(("finally", [mk "finally"], f) : HdS)]))).map _
      cases hh : hs.isEmpty <;> cases hf : f.isEmpty <;> simp [excH]
    · show (("try" : Str) :: (hs.map (fun h => "except " ++ nmsS h.ks) ++ [("finally" : Str)])).length = (b :: (hs.map Hd.b ++ [f])).length
      simp
  | set t e => exact absurd rfl h
  | input t => exact absurd rfl h
  | call t f as => exact absurd rfl h
  | risk ks => exact absurd rfl h
  | raise k => exact absurd rfl h
  | ret e => exact absurd rfl h

/-! ### k03: _law_lines, the walk -/
def spLLs (K : PySem.W.Frag) (n : Nat) : Sp := fun vs H Q _ => ∃ (v : V) (ind : Str) (b : List St), vs = [v, .str ind] ∧ Dp K H v (blD b) ∧ gL b ∧ dpB b ≤ n ∧ szB b ≤ 900 ∧ ind.length + 2 * n ≤ 1002 ∧ ∀ (q : Addr) (H' : Hp), Same H H' → H q = none → H' q = some (.lst ((linB n ind b).map V.str)) → Q (.ref q) H'
theorem parts_heads (s : St) : (parts s).isEmpty = (headsS s).isEmpty := by cases s <;> rfl
theorem parts_cnt {s : St} (g : gS s) : (parts s).length ≤ 4 := by
  cases s with
  | ite a b => exact (by decide : 2 ≤ 4)
  | whl b => exact (by decide : 1 ≤ 4)
  | undo ns b => exact (by decide : 1 ≤ 4)
  | with_ e l ks b => exact (by decide : 1 ≤ 4)
  | try_ b hs f =>
    have g : hs.length ≤ 2 ∧ gL b ∧ gHs hs ∧ gL f := g
    show (b :: (hs.map Hd.b ++ [f])).length ≤ 4
    rw [List.length_cons, List.length_append, List.length_map]
    show hs.length + 1 + 1 ≤ 4
    omega
  | _ => exact Nat.zero_le _
theorem fin_try {s : St} {k : Nat} (h : (lhS s)[k]? = some "finally") : ∃ b hs f, s = .try_ b hs f := by
  have hm := List.mem_of_getElem? h
  cases s with
  | try_ b hs f => exact ⟨_, _, _, rfl⟩
  | ite a b =>
    simp only [lhS, List.mem_cons, List.not_mem_nil, or_false] at hm
    rcases hm with z | z
    · exact absurd z.symm kw_ne.1
    · exact absurd z.symm kw_ne.2.2.1
  | undo ns b =>
    simp only [lhS, List.mem_cons, List.not_mem_nil, or_false] at hm
    exact absurd hm.symm (und_ne _).1
  | with_ e l ks b =>
    have hm := List.mem_singleton.mp hm
    exact absurd hm.symm (hd_ne (c := 119) (hd_app (hd_app (hd_app (hd_app (by decide +kernel))))) (by decide +kernel))
  | _ =>
    have hm := List.mem_singleton.mp hm
    exact absurd hm.symm kw_ne.2.2.2.2.2.1
theorem parts_g {s : St} (g : gS s) : ∀ p ∈ parts s, gL p := by
  intro p hp
  cases s with
  | ite a b =>
    have g : gL a ∧ gL b := g
    rcases List.mem_cons.mp hp with rfl | hp
    · exact g.1
    · rw [List.mem_singleton.mp hp]; exact g.2
  | whl b => rw [List.mem_singleton.mp hp]; exact g
  | undo ns b =>
    have g : (ns ≠ [] ∧ GNs ns) ∧ gL b := g
    rw [List.mem_singleton.mp hp]; exact g.2
  | with_ e l ks b =>
    have g : GC e ∧ GC l ∧ GNs ks ∧ gL b := g
    rw [List.mem_singleton.mp hp]; exact g.2.2.2
  | try_ b hs f =>
    have g : hs.length ≤ 2 ∧ gL b ∧ gHs hs ∧ gL f := g
    rcases List.mem_cons.mp (show p ∈ b :: (hs.map Hd.b ++ [f]) from hp) with rfl | hp
    · exact g.2.1
    rcases List.mem_append.mp hp with hp | hp
    · obtain ⟨h, hh, rfl⟩ := List.mem_map.mp hp
      exact (hd_g (gHs_mem g.2.2.1 hh)).2
    · rw [List.mem_singleton.mp hp]; exact g.2.2.2
  | set t e => cases hp
  | input t => cases hp
  | call t f as => cases hp
  | risk ks => cases hp
  | raise k => cases hp
  | ret e => cases hp
theorem lh_len {s : St} (g : gS s) : ∀ x ∈ lhS s, x.length ≤ 400 := by
  intro x hx
  have e1 : ("if" : Str).length = 2 ∧ ("else" : Str).length = 4 ∧ ("while" : Str).length = 5 ∧ ("try" : Str).length = 3 ∧ ("finally" : Str).length = 7 := by decide +kernel
  obtain ⟨a1, a2, a3, a4, a5⟩ := e1
  cases s with
  | ite a b =>
    rcases List.mem_cons.mp hx with rfl | hx
    · omega
    · rw [List.mem_singleton.mp hx]; omega
  | undo ns b => exact head_len g (("undo " ++ nmsS ns, mk "undo" :: shNs ns, b) : HdS) (List.mem_singleton.mpr rfl) |> fun h => by rw [List.mem_singleton.mp hx]; exact h
  | with_ e l ks b =>
    have h := head_len g _ (List.mem_singleton.mpr rfl : _ ∈ headsS (.with_ e l ks b))
    rw [List.mem_singleton.mp hx]
    exact h
  | try_ b hs f =>
    rcases List.mem_cons.mp (show x ∈ ("try" : Str) :: (hs.map (fun h => "except " ++ nmsS h.ks) ++ [("finally" : Str)]) from hx) with rfl | hx
    · omega
    rcases List.mem_append.mp hx with hx | hx
    · obtain ⟨h, hh, rfl⟩ := List.mem_map.mp hx
      exact head_len g (excH h) (by
        show excH h ∈ (("try", [mk "try"], b) : HdS) :: (hs.map excH ++ _)
        exact List.mem_cons_of_mem _ (List.mem_append_left _ (List.mem_map.mpr ⟨h, hh, rfl⟩)))
    · rw [List.mem_singleton.mp hx]; omega
  | _ => rw [List.mem_singleton.mp hx]; omega
section
variable {P : Program} {w : World} {K : PySem.W.Frag} {mg : Str → Option Value} {base : Heap}
theorem ok_LLs {n : Nat} {f : Addr} {fd : FuncData} (F : Fun K "_law_lines" "_law_lines" sLLs f fd) (T : TxLt mg) (GP : Has P w K mg base CX0 1 "_law_parts" PLPt (spLPt K)) (GN : Has P w K mg base CX0 3 "_law_line" PLLn (spLLn K)) (GH : Has P w K mg base CX0 3 "_law_heads" PLHd (spLHd K)) (GL : Has P w K mg base CX0 (4 + n) "_law_lines" PLLs (spLLs K n)) : FnOk P w K mg base CX0 (4 + n + 1) f fd PLLs (spLLs K (n + 1)) := by
  refine F.ok scLLs (fun vs H Q E h => ?_) (fun cdv A outer s H vs Q E hr h => ?_)
  · obtain ⟨v, ind, b, rfl, _⟩ := h
    rfl
  · obtain ⟨v, ind, b, rfl, hv, g, hdp, hz, hi, k⟩ := h
    have hr1 := hr.mono (j := 1) (by omega)
    have hr3 := hr.mono (j := 3) (by omega)
    have hu := hu_of hr
    have hu0 : (A.deeper (PyProof.Rows.envOfC "_law_lines" (defScope sLLs) s.heap.objs.size f cdv)).units < cLine := Nat.lt_of_succ_lt hu
    refine ⟨_, (pss_cons (ps_set (i := 2) scLLs.nd rfl (Or.inl rfl) (pe_lst pa_nil))
  (pss_cons (ps_for PassesOwn.never rfl (pi_tup (pv 0)) (pg_name (i := 3) scLLs.nd rfl (Or.inl rfl))
  (pss_cons (ps_set (i := 4) scLLs.nd rfl (Or.inl rfl) (pe_callH GP hr1 rfl pass0 (pa_cons (pv 3) pa_nil)))
  (C8.pss_cut (ps_if (pt_cmpR op_eq (pe_callB call_len_seq (by rfl) T.n_len bb_len (pa_cons (pv 4) pa_nil)) pe_int (nomark _))
  (pss_one (ps_expr (pe_bm PySem.F.plainAttrs_list PySem.F.slot_list_append PySem.F.type_list_append mt_append (pv 2) (pa_cons (pe_op op_add_str (pv 1) (pe_callH GN hr3 rfl pass0 (pa_cons (pv 3) pa_nil))) pa_nil))))
  pss_nil)
  (pss_cons (ps_set (i := 5) scLLs.nd rfl (Or.inl rfl) (pe_callH GH hr3 rfl pass0 (pa_cons (pv 3) pa_nil)))
  (C8.pss_cut (ps_for PassesOwn.never rfl (pi_range1 (by rfl) T.n_range (pa_cons (pe_callB call_len_seq (by rfl) T.n_len bb_len (pa_cons (pv 4) pa_nil)) pa_nil)) (pg_name (i := 6) scLLs.nd rfl (Or.inl rfl))
  (C8.pss_cut (ps_set (i := 7) scLLs.nd rfl (Or.inl rfl) (pe_or (pe_and (pe_cmpR op_eq (pe_ix (r := rIxL K) ix_list (pv 5) (pv 6) (fun _ _ => rfl)) pe_str (nomark _)) (pe_one (pe_cmpR (op_neE hu0) (pe_ix (r := rIxT K) ix_tup (pv 3) pe_int (fun _ _ => rfl)) (pe_tup pa_nil) (nomark _)))) (pe_one (pe_cmpR op_eq (pe_ix (r := rIxL K) ix_list (pv 5) (pv 6) (fun _ _ => rfl)) pe_str (nomark _)))))
  (C8.pss_cut (ps_set (i := 7) scLLs.nd rfl (Or.inl rfl) (pe_and (pv 7) (pe_one (pe_cmpR (op_eqE hu0) (pe_ix (r := rIxL K) ix_list (pv 4) (pv 6) (fun _ _ => rfl)) (pe_tup pa_nil) (nomark _)))))
  (pss_one (ps_if (pt_not (pt_val (pv 7)))
  (pss_cons (ps_expr (pe_bm PySem.F.plainAttrs_list PySem.F.slot_list_append PySem.F.type_list_append mt_append (pv 2) (pa_cons (pe_op op_add_str (pe_op op_add_str (pe_op op_add_str (pv 1) (pe_ifExp (pt_cmpR op_gt (pv 6) pe_int (nomark _)) pe_str pe_str)) (pe_ix (r := rIxL K) ix_list (pv 5) (pv 6) (fun _ _ => rfl))) pe_str) pa_nil)))
  (pss_one (ps_set (i := 2) scLLs.nd rfl (Or.inl rfl) (pe_op op_cat (pv 2) (pe_callH GL hr rfl pass0 (pa_cons (pe_ix (r := rIxL K) ix_list (pv 4) (pv 6) (fun _ _ => rfl)) (pa_cons (pe_op op_add_str (pv 1) pe_str) pa_nil)))))))
  pss_nil)))))
  (pss_one (ps_if (pt_cmpR op_gt (pe_callB call_len_seq (by rfl) T.n_len bb_len (pa_cons (pv 4) pa_nil)) pe_int (nomark _))
  (pss_one (ps_expr (pe_bm PySem.F.plainAttrs_list PySem.F.slot_list_append PySem.F.type_list_append mt_append (pv 2) (pa_cons (pe_op op_add_str (pv 1) pe_str) pa_nil))))
  pss_nil)))))))
  (pss_one (ps_ret (pv 2))))), ?_⟩
    have e24 : sizeLine = 2 ^ 24 := rfl
    have l1 : ("}" : Str).length = 1 := by decide +kernel
    have hv : Dp K H v (.tuple (stsD b)) := hv
    obtain ⟨a, xs, rfl, hq, hd⟩ := hv.tupInv
    rw [stsD_map] at hd
    have px := DpAll.map (f := stD) hd
    have lx := Paired.length px
    have hc := linB_cnt (n := n + 1) (ind := ind) g
    have hdp0 := dpB_eq b
    refine ⟨(by show 0 ≤ sizeLine; decide), fun X hX => ?_⟩
    have s2 := same_new (o := .lst []) hX
    refine ⟨_, rfl, a, rfl, ⟨_, SqT.same s2 hq⟩, for_it (walk_tup (K := K) (a := a) (xs := xs)) (fun i σ H' => Same H H' ∧ ∃ (q : Addr) (x3 x4 x5 x6 x7 : Option V), σ = [some (.ref a), some (.str ind), some (.ref q), x3, x4, x5, x6, x7] ∧ H q = none ∧ H' q = some (.lst ((linB (n + 1) ind (b.take i)).map V.str))) ⟨s2, X, none, none, none, none, none, rfl, hX, upd_same⟩ (fun i σ H' _ h' => SqT.same h'.1 hq) ?_ ?_⟩
    case refine_2 =>
      rintro σ H2 ⟨s3, q, x3, x4, x5, x6, x7, rfl, nq, eq⟩
      rw [lx, List.take_length] at eq
      exact ⟨_, rfl, k q H2 s3 nq eq⟩
    rintro i x σ H2 H3 hil ⟨s3, q, x3, x4, x5, x6, x7, rfl, nq, eq⟩ ⟨rfl, hx⟩
    obtain ⟨st, hst, dst⟩ := Paired.at px hx
    have mst := List.mem_of_getElem? hst
    have gst := gL_mem g mst
    have dps : dpS st ≤ n := by
      have go : ∀ {l : List St}, st ∈ l → dpS st ≤ dpIn l := fun {l} => by
        induction l with
        | nil => exact fun h => nomatch h
        | cons x r ih =>
          intro h
          show dpS st ≤ max (dpS x) (dpIn r)
          rcases List.mem_cons.mp h with z | z
          · rw [z]; exact Nat.le_max_left _ _
          · exact Nat.le_trans (ih z) (Nat.le_max_right _ _)
      have := go mst
      omega
    have et : linB (n + 1) ind (b.take (i + 1)) = linB (n + 1) ind (b.take i) ++ linS (n + 1) ind st := by
      unfold linB
      rw [take_snoc hst, List.flatMap_append, List.flatMap_cons, List.flatMap_nil, List.append_nil]
    have lt : (linB (n + 1) ind (b.take i)).length + (linS (n + 1) ind st).length ≤ 5 * szB b := by
      have : linB (n + 1) ind b = linB (n + 1) ind (b.take (i + 1)) ++ linB (n + 1) ind (b.drop (i + 1)) := by
        unfold linB
        rw [← List.flatMap_append, List.take_append_drop]
      have c := congrArg List.length this
      rw [List.length_append, et, List.length_append] at c
      omega
    generalize eL0 : linB (n + 1) ind (b.take i) = L0 at *
    refine ⟨_, rfl, x, st, rfl, dst.same s3, gst, fun PL ps H4 s4 nPL ePL pPL => ?_⟩
    have s34 := s3.trans s4
    have eq4 := s4 _ _ eq
    have lps := Paired.length pPL
    have put : ∀ {H' : Hp} {o : HO} {r : Addr}, H r = none → Same H H' → Same H (upd H' r o) := fun nr s' b o z => by
      rw [upd_ne (ne_of_none z nr)]
      exact s' _ _ z
    have qP : PL ≠ q := fun z => by rw [z] at nPL; rw [nPL] at eq; cases eq
    refine ⟨fun σ H' => Same H H' ∧ σ = [some (.ref a), some (.str ind), some (.ref q), some x, some (.ref PL), x5, x6, x7] ∧ H' PL = some (.lst ps) ∧ Paired (fun v b => Dp K H' v (blD b)) ps (parts st) ∧ H' q = some (.lst ((L0 ++ (if (parts st).isEmpty = true then [ind ++ simS st] else [])).map V.str)), ?_, ?_⟩
    · refine ⟨_, rfl, PL, ps, rfl, .inl (SqL.of ePL), rfl, _, rfl, ?_⟩
      by_cases hE : (parts st).isEmpty = true
      · have h0 : ps.length = 0 := by rw [lps, List.isEmpty_iff.mp hE]; rfl
        refine iteS (decide_eq_true (by rw [h0]; rfl)) ?_
        have hh : headsS st = [] := List.isEmpty_iff.mp (by rw [← parts_heads]; exact hE)
        have ls := sim_len gst
        refine ⟨_, rfl, .inl ⟨rfl, _, SqL.of eq4⟩, _, rfl, _, rfl, x, st, rfl, dst.same s34, gst, hh, fun H5 s5 => ⟨_, _, rfl, rfl, by rw [e24]; omega, q, _, _, rfl, rfl, s5 _ _ eq4, small10 (by rw [List.length_map]; omega), put nq (s34.trans s5), rfl, by rw [upd_ne qP]; exact s5 _ _ ePL, Paired.mapP pPL fun _ y z => (z.same s5).tps (Tps.lst (s5 _ _ eq4)) (noL_bl y), ?_⟩⟩
        rw [upd_same, if_pos hE, List.map_append]
        rfl
      · have h0 : ps.length ≠ 0 := fun z => hE (by
          rw [lps] at z
          rw [List.length_eq_zero_iff.mp z]
          rfl)
        refine iteE (decide_eq_false fun z => h0 (by injection z with z; omega)) ⟨s34, rfl, ePL, pPL, ?_⟩
        rw [if_neg hE, List.append_nil]
        exact eq4
    rintro σ H5 ⟨s05, rfl, ePL5, pPL5, eq5⟩
    refine ⟨_, rfl, x, st, rfl, dst.same s05, gst, fun HL H6 s6 nHL eHL => ?_⟩
    have s06 := s05.trans s6
    have ePL6 := s6 _ _ ePL5
    have eq6 := s6 _ _ eq5
    have pPL6 : Paired (fun v b => Dp K H6 v (blD b)) ps (parts st) := Paired.mapP pPL5 fun _ _ z => z.same s6
    have HLq : HL ≠ q := fun z => by rw [z] at nHL; rw [nHL] at eq5; cases eq5
    have HLP : HL ≠ PL := fun z => by rw [z] at nHL; rw [nHL] at ePL5; cases ePL5
    refine ⟨fun σ H' => Same H H' ∧ ∃ (q2 : Addr) (x6 x7 : Option V) (Ls : List Str), σ = [some (.ref a), some (.str ind), some (.ref q2), some x, some (.ref PL), some (.ref HL), x6, x7] ∧ H q2 = none ∧ H' PL = some (.lst ps) ∧ H' q2 = some (.lst (Ls.map V.str)) ∧ Ls ++ (if (parts st).isEmpty = true then [] else [ind ++ "}"]) = L0 ++ linS (n + 1) ind st, ?_, ?_⟩
    · have zl : (zipP st).length = ps.length := by
        unfold zipP
        rw [List.length_zip, lps]
        by_cases hE : parts st = []
        · rw [hE, List.length_nil]
          omega
        · rw [(kept_all hE).2.1]
          omega
      have hp4 : ps.length ≤ 4 := by rw [lps]; exact parts_cnt gst
      have e62 : (2 : Int) ^ 62 = 4611686018427387904 := by decide
      have eHL6 : H6 HL = some (.lst ((lhS st).map V.str)) := eHL
      obtain ⟨rem, erem⟩ : ∃ rem : Nat → List Str, rem = fun k => if (parts st).isEmpty = true then [] else lnHs (fun b => b.flatMap (linS n (ind ++ "  "))) ind (decide (0 < k)) (keptH st ((zipP st).drop k)) := ⟨_, rfl⟩
      have rem0 : (L0 ++ (if (parts st).isEmpty = true then [ind ++ simS st] else [])) ++ rem 0 = L0 ++ linS (n + 1) ind st := by
        rw [erem]
        by_cases hE : (parts st).isEmpty = true
        · have hh : (headsS st).isEmpty = true := by rw [← parts_heads]; exact hE
          have e : linS (n + 1) ind st = [ind ++ simS st] := if_pos hh
          simp only [if_pos hE, List.append_nil]
          rw [e]
        · have hh : ¬ (headsS st).isEmpty = true := by rw [← parts_heads]; exact hE
          have e : linS (n + 1) ind st = lnHs (fun b => b.flatMap (linS n (ind ++ "  "))) ind false (headsS st) := if_neg hh
          simp only [if_neg hE, List.append_nil]
          rw [e, List.drop_zero, decide_eq_false (Nat.lt_irrefl 0)]
          exact congrArg _ (lnHs_congr _ _ (kept_all (fun z => hE (by rw [z]; rfl))).1)
      refine ⟨_, rfl, PL, ps, rfl, .inl (SqL.of ePL6), ((ps.length : Nat) : Int), rfl, by omega, by omega, ?_⟩
      refine for_range (lo := 0) (n := ((ps.length : Nat) : Int).toNat) (fun k σ H' => Same H H' ∧ ∃ (q2 : Addr) (x6 x7 : Option V) (Ls : List Str), σ = [some (.ref a), some (.str ind), some (.ref q2), some x, some (.ref PL), some (.ref HL), x6, x7] ∧ H q2 = none ∧ q2 ≠ PL ∧ q2 ≠ HL ∧ H' PL = some (.lst ps) ∧ H' HL = some (.lst ((lhS st).map V.str)) ∧ Paired (fun v b => Dp K H' v (blD b)) ps (parts st) ∧ Dp K H' x (stD st) ∧ H' q2 = some (.lst (Ls.map V.str)) ∧ Ls ++ rem k = L0 ++ linS (n + 1) ind st) ⟨s06, q, _, _, _, rfl, nq, qP.symm, HLq.symm, ePL6, eHL6, pPL6, dst.same s06, eq6, rem0⟩ ?_ ?_
      · rintro k σ H7 hk ⟨s07, q2, x6', x7', Ls, rfl, nq2, n1, n2, ePL7, eHL7, pPL7, dst7, eq7, etot⟩
        have hk : k < ps.length := by omega
        obtain ⟨⟨lh, blk⟩, hz⟩ : ∃ p, (zipP st)[k]? = some p := ⟨_, List.getElem?_eq_getElem (by rw [zl]; exact hk)⟩
        have hz2 := hz
        unfold zipP at hz2
        rw [List.getElem?_zip_eq_some] at hz2
        obtain ⟨hlh, hbk⟩ := hz2
        have ezd : (zipP st).drop k = (lh, blk) :: (zipP st).drop (k + 1) := by
          have hl := (List.getElem?_eq_some_iff.mp hz).1
          rw [List.drop_eq_getElem_cons hl, (List.getElem?_eq_some_iff.mp hz).2]
        obtain ⟨pk, hpk⟩ : ∃ pk, ps[k]? = some pk := ⟨_, List.getElem?_eq_getElem hk⟩
        obtain ⟨blk', hb', dpk⟩ := Paired.at pPL7 hpk
        obtain rfl : blk' = blk := by rw [hb'] at hbk; exact Option.some.inj hbk
        have z0 : (0 : Int) + ((k : Nat) : Int) = ((k : Nat) : Int) := Int.zero_add _
        have pne : ¬ (parts st).isEmpty = true := fun z => by rw [List.isEmpty_iff.mp z] at hb'; simp at hb'
        obtain ⟨va, zs, rfl, hqa, hda⟩ := stInv dst7
        have atH : atI ((lhS st).map V.str) ((0 : Int) + ((k : Nat) : Int)) = some (.str lh) := by
          rw [z0]
          exact atI_nat (by rw [List.getElem?_map, hlh]; rfl)
        refine ⟨fun σ H' => Same H7 H' ∧ σ = [some (.ref a), some (.str ind), some (.ref q2), some (.ref va), some (.ref PL), some (.ref HL), some (.int (0 + (k : Int))), some (.bl ((decide (lh = "finally") && hsNE st) || decide (lh = "else")))], ?_, ?_⟩
        · refine ⟨_, rfl, _, rfl, HL, _, _, _, rfl, rfl, SqL.of eHL7, atH, rfl, ?_⟩
          by_cases hF : lh = "finally"
          · have hlh' := hlh
            rw [hF] at hlh'
            obtain ⟨tb, ths, tf, est⟩ := fin_try hlh'
            subst est
            obtain ⟨y1, y2, y3, rfl, d1, d2, d3⟩ := DpAll.three hda
            obtain ⟨ha, hzs, rfl, hha, hhd⟩ := d2.tupInv
            have hle : hzs.isEmpty = ths.isEmpty := by
              have := hhd.len
              rw [hdsD_map, List.length_map] at this
              cases hzs <;> cases ths <;> simp_all
            refine ⟨_, rfl, iteS (decide_eq_true (by rw [hF])) ?_⟩
            refine ⟨_, rfl, va, _, _, _, rfl, rfl, hqa, rfl, (by show 0 ≤ sizeLine; decide), fun t ht => ?_⟩
            have st := same_new (o := .tup []) ht
            refine ⟨ha, t, hzs, rfl, rfl, SqT.same st hha, SqT.of upd_same, _, rfl, ?_⟩
            cases hte : ths.isEmpty with
            | true =>
              refine iteE (by rw [hle, hte]; rfl) ?_
              refine ⟨_, rfl, _, rfl, HL, _, _, _, rfl, rfl, SqL.of (st _ _ eHL7), atH, rfl, st, ?_⟩
              have : hsNE (.try_ tb ths tf) = false := by show (!ths.isEmpty) = false; rw [hte]; rfl
              rw [this, Bool.and_false, Bool.false_or, dec_str]
              rfl
            | false =>
              refine iteS (by rw [hle, hte]; rfl) ⟨st, ?_⟩
              have : hsNE (.try_ tb ths tf) = true := by show (!ths.isEmpty) = true; rw [hte]; rfl
              rw [this, decide_eq_true hF]
              rfl
          · refine ⟨_, rfl, iteE (decide_eq_false fun z => hF (by injection z)) ⟨_, rfl, iteE rfl ?_⟩⟩
            refine ⟨_, rfl, _, rfl, HL, _, _, _, rfl, rfl, SqL.of eHL7, atH, rfl, Same.refl _, ?_⟩
            rw [decide_eq_false hF, Bool.false_and, Bool.false_or, dec_str]
            rfl
        rintro σ H8 ⟨s8, rfl⟩
        have s08 := s07.trans s8
        have eL : leftP st (lh, blk') = (((decide (lh = "finally") && hsNE st) || decide (lh = "else")) && blk'.isEmpty) := rfl
        refine ⟨fun σ H' => Same H7 H' ∧ σ = [some (.ref a), some (.str ind), some (.ref q2), some (.ref va), some (.ref PL), some (.ref HL), some (.int (0 + (k : Int))), some (.bl (leftP st (lh, blk')))], ?_, ?_⟩
        · have atP : atI ps ((0 : Int) + ((k : Nat) : Int)) = some pk := by rw [z0]; exact atI_nat hpk
          obtain ⟨bp, bzs, rfl, hbp, hbd⟩ := (show Dp K H7 pk (.tuple (stsD blk')) from dpk).tupInv
          have hbe : bzs.isEmpty = blk'.isEmpty := by
            have := hbd.len
            rw [stsD_map, List.length_map] at this
            cases bzs <;> cases blk' <;> simp_all
          refine ⟨_, rfl, _, rfl, ?_⟩
          rw [eL]
          cases hA : ((decide (lh = "finally") && hsNE st) || decide (lh = "else")) with
          | true =>
            refine iteS rfl ⟨_, rfl, _, rfl, PL, _, _, _, rfl, rfl, SqL.of (s8 _ _ ePL7), atP, (by show 0 ≤ sizeLine; decide), fun t ht => ?_⟩
            have st := same_new (o := .tup []) ht
            refine ⟨bp, t, bzs, rfl, rfl, SqT.same (s8.trans st) hbp, SqT.of upd_same, s8.trans st, ?_⟩
            rw [hbe, Bool.true_and]
            rfl
          | false => exact iteE rfl ⟨s8, by rw [Bool.false_and]; rfl⟩
        rintro σ H9 ⟨s9, rfl⟩
        have s09 := s07.trans s9
        have ePL9 := s9 _ _ ePL7
        have eHL9 := s9 _ _ eHL7
        have eq9 := s9 _ _ eq7
        have k1 : decide (0 < k + 1) = true := decide_eq_true (Nat.succ_pos k)
        have remk : rem k = lnHs (fun b => b.flatMap (linS n (ind ++ "  "))) ind (decide (0 < k)) (keptH st ((lh, blk') :: (zipP st).drop (k + 1))) := by
          rw [erem]
          simp only [if_neg pne]
          rw [ezd]
        have remk1 : rem (k + 1) = lnHs (fun b => b.flatMap (linS n (ind ++ "  "))) ind true (keptH st ((zipP st).drop (k + 1))) := by
          rw [erem]
          simp only [if_neg pne]
          rw [k1]
        refine ⟨_, rfl, _, rfl, ?_⟩
        cases hL : leftP st (lh, blk') with
        | true =>
          refine iteE rfl ⟨s09, q2, _, _, Ls, rfl, nq2, n1, n2, ePL9, eHL9, Paired.mapP pPL7 fun _ _ z => z.same s9, dst7.same s9, eq9, ?_⟩
          rw [remk1, ← etot, remk]
          have hk0 : 0 < k := Nat.pos_of_ne_zero fun z => by
            subst z
            have := (kept_all (fun z => pne (by rw [z]; rfl))).2.2 _ hz
            rw [hL] at this
            cases this
          have : keptH st ((lh, blk') :: (zipP st).drop (k + 1)) = keptH st ((zipP st).drop (k + 1)) := by
            unfold keptH
            rw [List.filter_cons, hL]
            rfl
          rw [this, decide_eq_true hk0]
        | false =>
          refine iteS rfl ?_
          have keq : keptH st ((lh, blk') :: (zipP st).drop (k + 1)) = ((lh, [], blk') : HdS) :: keptH st ((zipP st).drop (k + 1)) := by
            unfold keptH asH
            rw [List.filter_cons, hL]
            rfl
          have tt : rem k = hdL ind (decide (0 < k)) lh :: (linB n (ind ++ "  ") blk' ++ rem (k + 1)) := by
            rw [remk, keq, remk1]
            rfl
          rw [tt] at etot
          have ct := congrArg List.length etot
          rw [List.length_append, List.length_append, List.length_cons, List.length_append] at ct
          have b1 : ("} " : Str).length = 2 := by decide +kernel
          have b2 : (" {" : Str).length = 2 := by decide +kernel
          have b0 : ("" : Str).length = 0 := by decide +kernel
          have hl4 := lh_len gst lh (List.mem_of_getElem? hlh)
          have di : decide ((0 : Int) < 0 + ((k : Nat) : Int)) = decide (0 < k) := decide_eq_decide.mpr (by omega)
          have li : (if decide ((0 : Int) < 0 + ((k : Nat) : Int)) = true then ("} " : Str) else "").length ≤ 2 := by split <;> omega
          have eh : ind ++ (if decide ((0 : Int) < 0 + ((k : Nat) : Int)) = true then ("} " : Str) else "") ++ lh ++ " {" = hdL ind (decide (0 < k)) lh := by
            unfold hdL
            rw [di, str_emp]
          have mb := List.mem_of_getElem? hb'
          have gbk := parts_g gst blk' mb
          have dbk := dp_part mb
          have zbk := szB_part mb
          have zst := szS_mem mst
          have cbk := linB_cnt (n := n) (ind := ind ++ "  ") gbk
          have atP : atI ps ((0 : Int) + ((k : Nat) : Int)) = some pk := by rw [z0]; exact atI_nat hpk
          refine ⟨_, rfl, .inl ⟨rfl, _, SqL.of eq9⟩, _, rfl, _, rfl, _, _, rfl, rfl, _, rfl, if_tC ⟨_, _, rfl, rfl, by rw [e24]; omega, _, rfl, _, rfl, HL, _, _, _, rfl, rfl, SqL.of eHL9, atH, _, _, rfl, rfl, by rw [len_add, e24]; omega, _, _, rfl, rfl, by rw [len_add, len_add, b2, e24]; omega, q2, _, _, rfl, rfl, eq9, small10 (by rw [List.length_map]; omega), ?_⟩⟩
          rw [eh]
          have tA : Tps _ (upd H9 q2 (.lst (Ls.map V.str ++ [V.str (hdL ind (decide (0 < k)) lh)]))) := Tps.lst eq9
          have sA := put (o := .lst (Ls.map V.str ++ [V.str (hdL ind (decide (0 < k)) lh)])) nq2 s09
          have eqA : upd H9 q2 (.lst (Ls.map V.str ++ [V.str (hdL ind (decide (0 < k)) lh)])) q2 = some (.lst ((Ls ++ [hdL ind (decide (0 < k)) lh]).map V.str)) := by rw [upd_same, List.map_append]; rfl
          have ePLA : upd H9 q2 (.lst (Ls.map V.str ++ [V.str (hdL ind (decide (0 < k)) lh)])) PL = some (.lst ps) := by rw [upd_ne n1.symm]; exact ePL9
          have eHLA : upd H9 q2 (.lst (Ls.map V.str ++ [V.str (hdL ind (decide (0 < k)) lh)])) HL = some (.lst ((lhS st).map V.str)) := by rw [upd_ne n2.symm]; exact eHL9
          have pPLA : Paired (fun v b => Dp K (upd H9 q2 (.lst (Ls.map V.str ++ [V.str (hdL ind (decide (0 < k)) lh)]))) v (blD b)) ps (parts st) := Paired.mapP pPL7 fun _ y z => (z.same s9).tps tA (noL_bl y)
          have dstA := (dst7.same s9).tps tA (noL_st st)
          have dpkA := (dpk.same s9).tps tA (noL_bl blk')
          generalize upd H9 q2 (.lst (Ls.map V.str ++ [V.str (hdL ind (decide (0 < k)) lh)])) = HA at *
          refine ⟨_, rfl, _, rfl, _, rfl, PL, _, _, _, rfl, rfl, SqL.of ePLA, atP, _, rfl, _, _, rfl, rfl, by rw [two_len, e24]; omega, pk, ind ++ "  ", blk', rfl, dpkA, gbk, by omega, by omega, by rw [len_add, two_len]; omega, fun R HB sB nR eR => ?_⟩
          have eqB := sB _ _ eqA
          refine ⟨q2, R, _, _, rfl, rfl, eqB, eR, by rw [List.length_map, List.length_map, List.length_append, e24]; show Ls.length + 1 + _ ≤ _; omega, fun M hM => ?_⟩
          have sM := same_new (o := .lst ((Ls ++ [hdL ind (decide (0 < k)) lh]).map V.str ++ (linB n (ind ++ "  ") blk').map V.str)) hM
          have sAM := sB.trans sM
          have nM : H M = none := none_same (sA.trans sB) hM
          have mP : M ≠ PL := fun z => by rw [z, sB _ _ ePLA] at hM; cases hM
          have mH : M ≠ HL := fun z => by rw [z, sB _ _ eHLA] at hM; cases hM
          refine ⟨sA.trans sAM, M, _, _, Ls ++ [hdL ind (decide (0 < k)) lh] ++ linB n (ind ++ "  ") blk', rfl, nM, mP, mH, sAM _ _ ePLA, sAM _ _ eHLA, Paired.mapP pPLA fun _ _ z => z.same sAM, dstA.same sAM, ?_, ?_⟩
          · rw [upd_same]
            simp only [List.map_append]
          · rw [← etot]
            simp only [List.append_assoc, List.cons_append, List.nil_append]
      · rintro σ H7 ⟨s07, q2, x6', x7', Ls, rfl, nq2, _, _, ePL7, _, _, _, eq7, etot⟩
        refine ⟨s07, q2, _, _, Ls, rfl, nq2, ePL7, eq7, ?_⟩
        rw [← etot, erem]
        by_cases hE : (parts st).isEmpty = true
        · simp only [if_pos hE]
        · simp only [if_neg hE]
          have h0 : 0 < ps.length := by
            rw [lps]
            exact List.length_pos_iff.mpr fun z => hE (by rw [z]; rfl)
          rw [Int.toNat_natCast, ← zl, List.drop_length]
          rfl
    rintro σ H7 ⟨s07, q2, x6', x7', Ls, rfl, nq2, ePL7, eq7, etot⟩
    have ct := congrArg List.length etot
    rw [List.length_append, List.length_append] at ct
    refine ⟨_, rfl, PL, ps, rfl, .inl (SqL.of ePL7), _, _, rfl, rfl, _, rfl, ?_⟩
    by_cases hE : (parts st).isEmpty = true
    · have h0 : ps.length = 0 := by rw [lps, List.isEmpty_iff.mp hE]; rfl
      refine iteE (decide_eq_false (by omega)) ⟨s07, q2, _, _, _, _, _, rfl, nq2, ?_⟩
      rw [if_pos hE, List.append_nil] at etot
      rw [et, ← etot]
      exact eq7
    · have h0 : ps.length ≠ 0 := fun z => hE (by
        rw [lps] at z
        rw [List.length_eq_zero_iff.mp z]
        rfl)
      rw [if_neg hE] at etot
      refine iteS (decide_eq_true (by omega)) ?_
      refine ⟨_, rfl, .inl ⟨rfl, _, SqL.of eq7⟩, _, rfl, _, _, rfl, rfl, by rw [l1, e24]; omega, q2, _, _, rfl, rfl, eq7, small10 (by rw [List.length_map]; omega), put nq2 s07, q2, _, _, _, _, _, rfl, nq2, ?_⟩
      rw [upd_same, et, ← etot, List.map_append]
      rfl
theorem ok_LLss {f : Addr} {fd : FuncData} (F : Fun K "_law_lines" "_law_lines" sLLs f fd) (T : TxLt mg) (GP : Has P w K mg base CX0 1 "_law_parts" PLPt (spLPt K)) (GN : Has P w K mg base CX0 3 "_law_line" PLLn (spLLn K)) (GH : Has P w K mg base CX0 3 "_law_heads" PLHd (spLHd K)) (m : mg "_law_lines" = some (.ref f)) (kp : PySem.W.keepIn K (.ref f) = true) (bd : Binds K fd PLLs []) : ∀ n, FnOk P w K mg base CX0 (4 + n) f fd PLLs (spLLs K n) := by
  intro n
  induction n with
  | zero => exact ⟨fun vs H Q E h => by obtain ⟨_, _, _, _, _, _, h, _⟩ := h; exact (no_dp h).elim, fun _ _ _ _ _ _ _ _ _ _ _ _ _ h => by obtain ⟨_, _, _, _, _, _, h, _⟩ := h; exact (no_dp h).elim⟩
  | succ n ih => exact ok_LLs F T GP GN GH ⟨f, fd, ih, m, kp, bd⟩
end

/-! ### k03: drawn trees are good -/
structure EnvG (own kinds : List Str) (heads : List Head) : Prop where
  o : own.length ≤ 8
  go : ∀ x ∈ own, GN x
  gk : ∀ x ∈ kinds, GN x
  gh : ∀ h ∈ heads, GN h.1 ∧ h.2.length ≤ 2
section
variable {own kinds : List Str} {heads : List Head}
theorem ge_of (E : EnvG own kinds heads) {e : Ex} (h : EX own e) : GE e := by
  have hc := h.c
  refine ⟨by omega, fun p hp => ?_, h.up, Nat.le_trans h.ln E.o⟩
  have := h.nm p hp
  have g := E.go _ this.1
  exact ⟨g.1, g.2, this.2.1, by omega⟩
theorem ga_of (E : EnvG own kinds heads) {a : Arg} (h : WA own a) : GA a := by
  cases a with
  | place n => exact E.go _ h
  | value e => exact ge_of E h
theorem gc_of (E : EnvG own kinds heads) {c : Cal} (h : WC own heads c) : GC c := by
  obtain ⟨hd, hm, e1, e2⟩ := h.hd
  have g := E.gh hd hm
  have l : c.2.length ≤ 2 := by
    have := congrArg List.length e2
    rw [List.length_map, List.length_map] at this
    omega
  exact ⟨e1 ▸ g.1, l, fun a ha => ga_of E (h.as a ha)⟩
mutual
theorem gs_of (E : EnvG own kinds heads) : ∀ (last : Bool) (s : St), wS own kinds heads last s → gS s
  | l, .set t e, h => by
    have h : t ∈ own ∧ EX own e := h
    exact ⟨E.go _ h.1, ge_of E h.2⟩
  | l, .input t, h => E.go _ (show t ∈ own from h)
  | l, .raise k, h => E.gk _ (show k ∈ kinds from h)
  | l, .risk ks, h => by
    have h : ks ≠ [] ∧ ks.length ≤ 2 ∧ ∀ k ∈ ks, k ∈ kinds := h
    exact ⟨h.1, by omega, fun k hk => E.gk _ (h.2.2 k hk)⟩
  | l, .call t f as, h => by
    have h : (∀ x, t = some x → x ∈ own) ∧ WC own heads (f, as) := h
    exact ⟨fun x hx => E.go _ (h.1 x hx), gc_of E h.2⟩
  | l, .ret e, h => by
    have h : l = false ∧ EX own e := h
    exact ge_of E h.2
  | l, .ite a b, h => by
    have h : wL own kinds heads l a ∧ wL own kinds heads l b := h
    exact ⟨gl_of E l a h.1, gl_of E l b h.2⟩
  | l, .whl b, h => by
    have h : l = false ∧ wL own kinds heads false b := h
    exact gl_of E false b h.2
  | l, .try_ b hs f, h => by
    have h : l = false ∧ hs.length ≤ 2 ∧ wL own kinds heads false b ∧ wHs own kinds heads hs ∧ wL own kinds heads true f := h
    exact ⟨h.2.1, gl_of E false b h.2.2.1, gh_of E hs h.2.2.2.1, gl_of E true f h.2.2.2.2⟩
  | l, .undo ns b, h => by
    have h : l = false ∧ (ns ≠ [] ∧ ns.length ≤ 3 ∧ ∀ n ∈ ns, n ∈ own) ∧ wL own kinds heads false b := h
    exact ⟨⟨h.2.1.1, h.2.1.2.1, fun n hn => E.go _ (h.2.1.2.2 n hn)⟩, gl_of E false b h.2.2⟩
  | l, .with_ e l2 ks b, h => by
    have h : l = false ∧ WC own heads e ∧ WC own heads l2 ∧ (ks.length ≤ 2 ∧ ∀ k ∈ ks, k ∈ kinds) ∧ wL own kinds heads false b := h
    exact ⟨gc_of E h.2.1, gc_of E h.2.2.1, ⟨by have := h.2.2.2.1.1; omega, fun k hk => E.gk _ (h.2.2.2.1.2 k hk)⟩, gl_of E false b h.2.2.2.2⟩
theorem gl_of (E : EnvG own kinds heads) : ∀ (last : Bool) (b : List St), wL own kinds heads last b → gL b
  | l, [], _ => trivial
  | l, s :: r, h => by
    have h : wS own kinds heads l s ∧ wL own kinds heads l r := h
    exact ⟨gs_of E l s h.1, gl_of E l r h.2⟩
theorem gh_of (E : EnvG own kinds heads) : ∀ (hs : List Hd), wHs own kinds heads hs → gHs hs
  | [], _ => trivial
  | .mk ks b :: r, h => by
    have h : ((ks ≠ [] ∧ ks.length ≤ 2 ∧ ∀ k ∈ ks, k ∈ kinds) ∧ wL own kinds heads false b) ∧ wHs own kinds heads r := h
    exact ⟨⟨⟨h.1.1.1, by have := h.1.1.2.1; omega, fun k hk => E.gk _ (h.1.1.2.2 k hk)⟩, gl_of E false b h.1.2⟩, gh_of E r h.2⟩
end
end
theorem drawn_G {t : Tr} (D : DrawnT t) : GT 6 t := by
  obtain ⟨ws, nok, lws, nN, nK, hN, hK1, hK2, en, ek, kp, lkp, lf1, lf2, efn, sz, w8, w9, w10, h8, h9, h10, hf⟩ := D.ex
  have go : ∀ x ∈ ws, GN x := fun x hx => ⟨nok.name x hx, nok.len x hx⟩
  have m8 := List.mem_of_getElem? h8
  have m9 := List.mem_of_getElem? h9
  have m10 := List.mem_of_getElem? h10
  have gn : ∀ x ∈ t.names, GN x := fun x hx => by rw [en] at hx; exact go x (List.mem_of_mem_take hx)
  have gk : ∀ x ∈ t.kinds, GN x := fun x hx => by rw [ek] at hx; exact go x (List.mem_of_mem_drop (List.mem_of_mem_take hx))
  have ln : t.names.length ≤ 2 := by rw [en, List.length_take]; omega
  have lk : t.kinds.length ≤ 2 := by rw [ek, List.length_take]; omega
  have gfn : ∀ f ∈ t.fns, GN f.name := fun f hm => by
    have : f.name ∈ t.fns.map Fn.name := List.mem_map_of_mem hm
    rw [efn] at this
    exact go _ (List.mem_of_mem_drop (List.mem_of_mem_take this))
  have gps : ∀ f ∈ t.fns, f.ps.length ≤ 2 ∧ ∀ p ∈ f.ps, GN p.1 := fun f hm => by
    obtain ⟨⟨b1, b2, k, e⟩, _⟩ := hf f hm
    rw [e]
    refine ⟨by rw [List.length_take]; show min k 2 ≤ 2; omega, fun p hp => ?_⟩
    have := List.mem_of_mem_take hp
    simp only [List.mem_cons, List.not_mem_nil, or_false] at this
    rcases this with rfl | rfl
    · exact go _ m8
    · exact go _ m9
  have E : ∀ f ∈ t.fns, EnvG (t.names ++ (prs f ++ [w10])) t.kinds (t.fns.map fun f => (f.name, f.ps)) := fun f hm => by
    have gp := gps f hm
    refine ⟨?_, fun x hx => ?_, gk, fun h hh => ?_⟩
    · rw [List.length_append, List.length_append]
      unfold prs
      rw [List.length_map]
      show _ + (_ + 1) ≤ 8
      omega
    · rcases List.mem_append.mp hx with z | z
      · exact gn x z
      · rcases List.mem_append.mp z with z | z
        · obtain ⟨p, hp, rfl⟩ := List.mem_map.mp z
          exact gp.2 p hp
        · rw [List.mem_singleton.mp z]
          exact go _ m10
    · obtain ⟨g, hg, rfl⟩ := List.mem_map.mp hh
      exact ⟨gfn g hg, (gps g hg).1⟩
  have E0 : EnvG t.names t.kinds [] := ⟨by omega, gn, gk, fun h hh => by cases hh⟩
  refine ⟨⟨ln, gn⟩, ⟨lk, gk⟩, ⟨lkp, fun e he => ge_of E0 (kp e he).2⟩, ⟨lf2, fun f hm => ?_⟩, sz⟩
  obtain ⟨_, e, blk, eb, lb, db, he, hw⟩ := hf f hm
  have gp := gps f hm
  have w10m : w10 ∈ t.names ++ (prs f ++ [w10]) := by simp
  refine ⟨gfn f hm, gp, ?_, ?_⟩
  · rw [eb]
    refine ⟨⟨go _ m10, ?_⟩, gl_of (E f hm) false blk hw⟩
    refine ge_of (own := t.names ++ prs f) (kinds := t.kinds) (heads := []) ⟨?_, fun x hx => (E f hm).go x (by
      rcases List.mem_append.mp hx with z | z
      · exact List.mem_append_left _ z
      · exact List.mem_append_right _ (List.mem_append_left _ z)), gk, fun h hh => by cases hh⟩ he
    have := (E f hm).o
    rw [List.length_append, List.length_append] at this
    rw [List.length_append]
    omega
  · rw [eb]
    have e1 := dpB_eq blk
    show 1 + max (dpS (.set w10 e)) (dpIn blk) ≤ 6
    have : dpS (.set w10 e) = 0 := rfl
    omega

/-! ### k03: _law_text -/
abbrev sLTx : Stmt := topS 48
abbrev NLTx : List Str := ["_law_tree_here", "_law_lines_here", "_law_keep", "_law_name", "_law_params", "_law_block_here", "_law_words", "_law_param", "_law_line_here"]
abbrev PLTx : List Str := ["_law_tree_here"]
theorem scLTx : FnScope NLTx PLTx (defScope sLTx) := ⟨rfl, rfl, rfl, by decide +kernel, rfl, by decide +kernel, by decide +kernel⟩
def spLTx (K : PySem.W.Frag) (n : Nat) : Sp := fun vs H Q _ => ∃ (v : V) (t : Tr), vs = [v] ∧ Dp K H v (trD t) ∧ GT n t ∧ n ≤ 30 ∧ ∀ H', Same H H' → Q (.str (textS n t)) H'
section
variable {P : Program} {w : World} {K : PySem.W.Frag} {mg : Str → Option Value} {base : Heap}
theorem ok_LTx {n : Nat} {f : Addr} {fd : FuncData} (F : Fun K "_law_text" "_law_text" sLTx f fd) (GX : Has P w K mg base CX0 1 "_law_expression_text" PLXt (spLXt K)) (GL : Has P w K mg base CX0 (4 + n) "_law_lines" PLLs (spLLs K n)) : FnOk P w K mg base CX0 (4 + n + 1) f fd PLTx (spLTx K n) := by
  refine F.ok scLTx (fun vs H Q E h => ?_) (fun cdv A outer s H vs Q E hr h => ?_)
  · obtain ⟨v, t, rfl, _⟩ := h
    rfl
  · obtain ⟨v, t, rfl, hv, g, hn, k⟩ := h
    have hr1 := hr.mono (j := 1) (by omega)
    have hu := hu_of hr
    have hu0 : (A.deeper (PyProof.Rows.envOfC "_law_text" (defScope sLTx) s.heap.objs.size f cdv)).units < cLine := Nat.lt_of_succ_lt hu
    refine ⟨_, (pss_cons (ps_set (i := 1) scLTx.nd rfl (Or.inl rfl) (pe_lst pa_nil))
  (C8.pss_cut (ps_if (pt_cmpR (op_neE hu0) (pe_ix (r := rIxT K) ix_tup (pv 0) pe_int (fun _ _ => rfl)) (pe_tup pa_nil) (nomark _))
  (pss_one (ps_expr (pe_bm PySem.F.plainAttrs_list PySem.F.slot_list_append PySem.F.type_list_append mt_append (pv 1) (pa_cons (pe_op op_add_str pe_str (pe_join pe_str (pe_ix (r := rIxT K) ix_tup (pv 0) pe_int (fun _ _ => rfl)))) pa_nil))))
  pss_nil)
  (C8.pss_cut (ps_if (pt_cmpR (op_neE hu0) (pe_ix (r := rIxT K) ix_tup (pv 0) pe_int (fun _ _ => rfl)) (pe_tup pa_nil) (nomark _))
  (pss_one (ps_expr (pe_bm PySem.F.plainAttrs_list PySem.F.slot_list_append PySem.F.type_list_append mt_append (pv 1) (pa_cons (pe_op op_add_str pe_str (pe_join pe_str (pe_ix (r := rIxT K) ix_tup (pv 0) pe_int (fun _ _ => rfl)))) pa_nil))))
  pss_nil)
  (pss_cons (ps_set (i := 1) scLTx.nd rfl (Or.inl rfl) (pe_op op_cat (pv 1) (pe_lc (own := [("_law_keep", 2)]) (g := gName 2) (tt := tYes) rfl scLTx.nd (pi_tup (pe_ix (r := rIxT K) ix_tup (pv 0) pe_int (fun _ _ => rfl))) (blkOk_by (own := [("_law_keep", 2)]) (N := NLTx) (sc := (defScope sLTx)) (by decide +kernel)) (fun _ _ _ _ _ => (pg_name (i := 2) scLTx.nd rfl (Or.inl rfl))) (fun _ _ _ _ _ => pts_nil) (fun _ _ _ _ _ => (pe_op op_add_str pe_str (pe_callH GX hr1 rfl pass0 (pa_cons (pv 2) pa_nil)))))))
  (pss_cons (ps_for PassesOwn.never rfl (pi_tup (pe_ix (r := rIxT K) ix_tup (pv 0) pe_int (fun _ _ => rfl))) (pg_tup (by rfl) (pgs_cons (pg_name (i := 3) scLTx.nd rfl (Or.inl rfl)) (pgs_cons (pg_name (i := 4) scLTx.nd rfl (Or.inl rfl)) (pgs_cons (pg_name (i := 5) scLTx.nd rfl (Or.inl rfl)) pgs_nil))))
  (pss_cons (ps_setLc (i := 6) (own := [("_law_param", 7)]) (g := gName 7) (tt := tYes) rfl scLTx.nd rfl rfl (sw_true rfl rfl rfl (by decide +kernel)) (pi_tup (pv 4)) (blkOk_by (own := [("_law_param", 7)]) (N := NLTx) (sc := (defScope sLTx)) (by decide +kernel)) (fun _ _ _ _ _ => (pg_name (i := 7) scLTx.nd rfl (Or.inl rfl))) (fun _ _ _ _ _ => pts_nil) (fun _ _ _ _ _ => (pe_op op_add_str (pe_ifExp (pt_val (pe_ix (r := rIxT K) ix_tup (pv 7) pe_int (fun _ _ => rfl))) pe_str pe_str) (pe_ix (r := rIxT K) ix_tup (pv 7) pe_int (fun _ _ => rfl)))))
  (pss_cons (ps_expr (pe_bm PySem.F.plainAttrs_list PySem.F.slot_list_append PySem.F.type_list_append mt_append (pv 1) (pa_cons (pe_op op_add_str (pe_op op_add_str (pe_op op_add_str (pe_op op_add_str pe_str (pv 3)) pe_str) (pe_join pe_str (pv 6))) pe_str) pa_nil)))
  (pss_one (ps_set (i := 1) scLTx.nd rfl (Or.inl rfl) (pe_op op_cat (pe_op op_cat (pv 1) (pe_callH GL hr rfl pass0 (pa_cons (pv 5) (pa_cons pe_str pa_nil)))) (pe_lst (pa_cons pe_str pa_nil))))))))
  (pss_one (ps_ret (pe_join pe_str (pe_lc (own := [("_law_line_here", 8)]) (g := gName 8) (tt := tYes) rfl scLTx.nd (pi_list (pv 1)) (blkOk_by (own := [("_law_line_here", 8)]) (N := NLTx) (sc := (defScope sLTx)) (by decide +kernel)) (fun _ _ _ _ _ => (pg_name (i := 8) scLTx.nd rfl (Or.inl rfl))) (fun _ _ _ _ _ => pts_nil) (fun _ _ _ _ _ => (pe_op op_add_str (pv 8) pe_str))))))))))), ?_⟩
    have e24 : sizeLine = 2 ^ 24 := rfl
    have lg : ("globals " : Str).length = 8 := by decide +kernel
    have lk6 : ("kinds " : Str).length = 6 := by decide +kernel
    have lk : ("keep " : Str).length = 5 := by decide +kernel
    have lnl : ("\n" : Str).length = 1 := by decide +kernel
    have l4 : ("def " : Str).length = 4 := by decide +kernel
    have l1 : ("(" : Str).length = 1 := by decide +kernel
    have l3 : (") {" : Str).length = 3 := by decide +kernel
    have la : ("&" : Str).length = 1 := by decide +kernel
    have l0 : ("" : Str).length = 0 := by decide +kernel
    have hcnt := tree_cnt g
    have htx := text_len g hn
    have hstr := tree_str g hn
    have hv : Dp K H v (.tuple [nmD t.names, nmD t.kinds, .tuple (t.keeps.map exD), .tuple (t.fns.map fnD)]) := hv
    obtain ⟨a, xs, rfl, hq, hd⟩ := hv.tupInv
    obtain ⟨x0, x1, x2, x3, rfl, d0, d1, d2, d3⟩ := hd.four
    obtain ⟨na, rfl, hna⟩ := nm_inv d0
    obtain ⟨ka, rfl, hka⟩ := nm_inv d1
    obtain ⟨pa, ps, rfl, hpa, hpd⟩ := d2.tupInv
    obtain ⟨fa, fs, rfl, hfa, hfd⟩ := d3.tupInv
    have pp := DpAll.map (f := exD) hpd
    have pf := DpAll.map (f := fnD) hfd
    have lp := Paired.length pp
    have lf := Paired.length pf
    have lkeep := g.kp.1
    have lfns := g.fn.1
    refine ⟨(by show 0 ≤ sizeLine; decide), fun X hX => ?_⟩
    have s1 := same_new (o := .lst []) hX
    have em : ∀ ns : List Str, (ns.map V.str).isEmpty = ns.isEmpty := fun ns => by cases ns <;> rfl
    have put : ∀ {H' : Hp} {o : HO} {r : Addr}, H r = none → Same H H' → Same H (upd H' r o) := fun nr s' b o z => by
      rw [upd_ne (ne_of_none z nr)]
      exact s' _ _ z
    refine ⟨fun σ H' => σ = [some (.ref a), some (.ref X), none, none, none, none, none, none, none] ∧ Same H H' ∧ H' X = some (.lst ((rowL "globals " t.names).map V.str)), ?_, ?_⟩
    · have hrw := row_len g.nm
      have hjn := join_len " " t.names
      refine ⟨_, rfl, a, _, _, _, rfl, rfl, SqT.same s1 hq, rfl, (by show 0 ≤ sizeLine; decide), fun u hu => ?_⟩
      have su := same_new (o := .tup []) hu
      have s1u := s1.trans su
      have uX : u ≠ X := fun z => by rw [z, upd_same] at hu; cases hu
      have eXu : upd (upd H X (.lst [])) u (.tup []) X = some (.lst []) := su _ _ upd_same
      refine ⟨na, u, t.names.map V.str, rfl, rfl, SqT.same s1u hna, SqT.of upd_same, _, rfl, ?_⟩
      by_cases hE : t.names.isEmpty = true
      · refine iteE (by rw [em, hE]; rfl) ?_
        refine ⟨rfl, s1u, ?_⟩
        rw [eXu, show rowL "globals " t.names = [] from if_pos hE]
        rfl
      · have hE := Bool.eq_false_iff.mpr hE
        refine iteS (by rw [em, hE]; rfl) ?_
        refine ⟨_, rfl, .inl ⟨rfl, _, SqL.of eXu⟩, ⟨_, rfl⟩, _, rfl, a, _, _, _, rfl, rfl, SqT.same s1u hq, rfl, _, na, t.names, rfl, rfl, .inr (SqT.same s1u hna), by omega, _, _, rfl, rfl, by rw [lg, e24]; omega, X, _, _, rfl, rfl, eXu, small10 (by show 0 ≤ 10000; decide), rfl, put hX s1u, ?_⟩
        rw [upd_same, row_step (K := K) hE]
        rfl
    rintro σ H1 ⟨rfl, s2, eX1⟩
    refine ⟨fun σ H' => σ = [some (.ref a), some (.ref X), none, none, none, none, none, none, none] ∧ Same H H' ∧ H' X = some (.lst ((rowL "globals " t.names ++ rowL "kinds " t.kinds).map V.str)), ?_, ?_⟩
    · have hrw := row_len g.kd
      have hjn := join_len " " t.kinds
      refine ⟨_, rfl, a, _, _, _, rfl, rfl, SqT.same s2 hq, rfl, (by show 0 ≤ sizeLine; decide), fun u hu => ?_⟩
      have su := same_new (o := .tup []) hu
      have s2u := s2.trans su
      have eXu := su _ _ eX1
      refine ⟨ka, u, t.kinds.map V.str, rfl, rfl, SqT.same s2u hka, SqT.of upd_same, _, rfl, ?_⟩
      by_cases hE : t.kinds.isEmpty = true
      · refine iteE (by rw [em, hE]; rfl) ?_
        refine ⟨rfl, s2u, ?_⟩
        rw [eXu, show rowL "kinds " t.kinds = [] from if_pos hE, List.append_nil]
      · have hE := Bool.eq_false_iff.mpr hE
        refine iteS (by rw [em, hE]; rfl) ?_
        have l1 : (rowL "globals " t.names).length ≤ 1 := by
          unfold rowL
          split
          · exact Nat.zero_le _
          · exact Nat.le_refl _
        refine ⟨_, rfl, .inl ⟨rfl, _, SqL.of eXu⟩, ⟨_, rfl⟩, _, rfl, a, _, _, _, rfl, rfl, SqT.same s2u hq, rfl, _, ka, t.kinds, rfl, rfl, .inr (SqT.same s2u hka), by omega, _, _, rfl, rfl, by rw [lk6, e24]; omega, X, _, _, rfl, rfl, eXu, small10 (by rw [List.length_map]; omega), rfl, put hX s2u, ?_⟩
        rw [upd_same, row_step (K := K) (z := "kinds ") hE, List.map_append]
        rfl
    rintro σ H2 ⟨rfl, s3, eX2⟩
    have htl : (treeL n t).length = (rowL "globals " t.names ++ rowL "kinds " t.kinds).length + (t.keeps.length + (t.fns.flatMap (fnL n)).length) := by
      unfold treeL
      simp only [List.length_append, List.length_map]
      omega
    refine ⟨_, rfl, _, rfl, a, _, _, _, rfl, rfl, SqT.same s3 hq, rfl, pa, rfl, ⟨_, SqT.same s3 hpa⟩, fun D hD => ?_⟩
    refine lc_map (walk_tup (K := K) (a := pa) (xs := ps)) (fun i => V.str ((t.keeps.map fun e => "keep " ++ exprS e.c e.ts).getD i "")) hD (by omega) (fun H' s' => SqT.same (s3.trans s') hpa) ?_ ?_
    · rintro i u H4 H5 k1 hi s4 ⟨rfl, hu⟩ kk
      obtain ⟨e, he, de⟩ := Paired.at pp hu
      have ge := g.kp.2 e (List.mem_of_getElem? he)
      have le := expr_len ge
      have ee : (t.keeps.map fun e => "keep " ++ exprS e.c e.ts).getD i "" = "keep " ++ exprS e.c e.ts := by
        rw [List.getD_eq_getElem?_getD, List.getElem?_map, he]
        rfl
      rw [ee] at kk
      refine ⟨rfl, _, rfl, _, e, rfl, de.same (s3.trans s4), ge, fun H6 s6 => ⟨_, _, rfl, rfl, by rw [lk, e24]; omega, kk _ s6⟩⟩
    · intro H4 s4 eD
      have eD : H4 D = some (.lst ((t.keeps.map fun e => "keep " ++ exprS e.c e.ts).map V.str)) := by
        rw [eD, lp]
        congr 2
        rw [range_map t.keeps (fun e => V.str ("keep " ++ exprS e.c e.ts)) _ fun i x hx => by
          show V.str ((t.keeps.map _).getD i "") = _
          rw [List.getD_eq_getElem?_getD, List.getElem?_map, hx]
          rfl, List.map_map]
        rfl
      have s34 := s3.trans s4
      refine ⟨X, D, _, _, rfl, rfl, s4 _ _ eX2, eD, by rw [List.length_map, List.length_map, List.length_map, e24]; omega, fun M0 hM0 => ?_⟩
      have s5 := same_new (o := .lst ((rowL "globals " t.names ++ rowL "kinds " t.kinds).map V.str ++ (t.keeps.map fun e => "keep " ++ exprS e.c e.ts).map V.str)) hM0
      have nM0 : H M0 = none := none_same s34 hM0
      have s05 := s34.trans s5
      have eX5 : upd H4 M0 (.lst ((rowL "globals " t.names ++ rowL "kinds " t.kinds).map V.str ++ (t.keeps.map fun e => "keep " ++ exprS e.c e.ts).map V.str)) M0 = some (.lst ((rowL "globals " t.names ++ rowL "kinds " t.kinds ++ t.keeps.map fun e => "keep " ++ exprS e.c e.ts).map V.str)) := by
        rw [upd_same]
        simp only [List.map_append]
      generalize upd H4 M0 (.lst ((rowL "globals " t.names ++ rowL "kinds " t.kinds).map V.str ++ (t.keeps.map fun e => "keep " ++ exprS e.c e.ts).map V.str)) = H5 at *
      generalize eR : rowL "globals " t.names ++ rowL "kinds " t.kinds ++ t.keeps.map (fun e => "keep " ++ exprS e.c e.ts) = R at *
      have htl2 : treeL n t = R ++ t.fns.flatMap (fnL n) := by
        rw [← eR]
        unfold treeL
        simp only [List.append_assoc]
      refine ⟨_, rfl, a, _, _, _, rfl, rfl, SqT.same s05 hq, rfl, fa, rfl, ⟨_, SqT.same s05 hfa⟩, for_it (walk_tup (K := K) (a := fa) (xs := fs)) (fun i σ H' => Same H H' ∧ ∃ (q : Addr) (x2 x3 x4 x5 x6 x7 x8 : Option V), σ = [some (.ref a), some (.ref q), x2, x3, x4, x5, x6, x7, x8] ∧ H q = none ∧ H' q = some (.lst ((R ++ (t.fns.take i).flatMap (fnL n)).map V.str))) ⟨s05, M0, _, _, _, _, _, _, _, rfl, nM0, by rw [eX5, List.take_zero, List.flatMap_nil, List.append_nil]⟩ (fun i σ H' _ h' => SqT.same h'.1 hfa) ?_ ?_⟩
      · rintro i x σ H6 H7 hil ⟨s6, q, x2, x3, x4, x5, x6, x7, x8, rfl, nq, eq6⟩ ⟨rfl, hx⟩
        obtain ⟨fn, hfn, dfn⟩ := Paired.at pf hx
        have mfn := List.mem_of_getElem? hfn
        obtain ⟨g1, g2, g3, hdp⟩ := g.fn.2 fn mfn
        have szj : szB fn.b ≤ 900 := by
          have := sum_mem (l := t.fns.map fun f => szB f.b) (List.mem_map.mpr ⟨fn, mfn, rfl⟩)
          have := g.sz
          omega
        have et : R ++ (t.fns.take (i + 1)).flatMap (fnL n) = (R ++ (t.fns.take i).flatMap (fnL n)) ++ fnL n fn := by
          rw [take_snoc hfn, List.flatMap_append, List.flatMap_cons, List.flatMap_nil, List.append_nil, List.append_assoc]
        have lt : (R ++ (t.fns.take i).flatMap (fnL n)).length + (fnL n fn).length ≤ 200 := by
          have : treeL n t = (R ++ (t.fns.take (i + 1)).flatMap (fnL n)) ++ (t.fns.drop (i + 1)).flatMap (fnL n) := by
            rw [htl2, List.append_assoc, ← List.flatMap_append, List.take_append_drop]
          have c := congrArg List.length this
          rw [List.length_append, et, List.length_append] at c
          omega
        generalize eL0 : R ++ (t.fns.take i).flatMap (fnL n) = L0 at *
        have hv : Dp K H x (.tuple [.str fn.name, .tuple (fn.ps.map prD), blD fn.b]) := dfn
        obtain ⟨c, zs, rfl, hc, hcd⟩ := hv.tupInv
        obtain ⟨y1, y2, y3, rfl, h1, h2, h3⟩ := hcd.three
        rw [h1.strInv] at hc
        obtain ⟨b, ys, rfl, hb, hbd⟩ := h2.tupInv
        have px := DpAll.map (f := prD) hbd
        have lx := Paired.length px
        have lps := g2.1
        have hsum := pars_sum g2
        have hjn := join_len ", " (fn.ps.map parS)
        have lnm := g1.2
        have lfn : (fnL n fn).length = 1 + ((linB n "  " fn.b).length + 1) := by
          show (fnHead fn :: (linB n "  " fn.b ++ [("}" : Str)])).length = _
          rw [List.length_cons, List.length_append, List.length_singleton]
          omega
        refine ⟨c, _, rfl, SqT.same s6 hc, rfl, _, _, rfl, _, _, rfl, _, _, rfl, rfl, ?_⟩
        refine ⟨_, rfl, b, rfl, ⟨_, SqT.same s6 hb⟩, fun D7 hD7 => ?_⟩
        refine lc_map (walk_tup (K := K) (a := b) (xs := ys)) (fun i => V.str ((fn.ps.map parS).getD i "")) hD7 (by omega) (fun H' s' => SqT.same (s6.trans s') hb) ?_ ?_
        · rintro j u H8 H9 k1 hj s8 ⟨rfl, hu⟩ kk
          obtain ⟨pr, hpr, dpr⟩ := Paired.at px hu
          have dpr : Dp K H u (.tuple [.str pr.1, .bool pr.2]) := dpr
          obtain ⟨e, zs, rfl, he, hed⟩ := dpr.tupInv
          obtain ⟨m1, m2, rfl, dm1, dm2⟩ := hed.two
          rw [dm1.strInv, Dp.blInv dm2] at he
          have gpr := (g2.2 pr (List.mem_of_getElem? hpr)).2
          have ee : (fn.ps.map parS).getD j "" = parS pr := by
            rw [List.getD_eq_getElem?_getD, List.getElem?_map, hpr]
            rfl
          rw [ee] at kk
          have se := SqT.same (s6.trans s8) he
          refine ⟨rfl, _, rfl, e, _, _, _, rfl, rfl, se, rfl, pr.2, rfl, ?_⟩
          cases hb2 : pr.2 with
          | true =>
            rw [hb2] at se
            refine iteS rfl ⟨_, rfl, e, _, _, _, rfl, rfl, se, rfl, _, _, rfl, rfl, by rw [la, e24]; omega, ?_⟩
            have := kk _ (Same.refl _)
            unfold parS at this
            rw [hb2, if_pos rfl] at this
            exact this
          | false =>
            rw [hb2] at se
            refine iteE rfl ⟨_, rfl, e, _, _, _, rfl, rfl, se, rfl, _, _, rfl, rfl, by rw [l0, e24]; omega, ?_⟩
            have := kk _ (Same.refl _)
            unfold parS at this
            rw [hb2, if_neg Bool.false_ne_true] at this
            rw [str_emp, empty_add]
            exact this
        · intro H8 s8 eD
          have eD : H8 D7 = some (.lst ((fn.ps.map parS).map V.str)) := by
            rw [eD, lx]
            congr 2
            rw [range_map fn.ps (fun p => V.str (parS p)) _ fun i x hx => by
              show V.str ((fn.ps.map parS).getD i "") = _
              rw [List.getD_eq_getElem?_getD, List.getElem?_map, hx]
              rfl, List.map_map]
            rfl
          have eq8 := s8 _ _ eq6
          have s08 := s6.trans s8
          refine ⟨_, rfl, .inl ⟨rfl, _, SqL.of eq8⟩, _, rfl, _, _, rfl, rfl, by rw [l4, e24]; omega, _, _, rfl, rfl, by rw [len_add, l4, l1, e24]; omega, ⟨_, rfl⟩, _, rfl, _, D7, fn.ps.map parS, rfl, rfl, .inl (SqL.of eD), by omega, _, _, rfl, rfl, by rw [len_add, len_add, l4, l1, e24]; omega, _, _, rfl, rfl, by rw [len_add, len_add, len_add, l4, l1, l3, e24]; omega, q, _, _, rfl, rfl, eq8, small10 (by rw [List.length_map]; omega), ?_⟩
          rw [show ("def " ++ fn.name ++ "(" ++ Txt.join ", " (fn.ps.map parS) ++ ") {" : Str) = fnHead fn from rfl]
          have s9 := put (o := .lst (L0.map V.str ++ [V.str (fnHead fn)])) nq s08
          have e9 : upd H8 q (.lst (L0.map V.str ++ [V.str (fnHead fn)])) q = some (.lst ((L0 ++ [fnHead fn]).map V.str)) := by
            rw [upd_same, List.map_append]
            rfl
          generalize upd H8 q (.lst (L0.map V.str ++ [V.str (fnHead fn)])) = H9 at *
          refine ⟨_, rfl, _, rfl, y3, "  ", fn.b, rfl, h3.same s9, g3, hdp, szj, by rw [two_len]; omega, fun p H10 s10 np ep => ?_⟩
          refine ⟨q, p, _, _, rfl, rfl, s10 _ _ e9, ep, by rw [List.length_map, List.length_map, List.length_append, e24]; show L0.length + 1 + _ ≤ _; omega, fun M hM => ⟨(by show 1 ≤ sizeLine; decide), fun u hu => ?_⟩⟩
          have s11 := same_new (o := .lst ((L0 ++ [fnHead fn]).map V.str ++ (linB n "  " fn.b).map V.str)) hM
          have s12 := same_new (o := .lst [V.str "}"]) hu
          refine ⟨M, u, _, _, rfl, rfl, s12 _ _ upd_same, upd_same, by rw [List.length_append, List.length_map, List.length_map, List.length_append, e24]; show L0.length + 1 + _ + 1 ≤ _; omega, fun R2 hR2 => ?_⟩
          have s012 := ((s9.trans s10).trans s11).trans s12
          have s13 := same_new (o := .lst (((L0 ++ [fnHead fn]).map V.str ++ (linB n "  " fn.b).map V.str) ++ [V.str "}"])) hR2
          refine ⟨s012.trans s13, R2, _, _, _, _, _, _, _, rfl, none_same s012 hR2, ?_⟩
          rw [upd_same, et]
          show _ = some (HO.lst ((L0 ++ (fnHead fn :: (linB n "  " fn.b ++ [("}" : Str)]))).map V.str))
          simp only [List.map_append, List.map_cons, List.map_nil, List.append_assoc, List.cons_append, List.nil_append]
      · rintro σ H6 ⟨s6, q, x2, x3, x4, x5, x6, x7, x8, rfl, nq, eX6⟩
        rw [lf, List.take_length, ← htl2] at eX6
        refine ⟨⟨_, rfl⟩, _, rfl, q, rfl, ⟨_, SqL.of eX6⟩, fun D2 hD2 => lc_map (walk_list (K := K) (a := q) (xs := (treeL n t).map V.str)) (fun i => V.str ((treeL n t).getD i "" ++ "\n")) hD2 (by rw [List.length_map]; omega) (fun H' s' => SqL.of (s' _ _ eX6)) ?_ ?_⟩
        · rintro i x H7 H8 k7 hi s7 ⟨rfl, hx⟩ kx
          rw [List.getElem?_map] at hx
          obtain ⟨l, hl, rfl⟩ : ∃ l, (treeL n t)[i]? = some l ∧ x = V.str l := by
            cases q : (treeL n t)[i]? with
            | none => rw [q] at hx; cases hx
            | some l => rw [q] at hx; exact ⟨l, rfl, (Option.some.inj hx).symm⟩
          have e : (treeL n t).getD i "" = l := by
            rw [List.getD_eq_getElem?_getD, hl]
            rfl
          rw [e] at kx
          have := hstr l (List.mem_of_getElem? hl)
          exact ⟨rfl, _, rfl, _, _, rfl, rfl, by rw [lnl, e24]; omega, kx _ (Same.refl _)⟩
        · intro H7 s7 eD2
          have eD2 : H7 D2 = some (.lst (((treeL n t).map fun l => l ++ ("\n" : Str)).map V.str)) := by
            rw [eD2, List.length_map]
            congr 2
            rw [range_map (treeL n t) (fun l => V.str (l ++ "\n")) _ fun i x hx => by
              show V.str ((treeL n t).getD i "" ++ "\n") = _
              rw [List.getD_eq_getElem?_getD, hx]
              rfl, List.map_map]
            rfl
          exact ⟨_, D2, (treeL n t).map fun l => l ++ ("\n" : Str), rfl, rfl, .inl (SqL.of eD2), Nat.le_trans htx.1 (by decide), k H7 (s6.trans s7)⟩
end

/-! ### for sign in '..': text = text.replace(' ' + sign, sign).replace(sign + ' ', sign): the texts' tokens are told -/
section
variable {X : Cx}
/-- the slot's own value -/
def SlotIs (X : Cx) (s : Shared) (x : Str) (u : Value) : Prop := ∃ m, s.heap.Ns X.env.locals m ∧ m x = some u
theorem store_is {M : Model} {A : Around} {E : Value → Shared → Prop} {pins : List (Addr × Obj)} {σ : L2.St} {H : Hp} {s : Shared} {i : Nat} {x : Str} {v : V} {u : Value} {Q : Unit → Shared → Prop} (I : Inv X pins σ H s) (hN : X.N.Nodup) (hi : X.N[i]? = some x) (hk : X.env.kindOf x = some .local) (r : RelV v u)
    (h : ∀ s', Inv X pins (σ.set i (some v)) H s' → SlotIs X s' x u → Heap.SameBut X.env.locals s.heap s'.heap → s'.toks = s.toks + 1 → Q () s') : wpAny M A (storeName X.env x u) Q E s := by
  obtain ⟨m, hn, hl⟩ := id I.loc
  have hiσ : i < σ.length := by
    rw [I.len]
    exact (List.getElem?_eq_some_iff.mp hi).1
  have cne := I.cne
  obtain ⟨oL, _, _, hoL, _⟩ := id hn
  have low : ∀ {b : Addr} {o : Obj}, X.s_0.heap.get? b = some o → b ≠ X.env.locals := fun e => Nat.ne_of_lt (Nat.lt_of_lt_of_le (Heap.lt_size e) I.ok.above)
  refine wpAny_storeName_local hk hn (fun h' hn' hs => h _ ?_ ⟨_, hn', by simp⟩ hs rfl) (by rw [I.ok.kind]; rfl)
  exact {
    ok := I.ok
    os := I.os
    bare := I.bare
    base := {
      keep := fun b o e n hb hx => (hs.2 b (low e)).trans (I.base.keep b o e n hb hx)
      slot := fun b o e n hb hx => let ⟨sl, q⟩ := I.base.slot b o e n hb hx; ⟨sl, (hs.2 b (low e)).trans q⟩
      free := I.base.free
      there := fun b o e hx => let ⟨o', q⟩ := I.base.there b o e hx; ⟨o', (hs.2 b (low e)).trans q⟩
      tups := I.base.tups
      frzs := I.base.frzs
      tbls := I.base.tbls }
    loc := by
      refine ⟨_, hn', fun j y v' e1 e2 e3 => ?_⟩
      by_cases hj : j = i
      · subst hj
        rw [hi] at e1
        cases e1
        rw [List.getElem?_set_self hiσ] at e2
        cases e2
        exact ⟨u, r, .inl ⟨hk, if_pos rfl⟩⟩
      · rw [List.getElem?_set_ne (Ne.symm hj)] at e2
        obtain ⟨u', r', q⟩ := hl j y v' e1 e2 e3
        have yx : y ≠ x := fun e => hj (nodup_ix hN e1 (e ▸ hi))
        refine ⟨u', r', ?_⟩
        rcases q with ⟨k, e⟩ | ⟨k, c, e, z⟩
        · exact .inl ⟨k, (if_neg yx).trans e⟩
        · exact .inr ⟨k, c, e, z.sameBut hs (cne y c e)⟩
    cell := fun y c e => let ⟨w', z⟩ := I.cell y c e; ⟨w', z.sameBut hs (cne y c e)⟩
    free := I.free
    freeC := I.freeC
    pin := fun p hp => let ⟨e, n, ne, nf, d⟩ := I.pin p hp; ⟨(hs.2 p.1 ne).trans e, n, ne, nf, d⟩
    hok := fun b ob e => by
      have nl : ∀ {c : Addr} {w' : HO}, H c = some w' → c ≠ X.env.locals := fun q z => by rw [z, I.free] at q; cases q
      refine (I.hok b ob e).stay (fun c w' hc q => (hs.2 c ?_).trans q) (fun _ q => q) fun _ _ q => q
      rcases hc with z | z
      · rw [z]; exact nl e
      · exact nl z
    len := by rw [List.length_set]; exact I.len }
def rp (c z : Str) : Str := Txt.replace (Txt.replace z (" " ++ c) c) (c ++ " ") c
theorem sp_ne {c : Nat} : ((" " ++ (⟨#[c]⟩ : Str) : Str) == (⟨#[c]⟩ : Str)) = false ∧ (((⟨#[c]⟩ : Str) ++ " " : Str) == (⟨#[c]⟩ : Str)) = false := by
  have l1 : ∀ a b : Str, a.cps.size ≠ b.cps.size → (a == b) = false := fun a b h => beq_eq_false_iff_ne.mpr fun e => h (by rw [e])
  exact ⟨l1 _ _ (by show (#[32] ++ #[c] : Array Nat).size ≠ 1; simp), l1 _ _ (by show (#[c] ++ #[32] : Array Nat).size ≠ 1; simp)⟩
/-- one turn's text -/
theorem tight_body {sg tg : Str} {p4 p5 p6 p7 p8 p9 p10 p11 p12 p13 p14 p15 p16 : Pos} {k2 k3 : Nat} {pins : List (Addr × Obj)} {σ : L2.St} {H : Hp} {s : Shared} {c : Nat} {t : Tok} {z : Str} {Q : Value → Shared → Prop} {E : Value → Shared → Prop} (I : Inv X pins σ H s)
    (hks : X.env.kindOf sg = some .local) (hkt : X.env.kindOf tg = some .local) (hd1 : (sg == ("__debug__" : Str)) = false) (hd2 : (tg == ("__debug__" : Str)) = false) (sl : SlotIs X s sg (.str ⟨#[c]⟩ t)) (ht0 : t ≠ 0) (ht1 : t < s.toks) (tz : ∃ tk, SlotIs X s tg (.str z tk)) (hz : z.length ≤ 100000)
    (b1 : attributeBase (.Call (.Attribute (.Name tg p4) "replace" p5) [.BinOp (.Constant (.str " ") k2 p6) .Add (.Name sg p7) p8, .Name sg p9] [] p10) "replace" X.env (eval (.Call (.Attribute (.Name tg p4) "replace" p5) [.BinOp (.Constant (.str " ") k2 p6) .Add (.Name sg p7) p8, .Name sg p9] [] p10) X.env) = eval (.Call (.Attribute (.Name tg p4) "replace" p5) [.BinOp (.Constant (.str " ") k2 p6) .Add (.Name sg p7) p8, .Name sg p9] [] p10) X.env)
    (b2 : attributeBase (.Name tg p4) "replace" X.env (eval (.Name tg p4) X.env) = eval (.Name tg p4) X.env) (l1 : (p11.endLine == p16.line) = true) (l2 : (p5.endLine == p10.line) = true)
    (h : ∀ tk n, Q (.str (rp ⟨#[c]⟩ z) tk) { s with toks := n }) :
    wpAny (model X.prog X.w) X.A (eval (.Call (.Attribute (.Call (.Attribute (.Name tg p4) "replace" p5) [.BinOp (.Constant (.str " ") k2 p6) .Add (.Name sg p7) p8, .Name sg p9] [] p10) "replace" p11) [.BinOp (.Name sg p12) .Add (.Constant (.str " ") k3 p13) p14, .Name sg p15] [] p16) X.env) Q E s := by
  obtain ⟨m, hn, hv⟩ := sl
  obtain ⟨tk, m2, hn2, hv2⟩ := tz
  have one : (⟨#[c]⟩ : Str).length = 1 := rfl
  have sp1 : (" " : Str).length = 1 := by decide +kernel
  have zl : ∀ {y : Str}, y.length ≤ 300000 → y.length + (y.length + 1) * (⟨#[c]⟩ : Str).length ≤ 16777216 := fun h => by rw [one]; omega
  have rl := TK.replace_len z (" " ++ (⟨#[c]⟩ : Str)) ⟨#[c]⟩
  rw [one] at rl
  refine Call_method2 b1 rfl l1 ?_
  refine Call_method2 b2 rfl l2 (wpAny_Name (wpAny_loadName_local I.ok.kind hkt hn2 hv2 ?_) hd2)
  refine ⟨"str", _, PySem.F.plainAttrs_str, PySem.F.slot_str_replace, PySem.F.type_str_replace, typeIs_str _ _ _, (fun _ e => nomatch e), Calls.callWith_builtin rfl (Calls.evalArgs_plain (Calls.spliced_cons ?_))⟩
  refine wpAny_BinOp (Calls.Constant_str (wpAny_Name (wpAny_loadName_local I.ok.kind hks hn hv ?_) hd1))
  refine PySem.P.add_str ?_
  rw [if_neg (by rw [sp1]; decide), if_neg (by rw [one]; decide)]
  refine ⟨by rw [str_app_len, sp1, one]; decide, ?_⟩
  refine Calls.spliced_cons (wpAny_Name (wpAny_loadName_local I.ok.kind hks hn hv (Calls.spliced_nil ?_)) hd1)
  refine wpAny_with_toks (n := s.toks) (by show s.toks ≤ s.toks + 1 + 1; omega) (PySem.SC.replace ?_ ht0 ?_ sp_ne.1 (zl (by omega)) fun t1 n1 hn1 => ?_)
  · show s.toks + 1 ≠ 0
    omega
  · exact Nat.ne_of_gt (Nat.lt_succ_of_lt ht1)
  have hn1 : s.toks ≤ n1 := hn1
  refine ⟨"str", _, PySem.F.plainAttrs_str, PySem.F.slot_str_replace, PySem.F.type_str_replace, typeIs_str _ _ _, (fun _ e => nomatch e), Calls.callWith_builtin rfl (Calls.evalArgs_plain (Calls.spliced_cons ?_))⟩
  refine wpAny_BinOp (wpAny_Name (wpAny_loadName_local (s := { s with toks := n1 }) I.ok.kind hks hn hv (Calls.Constant_str ?_)) hd1)
  refine PySem.P.add_str ?_
  rw [if_neg (by rw [one]; decide), if_neg (by rw [sp1]; decide)]
  refine ⟨by rw [str_app_len, sp1, one]; decide, ?_⟩
  refine Calls.spliced_cons (wpAny_Name (wpAny_loadName_local (s := { s with toks := n1 + 1 + 1 }) I.ok.kind hks hn hv (Calls.spliced_nil ?_)) hd1)
  refine PySem.SC.replace ?_ ht0 ?_ sp_ne.2 (zl (by omega)) fun t2 n2 => h t2 n2
  · show n1 + 1 ≠ 0
    omega
  · exact Nat.ne_of_gt (Nat.lt_succ_of_lt (Nat.lt_of_lt_of_le ht1 hn1))
def par (k : Nat) : Str := if k = 0 then "(" else ")"
def stT (i j : Nat) (σ : L2.St) (z : Str) : Nat → L2.St × Str
  | 0 => (σ, z)
  | k + 1 => (((stT i j σ z k).1.set i (some (.str (par k)))).set j (some (.str (rp (par k) (stT i j σ z k).2))), rp (par k) (stT i j σ z k).2)
def tTight (i j : Nat) : TS := fun D σ H => ∃ z, σ[j]? = some (some (.str z)) ∧ z.length ≤ 20000 ∧ D.nx (stT i j σ z 2).1 H
theorem rp_len (c : Nat) (z : Str) : (rp ⟨#[c]⟩ z).length ≤ 4 * z.length + 3 := by
  have h1 := TK.replace_len z (" " ++ (⟨#[c]⟩ : Str)) ⟨#[c]⟩
  have h2 := TK.replace_len (Txt.replace z (" " ++ (⟨#[c]⟩ : Str)) ⟨#[c]⟩) ((⟨#[c]⟩ : Str) ++ " ") ⟨#[c]⟩
  have one : (⟨#[c]⟩ : Str).length = 1 := rfl
  rw [one] at h1 h2
  unfold rp
  omega
theorem par_sign (k : Nat) (hk : k < 2) : ∃ c, par k = ⟨#[c]⟩ ∧ ("()" : Str).cps[k]? = some c := by
  rcases (show k = 0 ∨ k = 1 by omega) with rfl | rfl
  · exact ⟨40, by decide +kernel, by decide +kernel⟩
  · exact ⟨41, by decide +kernel, by decide +kernel⟩
theorem slot_at {pins : List (Addr × Obj)} {σ : L2.St} {H : Hp} {s : Shared} {j : Nat} {x z : Str} (I : Inv X pins σ H s) (hj : X.N[j]? = some x) (hk : X.env.kindOf x = some .local) (hv : Vis X.env.scope x) (e : σ[j]? = some (some (.str z))) : ∃ tk, SlotIs X s x (.str z tk) := by
  obtain ⟨m, hn, hl⟩ := I.loc
  obtain ⟨u, r, q⟩ := hl j x _ hj e hv
  obtain ⟨tk, rfl⟩ := r
  rcases q with ⟨_, e⟩ | ⟨k | k, _⟩
  · exact ⟨tk, m, hn, e⟩
  · rw [hk] at k; cases k
  · rw [hk] at k; cases k
theorem ps_tight {i j : Nat} {sg tg : Str} {p1 p2 p3 p4 p5 p6 p7 p8 p9 p10 p11 p12 p13 p14 p15 p16 p17 p18 : Pos} {k1 k2 k3 : Nat} (hN : X.N.Nodup) (hi : X.N[i]? = some sg) (hj : X.N[j]? = some tg) (hij : i ≠ j) (hks : X.env.kindOf sg = some .local) (hkt : X.env.kindOf tg = some .local) (hvt : Vis X.env.scope tg) (hc : X.calm = true) (hp : PassesOwn (model X.prog X.w) X.A X.env X.xe)
    (hd1 : (sg == ("__debug__" : Str)) = false := by decide) (hd2 : (tg == ("__debug__" : Str)) = false := by decide)
    (b1 : attributeBase (.Call (.Attribute (.Name tg p4) "replace" p5) [.BinOp (.Constant (.str " ") k2 p6) .Add (.Name sg p7) p8, .Name sg p9] [] p10) "replace" X.env (eval (.Call (.Attribute (.Name tg p4) "replace" p5) [.BinOp (.Constant (.str " ") k2 p6) .Add (.Name sg p7) p8, .Name sg p9] [] p10) X.env) = eval (.Call (.Attribute (.Name tg p4) "replace" p5) [.BinOp (.Constant (.str " ") k2 p6) .Add (.Name sg p7) p8, .Name sg p9] [] p10) X.env := by rfl)
    (b2 : attributeBase (.Name tg p4) "replace" X.env (eval (.Name tg p4) X.env) = eval (.Name tg p4) X.env := by rfl) (l1 : (p11.endLine == p16.line) = true := by rfl) (l2 : (p5.endLine == p10.line) = true := by rfl)
    (hsw : swapsWith (.Call (.Attribute (.Call (.Attribute (.Name tg p4) "replace" p5) [.BinOp (.Constant (.str " ") k2 p6) .Add (.Name sg p7) p8, .Name sg p9] [] p10) "replace" p11) [.BinOp (.Name sg p12) .Add (.Constant (.str " ") k3 p13) p14, .Name sg p15] [] p16) (some (.Name tg p3)) p17.line X.env = pure false := by rfl) :
    PS X (.For (.Name sg p1) (.Constant (.str "()") k1 p2) [.Assign [.Name tg p3] (.Call (.Attribute (.Call (.Attribute (.Name tg p4) "replace" p5) [.BinOp (.Constant (.str " ") k2 p6) .Add (.Name sg p7) p8, .Name sg p9] [] p10) "replace" p11) [.BinOp (.Name sg p12) .Add (.Constant (.str " ") k3 p13) p14, .Name sg p15] [] p16) p17] [] p18) (tTight i j) := by
  refine ⟨fun pins s σ H D I h => ?_⟩
  obtain ⟨z, ez, hz, q⟩ := h
  have jl : j < σ.length := (List.getElem?_eq_some_iff.mp ez).1
  have jk : ∀ k, (stT i j σ z k).1[j]? = some (some (.str (stT i j σ z k).2)) ∧ j < (stT i j σ z k).1.length := fun k => by
    induction k with
    | zero => exact ⟨ez, jl⟩
    | succ k ih =>
      have l : j < ((stT i j σ z k).1.set i (some (.str (par k)))).length := by rw [List.length_set]; exact ih.2
      exact ⟨List.getElem?_set_self l, by show j < (List.set _ _ _).length; rw [List.length_set]; exact l⟩
  have zk : ∀ k, k < 2 → (stT i j σ z k).2.length ≤ 100000 := fun k hk => by
    rcases (show k = 0 ∨ k = 1 by omega) with rfl | rfl
    · exact Nat.le_trans hz (by decide)
    · obtain ⟨c, ec, _⟩ := par_sign 0 (by decide)
      show (rp (par 0) z).length ≤ 100000
      rw [ec]
      exact Nat.le_trans (rp_len c z) (by omega)
  refine wpAny_For (Calls.Constant_str (wpAny_pyIter_ascii (by decide +kernel) ?_)) (by intro _; rfl)
  obtain ⟨it, eit⟩ : ∃ it, it = s.heap.objs.size := ⟨_, rfl⟩
  have I0 : Inv X pins σ H { s with heap := s.heap.push { cls := .type "str_ascii_iterator", data := .fields #[.str "()" s.toks, .int 0 0] }, toks := s.toks + 1 } := I.kept (t' := s.toks + 1) fun b o e => Heap.get?_push_of_some _ e
  have fp : FpOk X pins H it := I.fpOk (by rw [eit]; exact Nat.le_refl _) (by rw [eit]; exact I.hok.fresh (Nat.le_refl _))
  obtain ⟨f0, f1, f2, f3, f4, f5⟩ := fp
  show codeAny _ _ (.forLoop _ (.ref s.heap.objs.size) _ _ _) _ _
  rw [← eit]
  refine codeAny_forLoop_any (fun n s' => ∃ k, n = 2 - k ∧ k ≤ 2 ∧ Inv X pins (stT i j σ z k).1 H s' ∧ s'.heap.IsStrIter it "str_ascii_iterator" "()" s.toks k ∧ 0 < s'.toks) ?_ 2 ⟨0, rfl, by decide, I0, ⟨_, by rw [eit]; exact Heap.get?_push_size _ rfl, rfl, rfl⟩, Nat.succ_pos _⟩
  rintro n s3 ⟨k, rfl, hk, I3, st3, ht3⟩
  rcases Nat.lt_or_ge k 2 with hlt | hge
  · obtain ⟨c, ec, hcx⟩ := par_sign k hlt
    refine wpAny_passesOwn hp (wpAny_pyNext_ascii_item st3 hcx fun h4 st4 hs4 => ?_)
    have I4 : Inv X pins (stT i j σ z k).1 H { s3 with heap := h4, toks := s3.toks + 1 } := I3.turned (fun b o hb e => (hs4.2 b hb).trans e) f0 f1 f3 f4 f5
    obtain ⟨oi, e4, c4, d4⟩ := id st4
    refine go_of (s := { s3 with heap := h4, toks := s3.toks + 1 }) e4 c4 d4 (by decide) ?_
    refine wpAny_passesOwn hp (wpAny_assign_Name (store_is (v := .str ⟨#[c]⟩) I4 hN hi hks ⟨_, rfl⟩ fun s5 I5 sl5 hs5 ht5 => ?_))
    have ht5 : s5.toks = s3.toks + 1 + 1 := ht5
    have ej : ((stT i j σ z k).1.set i (some (.str ⟨#[c]⟩)))[j]? = some (some (.str (stT i j σ z k).2)) := by
      rw [List.getElem?_set_ne hij]
      exact (jk k).1
    refine wpAny_passesOwn hp (wpAny_execs_cons (wpAny_Assign_Name (tight_body I5 hks hkt hd1 hd2 sl5 (Nat.ne_of_gt ht3) (by rw [ht5]; exact Nat.lt_succ_of_lt (Nat.lt_succ_self _)) (slot_at I5 hj hkt hvt ej) (zk k hlt) b1 b2 l1 l2 fun tk n6 => ?_) hsw))
    have I6 : Inv X pins ((stT i j σ z k).1.set i (some (.str ⟨#[c]⟩))) H { s5 with toks := n6 } := I5.tok n6
    refine wpAny_with_toks (n := 0) (Nat.zero_le _) (store_is (v := .str (rp ⟨#[c]⟩ (stT i j σ z k).2)) I6 hN hj hkt ⟨_, rfl⟩ fun s7 I7 sl7 hs7 ht7 _ => wpAny_execs_nil ?_)
    refine ⟨2 - (k + 1), by omega, k + 1, rfl, by omega, ?_, ?_, ?_⟩
    · show Inv X pins (((stT i j σ z k).1.set i (some (.str (par k)))).set j (some (.str (rp (par k) (stT i j σ z k).2)))) H s7
      rw [ec]
      exact I7
    · obtain ⟨o, ho, r⟩ := st4
      exact ⟨o, (hs7.2 it f1).trans ((hs5.2 it f1).trans ho), r⟩
    · rw [ht7]
      exact Nat.succ_pos _
  · have e2 : k = 2 := by omega
    subst e2
    refine wpAny_passesOwn hp (wpAny_pyNext_ascii_end (I3.ok.hd hc) st3 (by decide +kernel) fun h4 he4 => ?_)
    refine wpAny_execs_nil ⟨_, H, ?_, q⟩
    exact I3.turned (t' := s3.toks) (fun b o hb e => he4 b o hb e) f0 f1 f3 f4 f5
end

/-! ### for sign in '=+-*&?(){},': text = text.replace(sign, ' ' + sign + ' \n'); a token is out behind an assignment -/
def SGN : List Nat := [61, 43, 45, 42, 38, 63, 40, 41, 123, 125, 44]
def SGT : Str := "=+-*&?(){},"
def sgOf (k : Nat) : Str := ⟨#[SGN.getD k 0]⟩
def wdF (k c : Nat) : List Nat := if c ∈ SGN.take k then [32, c, 32, 10] else [c]
def wT (z : Str) (k : Nat) : Str := ⟨((TL.tl z).flatMap (wdF k)).toArray⟩
theorem tl_wT (z : Str) (k : Nat) : TL.tl (wT z k) = (TL.tl z).flatMap (wdF k) := by
  show (((TL.tl z).flatMap (wdF k)).toArray).toList = _
  rfl
theorem wT_zero (z : Str) : wT z 0 = z := TL.ext_tl (by
  rw [tl_wT]
  have : ∀ l : List Nat, l.flatMap (wdF 0) = l := fun l => by
    induction l with
    | nil => rfl
    | cons c r ih =>
      rw [List.flatMap_cons, ih]
      rfl
  exact this _)
theorem wdF_len (k c : Nat) : (wdF k c).length ≤ 4 := by
  unfold wdF
  split
  · exact Nat.le_refl _
  · exact (by decide : 1 ≤ 4)
theorem wT_len (z : Str) (k : Nat) : (wT z k).length ≤ 4 * z.length := by
  rw [TL.len_tl, tl_wT, TL.len_tl]
  generalize TL.tl z = l
  induction l with
  | nil => exact Nat.zero_le _
  | cons c r ih =>
    have := wdF_len k c
    rw [List.flatMap_cons, List.length_append, List.length_cons]
    omega
theorem replL_one {c : Nat} {y : List Nat} : ∀ l : List Nat, PySem.StrLaws.replL [c] y l = l.flatMap fun x => if x = c then y else [x]
  | [] => PySem.StrLaws.replL_nil
  | d :: r => by
    rw [List.flatMap_cons, ← replL_one r]
    by_cases e : d = c
    · rw [if_pos e, PySem.StrLaws.replL_hit (by simp) (by show [d] = [c]; rw [e])]
      rfl
    · rw [if_neg e, PySem.StrLaws.replL_miss (by show ¬ [d] = [c]; intro z; injection z with z; exact e z)]
      rfl
theorem wd_old : ∀ k < 11, ∀ d ∈ SGN.take k, ([32, d, 32, 10].flatMap fun x => if x = SGN.getD k 0 then [32, SGN.getD k 0, 32, 10] else [x]) = [32, d, 32, 10] := by decide +kernel
theorem wd_new : ∀ k < 11, SGN.take (k + 1) = SGN.take k ++ [SGN.getD k 0] := by decide +kernel
theorem wd_step {k : Nat} (hk : k < 11) (l : List Nat) : ((l.flatMap (wdF k)).flatMap fun x => if x = SGN.getD k 0 then [32, SGN.getD k 0, 32, 10] else [x]) = l.flatMap (wdF (k + 1)) := by
  induction l with
  | nil => rfl
  | cons d r ih =>
    rw [List.flatMap_cons, List.flatMap_append, ih, List.flatMap_cons]
    congr 1
    unfold wdF
    rw [wd_new k hk]
    by_cases h : d ∈ SGN.take k
    · rw [if_pos h, if_pos (List.mem_append_left _ h)]
      exact wd_old k hk d h
    · rw [if_neg h, List.flatMap_cons, List.flatMap_nil, List.append_nil]
      by_cases e : d = SGN.getD k 0
      · rw [if_pos e, if_pos (List.mem_append_right _ (List.mem_singleton.mpr e)), e]
      · rw [if_neg e, if_neg fun z => (List.mem_append.mp z).elim h fun z => e (List.mem_singleton.mp z)]
theorem wT_step (z : Str) {k : Nat} (hk : k < 11) : Txt.replace (wT z k) (sgOf k) (" " ++ sgOf k ++ " \n") = wT z (k + 1) := TL.ext_tl (by
  have h1 : (sgOf k).length = 1 := rfl
  have e : TL.tl (Txt.replace (wT z k) (sgOf k) (" " ++ sgOf k ++ " \n")) = PySem.StrLaws.replL (TL.tl (sgOf k)) (TL.tl (" " ++ sgOf k ++ " \n")) (TL.tl (wT z k)) := PySem.StrLaws.replace_list (by rw [h1]; exact Nat.le_refl _)
  have e1 : TL.tl (sgOf k) = [SGN.getD k 0] := rfl
  have e2 : TL.tl (" " ++ sgOf k ++ " \n") = [32, SGN.getD k 0, 32, 10] := by
    rw [TL.tl_append, TL.tl_append, e1, show TL.tl (" " : Str) = [32] by decide +kernel, show TL.tl (" \n" : Str) = [32, 10] by decide +kernel]
    rfl
  rw [e, e1, e2, replL_one, tl_wT, wd_step hk, tl_wT])
theorem sg_at : ∀ k < 11, SGT.cps[k]? = some (SGN.getD k 0) := by decide +kernel
section
variable {X : Cx}
/-- behind x = e a token is out -/
theorem pss_setT {i : Nat} {x : Str} {e : Expr} {te : TE} {rest : List Stmt} {u : TS} {pos' pos : Pos} (hN : X.N.Nodup) (hi : X.N[i]? = some x) (hk : X.env.kindOf x = some .local) (he : PE X e te) (h2 : PSsT X rest u) (hs : swapsWith e (some (.Name x pos')) pos.line X.env = pure false := by rfl) :
    PSs X (.Assign [.Name x pos'] e pos :: rest) (tSeq (tAsg te (gName i)) u) := by
  refine ⟨fun pins s σ H D I h => wpAny_execs_cons (wpAny_Assign_Name (thn (he.run pins s σ H _ I h) fun v s1 ⟨y, H1, I1, r1, q1⟩ => ?_) hs)⟩
  refine store_is I1 hN hi hk r1 fun s' I' sl hs' ht => ?_
  exact h2 pins s' _ H1 D (by omega) I' q1
/-- e.replace(y, z) of written texts is a list's item, one token out -/
theorem pet_replN {o : Expr} {to : TE} {y z : Str} {j k : Nat} {c0 c1 apos pos : Pos} (ho : PE X o to) (hyz : (y == z) = false := by decide +kernel)
    (hst : starEach [.Constant (.str y) j c0, .Constant (.str z) k c1] X.env = [(false, eval (.Constant (.str y) j c0) X.env), (false, eval (.Constant (.str z) k c1) X.env)] := by rfl)
    (hbase : attributeBase o "replace" X.env (eval o X.env) = eval o X.env := by rfl) (hline : (apos.endLine == pos.line) = true := by rfl) :
    PET X (.Call (.Attribute o "replace" apos) [.Constant (.str y) j c0, .Constant (.str z) k c1] [] pos) (CwR.tReplC to y z) := CwR.pet_replC ho hyz hst hbase hline
theorem sgw_ne (k : Nat) : (sgOf k == (" " ++ sgOf k ++ " \n" : Str)) = false := beq_eq_false_iff_ne.mpr fun e => by
  have := congrArg (fun s : Str => (TL.tl s).length) e
  simp only [TL.tl_append, List.length_append] at this
  have a1 : (TL.tl (sgOf k)).length = 1 := rfl
  have a2 : (TL.tl (" " : Str)).length = 1 := by decide +kernel
  have a3 : (TL.tl (" \n" : Str)).length = 2 := by decide +kernel
  omega
/-- one turn's text -/
theorem wide_body {sg tg : Str} {p4 p5 p6 p7 p8 p9 p10 p11 p12 : Pos} {k2 k3 : Nat} {pins : List (Addr × Obj)} {σ : L2.St} {H : Hp} {s : Shared} {k : Nat} {t : Tok} {z : Str} {Q : Value → Shared → Prop} {E : Value → Shared → Prop} (I : Inv X pins σ H s)
    (hks : X.env.kindOf sg = some .local) (hkt : X.env.kindOf tg = some .local) (hd1 : (sg == ("__debug__" : Str)) = false) (hd2 : (tg == ("__debug__" : Str)) = false) (sl : SlotIs X s sg (.str (sgOf k) t)) (ht0 : t ≠ 0) (ht1 : t < s.toks) (tz : ∃ tk, SlotIs X s tg (.str z tk)) (hz : z.length ≤ 1000000)
    (b2 : attributeBase (.Name tg p4) "replace" X.env (eval (.Name tg p4) X.env) = eval (.Name tg p4) X.env) (l2 : (p5.endLine == p12.line) = true)
    (h : ∀ tk n, Q (.str (Txt.replace z (sgOf k) (" " ++ sgOf k ++ " \n")) tk) { s with toks := n }) :
    wpAny (model X.prog X.w) X.A (eval (.Call (.Attribute (.Name tg p4) "replace" p5) [.Name sg p6, .BinOp (.BinOp (.Constant (.str " ") k2 p7) .Add (.Name sg p8) p9) .Add (.Constant (.str " \n") k3 p10) p11] [] p12) X.env) Q E s := by
  obtain ⟨m, hn, hv⟩ := sl
  obtain ⟨tk, m2, hn2, hv2⟩ := tz
  have one : (sgOf k).length = 1 := rfl
  have sp1 : (" " : Str).length = 1 := by decide +kernel
  have sp2 : (" \n" : Str).length = 2 := by decide +kernel
  refine Call_method2 b2 rfl l2 (wpAny_Name (wpAny_loadName_local I.ok.kind hkt hn2 hv2 ?_) hd2)
  refine ⟨"str", _, PySem.F.plainAttrs_str, PySem.F.slot_str_replace, PySem.F.type_str_replace, typeIs_str _ _ _, (fun _ e => nomatch e), Calls.callWith_builtin rfl (Calls.evalArgs_plain (Calls.spliced_cons ?_))⟩
  refine wpAny_Name (wpAny_loadName_local I.ok.kind hks hn hv ?_) hd1
  refine Calls.spliced_cons (wpAny_BinOp (wpAny_BinOp (Calls.Constant_str (wpAny_Name (wpAny_loadName_local I.ok.kind hks hn hv ?_) hd1))))
  refine PySem.P.add_str ?_
  rw [if_neg (by rw [sp1]; decide), if_neg (by rw [one]; decide)]
  refine ⟨by rw [str_app_len, sp1, one]; decide, ?_⟩
  refine Calls.Constant_str ?_
  refine PySem.P.add_str ?_
  rw [if_neg (by rw [str_app_len, sp1, one]; decide), if_neg (by rw [sp2]; decide)]
  refine ⟨by rw [str_app_len, str_app_len, sp1, one, sp2]; decide, ?_⟩
  refine Calls.spliced_nil ?_
  refine wpAny_with_toks (n := s.toks) (by show s.toks ≤ s.toks + 1 + 1 + 1 + 1; omega) (PySem.SC.replace ht0 ?_ ?_ (sgw_ne k) ?_ fun t1 n1 hn1 => h t1 n1)
  · show s.toks + 1 + 1 + 1 ≠ 0
    omega
  · exact Nat.ne_of_lt (Nat.lt_of_lt_of_le ht1 (by show s.toks ≤ s.toks + 1 + 1 + 1; omega))
  · rw [str_app_len, str_app_len, sp1, one, sp2]
    show z.length + (z.length + 1) * 4 ≤ 16777216
    omega
def stW (i j : Nat) (σ : L2.St) (z : Str) : Nat → L2.St
  | 0 => σ
  | k + 1 => ((stW i j σ z k).set i (some (.str (sgOf k)))).set j (some (.str (wT z (k + 1))))
def tWide (i j : Nat) : TS := fun D σ H => ∃ z, σ[j]? = some (some (.str z)) ∧ z.length ≤ 200000 ∧ D.nx (stW i j σ z 11) H
theorem ps_wide {i j : Nat} {sg tg : Str} {p1 p2 p3 p4 p5 p6 p7 p8 p9 p10 p11 p12 p13 p14 : Pos} {k1 k2 k3 : Nat} (hN : X.N.Nodup) (hi : X.N[i]? = some sg) (hj : X.N[j]? = some tg) (hij : i ≠ j) (hks : X.env.kindOf sg = some .local) (hkt : X.env.kindOf tg = some .local) (hvt : Vis X.env.scope tg) (hc : X.calm = true) (hp : PassesOwn (model X.prog X.w) X.A X.env X.xe)
    (hd1 : (sg == ("__debug__" : Str)) = false := by decide) (hd2 : (tg == ("__debug__" : Str)) = false := by decide)
    (b2 : attributeBase (.Name tg p4) "replace" X.env (eval (.Name tg p4) X.env) = eval (.Name tg p4) X.env := by rfl) (l2 : (p5.endLine == p12.line) = true := by rfl)
    (hsw : swapsWith (.Call (.Attribute (.Name tg p4) "replace" p5) [.Name sg p6, .BinOp (.BinOp (.Constant (.str " ") k2 p7) .Add (.Name sg p8) p9) .Add (.Constant (.str " \n") k3 p10) p11] [] p12) (some (.Name tg p3)) p13.line X.env = pure false := by rfl) :
    PS X (.For (.Name sg p1) (.Constant (.str "=+-*&?(){},") k1 p2) [.Assign [.Name tg p3] (.Call (.Attribute (.Name tg p4) "replace" p5) [.Name sg p6, .BinOp (.BinOp (.Constant (.str " ") k2 p7) .Add (.Name sg p8) p9) .Add (.Constant (.str " \n") k3 p10) p11] [] p12) p13] [] p14) (tWide i j) := by
  refine ⟨fun pins s σ H D I h => ?_⟩
  obtain ⟨z, ez, hz, q⟩ := h
  have jl : j < σ.length := (List.getElem?_eq_some_iff.mp ez).1
  have jk : ∀ k, (stW i j σ z k)[j]? = some (some (.str (wT z k))) ∧ j < (stW i j σ z k).length := fun k => by
    induction k with
    | zero => exact ⟨by rw [wT_zero]; exact ez, jl⟩
    | succ k ih =>
      have l : j < ((stW i j σ z k).set i (some (.str (sgOf k)))).length := by rw [List.length_set]; exact ih.2
      exact ⟨List.getElem?_set_self l, by show j < (List.set _ _ _).length; rw [List.length_set]; exact l⟩
  have zk : ∀ k, (wT z k).length ≤ 1000000 := fun k => Nat.le_trans (wT_len z k) (by omega)
  refine wpAny_For (Calls.Constant_str (wpAny_pyIter_ascii (by decide +kernel) ?_)) (by intro _; rfl)
  obtain ⟨it, eit⟩ : ∃ it, it = s.heap.objs.size := ⟨_, rfl⟩
  have I0 : Inv X pins σ H { s with heap := s.heap.push { cls := .type "str_ascii_iterator", data := .fields #[.str "=+-*&?(){}," s.toks, .int 0 0] }, toks := s.toks + 1 } := I.kept (t' := s.toks + 1) fun b o e => Heap.get?_push_of_some _ e
  have fp : FpOk X pins H it := I.fpOk (by rw [eit]; exact Nat.le_refl _) (by rw [eit]; exact I.hok.fresh (Nat.le_refl _))
  obtain ⟨f0, f1, f2, f3, f4, f5⟩ := fp
  show codeAny _ _ (.forLoop _ (.ref s.heap.objs.size) _ _ _) _ _
  rw [← eit]
  refine codeAny_forLoop_any (fun n s' => ∃ k, n = 11 - k ∧ k ≤ 11 ∧ Inv X pins (stW i j σ z k) H s' ∧ s'.heap.IsStrIter it "str_ascii_iterator" "=+-*&?(){}," s.toks k ∧ 0 < s'.toks) ?_ 11 ⟨0, rfl, by decide, I0, ⟨_, by rw [eit]; exact Heap.get?_push_size _ rfl, rfl, rfl⟩, Nat.succ_pos _⟩
  rintro n s3 ⟨k, rfl, hk, I3, st3, ht3⟩
  rcases Nat.lt_or_ge k 11 with hlt | hge
  · have hcx := sg_at k hlt
    refine wpAny_passesOwn hp (wpAny_pyNext_ascii_item st3 hcx fun h4 st4 hs4 => ?_)
    have I4 : Inv X pins (stW i j σ z k) H { s3 with heap := h4, toks := s3.toks + 1 } := I3.turned (fun b o hb e => (hs4.2 b hb).trans e) f0 f1 f3 f4 f5
    obtain ⟨oi, e4, c4, d4⟩ := id st4
    refine go_of (s := { s3 with heap := h4, toks := s3.toks + 1 }) e4 c4 d4 (by decide) ?_
    refine wpAny_passesOwn hp (wpAny_assign_Name (store_is (v := .str (sgOf k)) I4 hN hi hks ⟨_, rfl⟩ fun s5 I5 sl5 hs5 ht5 => ?_))
    have ht5 : s5.toks = s3.toks + 1 + 1 := ht5
    have ej : ((stW i j σ z k).set i (some (.str (sgOf k))))[j]? = some (some (.str (wT z k))) := by
      rw [List.getElem?_set_ne hij]
      exact (jk k).1
    refine wpAny_passesOwn hp (wpAny_execs_cons (wpAny_Assign_Name (wide_body I5 hks hkt hd1 hd2 sl5 (Nat.ne_of_gt ht3) (by rw [ht5]; exact Nat.lt_succ_of_lt (Nat.lt_succ_self _)) (slot_at I5 hj hkt hvt ej) (zk k) b2 l2 fun tk n6 => ?_) hsw))
    rw [wT_step z hlt]
    have I6 : Inv X pins ((stW i j σ z k).set i (some (.str (sgOf k)))) H { s5 with toks := n6 } := I5.tok n6
    refine wpAny_with_toks (n := 0) (Nat.zero_le _) (store_is (v := .str (wT z (k + 1))) I6 hN hj hkt ⟨_, rfl⟩ fun s7 I7 sl7 hs7 ht7 _ => wpAny_execs_nil ?_)
    refine ⟨11 - (k + 1), by omega, k + 1, rfl, by omega, I7, ?_, ?_⟩
    · obtain ⟨o, ho, r⟩ := st4
      exact ⟨o, (hs7.2 it f1).trans ((hs5.2 it f1).trans ho), r⟩
    · rw [ht7]
      exact Nat.succ_pos _
  · have e2 : k = 11 := by omega
    subst e2
    refine wpAny_passesOwn hp (wpAny_pyNext_ascii_end (I3.ok.hd hc) st3 (by decide +kernel) fun h4 he4 => ?_)
    refine wpAny_execs_nil ⟨_, H, ?_, q⟩
    exact I3.turned (t' := s3.toks) (fun b o hb e => he4 b o hb e) f0 f1 f3 f4 f5
end

/-! ### k03: _law_wide, the forms of a text -/
abbrev sLWd : Stmt := topS 50
abbrev NLWd : List Str := ["_law_text_here", "_law_wide_here", "_law_sign"]
abbrev PLWd : List Str := ["_law_text_here"]
theorem scLWd : FnScope NLWd PLWd (defScope sLWd) := ⟨rfl, rfl, rfl, by decide +kernel, rfl, by decide +kernel, by decide +kernel⟩
theorem wide_tk {z : Str} {sh : SH} (h : Tkw (TL.tl z) sh) : ∀ k ≤ 11, Tkw (TL.tl (wT z k)) sh
  | 0, _ => by rw [wT_zero]; exact h
  | k + 1, hk => by
    have ih := wide_tk h k (by omega)
    have hs : SGN.getD k 0 ∈ SIG.cps.toList := (by decide +kernel : ∀ k < 11, SGN.getD k 0 ∈ SIG.cps.toList) k (by omega)
    rw [tl_wT] at ih ⊢
    rw [← wd_step (by omega) (TL.tl z)]
    exact Tkw.rep hs ih
theorem blank_tl (z : Str) : TL.tl (Txt.replace z "\n" " ") = (TL.tl z).map f10 := by
  have l1 : ("\n" : Str).length = 1 := by decide +kernel
  have e : TL.tl (Txt.replace z "\n" " ") = PySem.StrLaws.replL (TL.tl ("\n" : Str)) (TL.tl (" " : Str)) (TL.tl z) := PySem.StrLaws.replace_list (by rw [l1]; exact Nat.le_refl _)
  rw [e, show TL.tl ("\n" : Str) = [10] by decide +kernel, show TL.tl (" " : Str) = [32] by decide +kernel, replL_one]
  generalize TL.tl z = l
  induction l with
  | nil => rfl
  | cons c r ih =>
    rw [List.flatMap_cons, ih, List.map_cons]
    unfold f10
    by_cases h : c = 10
    · rw [if_pos h, if_pos h]; rfl
    · rw [if_neg h, if_neg h]; rfl
theorem blank_tk {z : Str} {sh : SH} (h : Tkw (TL.tl z) sh) : Tkw (TL.tl (Txt.replace z "\n" " ")) sh := by
  rw [blank_tl]
  exact h.map10
theorem blank_len (z : Str) : (Txt.replace z "\n" " ").length = z.length := by
  rw [TL.len_tl, blank_tl, List.length_map, TL.len_tl]
theorem gaps_tk {z : Str} {sh : SH} (h : Tkw (TL.tl z) sh) : Tkw (TL.tl ("\n " ++ z ++ "  ")) sh := by
  rw [TL.tl_append, TL.tl_append, show TL.tl ("\n " : Str) = [10, 32] by decide +kernel, show TL.tl ("  " : Str) = [32, 32] by decide +kernel]
  exact Tkw.end2 (.gap (.inr rfl) (.gap (.inl rfl) h))
theorem stW_at {i j : Nat} {σ : L2.St} {z : Str} (h : j < σ.length) {k : Nat} : (stW i j σ z (k + 1))[j]? = some (some (.str (wT z (k + 1)))) := by
  have hl : ∀ k, (stW i j σ z k).length = σ.length := fun k => by
    induction k with
    | zero => rfl
    | succ k ih =>
      show ((stW i j σ z k).set _ _ |>.set _ _).length = _
      rw [List.length_set, List.length_set, ih]
  show ((stW i j σ z k).set i (some (.str (sgOf k))) |>.set j (some (.str (wT z (k + 1)))))[j]? = _
  exact List.getElem?_set_self (by rw [List.length_set, hl]; exact h)
def spLWd : Sp := fun vs H Q _ => ∃ z : Str, vs = [.str z] ∧ z.length ≤ 200000 ∧ Q (.str (wT z 11)) H
section
variable {P : Program} {w : World} {K : PySem.W.Frag} {mg : Str → Option Value} {base : Heap}
theorem ok_LWd {f : Addr} {fd : FuncData} (F : Fun K "_law_wide" "_law_wide" sLWd f fd) : FnOk P w K mg base CX0 1 f fd PLWd spLWd := by
  refine F.ok scLWd (fun vs H Q E h => ?_) (fun cdv A outer s H vs Q E hr h => ?_)
  · obtain ⟨z, rfl, _⟩ := h
    rfl
  · obtain ⟨z, rfl, hz, k⟩ := h
    refine ⟨_, (pss_cons (ps_set (i := 1) scLWd.nd rfl (Or.inl rfl) (pv 0))
  (pss_cons (ps_wide (i := 2) (j := 1) scLWd.nd rfl rfl (by decide) rfl rfl (.inl rfl) rfl PassesOwn.never)
  (pss_one (ps_ret (pv 1))))), ?_⟩
    exact ⟨_, rfl, _, rfl, hz, _, stW_at (show 1 < 3 from by decide), k⟩
end

/-! ### _law_same over data -/
mutual
/-- data whose lists are the law's own -/
inductive Dq (K : PySem.W.Frag) (H : Hp) : V → PyData → Prop
  | non : Dq K H .non .none
  | bl (b : Bool) : Dq K H (.bl b) (.bool b)
  | int (i : Int) : Dq K H (.int i) (.int i)
  | str (x : Str) : Dq K H (.str x) (.str x)
  | lst {a : Addr} {xs : List V} {ds : List PyData} (h : H a = some (.lst xs)) (t : DqAll K H xs ds) : Dq K H (.ref a) (.list ds)
  | tup {a : Addr} {xs : List V} {ds : List PyData} (h : SqT K H a xs) (t : DqAll K H xs ds) : Dq K H (.ref a) (.tuple ds)
inductive DqAll (K : PySem.W.Frag) (H : Hp) : List V → List PyData → Prop
  | nil : DqAll K H [] []
  | cons {v : V} {d : PyData} {vs : List V} {ds : List PyData} (a : Dq K H v d) (b : DqAll K H vs ds) : DqAll K H (v :: vs) (d :: ds)
end
mutual
theorem Dq.same {K : PySem.W.Frag} {H H' : Hp} (e : Same H H') {v : V} {d : PyData} (h : Dq K H v d) : Dq K H' v d :=
  match h with
  | .non => .non
  | .bl b => .bl b
  | .int i => .int i
  | .str x => .str x
  | .lst a b => .lst (e _ _ a) (DqAll.same e b)
  | .tup a b => .tup (SqT.same e a) (DqAll.same e b)
theorem DqAll.same {K : PySem.W.Frag} {H H' : Hp} (e : Same H H') {vs : List V} {ds : List PyData} (h : DqAll K H vs ds) : DqAll K H' vs ds :=
  match h with
  | .nil => .nil
  | .cons a b => .cons (Dq.same e a) (DqAll.same e b)
end
mutual
theorem Dq.dp {K : PySem.W.Frag} {H : Hp} {v : V} {d : PyData} (h : Dq K H v d) : Dp K H v d :=
  match h with
  | .non => .non
  | .bl b => .bl b
  | .int i => .int i
  | .str x => .str x
  | .lst a b => .lst (SqL.of a) (DqAll.dp b)
  | .tup a b => .tup a (DqAll.dp b)
theorem DqAll.dp {K : PySem.W.Frag} {H : Hp} {vs : List V} {ds : List PyData} (h : DqAll K H vs ds) : DpAll K H vs ds :=
  match h with
  | .nil => .nil
  | .cons a b => .cons (Dq.dp a) (DqAll.dp b)
end
mutual
theorem dq_of {K : PySem.W.Frag} {H : Hp} {v : V} {d : PyData} (h : Dp K H v d) (n : noL d = true) : Dq K H v d :=
  match h with
  | .non => .non
  | .bl b => .bl b
  | .int i => .int i
  | .str x => .str x
  | .lst _ _ => by simp [noL] at n
  | .tup a b => .tup a (dqAll_of b (by simpa [noL] using n))
theorem dqAll_of {K : PySem.W.Frag} {H : Hp} {vs : List V} {ds : List PyData} (h : DpAll K H vs ds) (n : noLs ds = true) : DqAll K H vs ds :=
  match h with
  | .nil => .nil
  | .cons a b => by
    simp only [noLs, Bool.and_eq_true] at n
    exact .cons (dq_of a n.1) (dqAll_of b n.2)
end
theorem DqAll.len {K : PySem.W.Frag} {H : Hp} : ∀ {vs : List V} {ds : List PyData}, DqAll K H vs ds → vs.length = ds.length
  | _, _, .nil => rfl
  | _, _, .cons _ b => by rw [List.length_cons, List.length_cons, DqAll.len b]
theorem DqAll.at {K : PySem.W.Frag} {H : Hp} : ∀ {vs : List V} {ds : List PyData}, DqAll K H vs ds → ∀ {i : Nat} {v : V}, vs[i]? = some v → ∃ d, ds[i]? = some d ∧ Dq K H v d
  | _, _, .cons a b, 0, v, h => by simp at h; subst h; exact ⟨_, rfl, a⟩
  | _, _, .cons a b, i + 1, v, h => by simp at h ⊢; exact DqAll.at b h
def tyN : PyData → String
  | .none => "NoneType" | .bool _ => "bool" | .int _ => "int" | .str _ => "str" | .tuple _ => "tuple" | .list _ => "list" | _ => "object"
theorem dq_ty {K : PySem.W.Frag} {H : Hp} {v : V} {d : PyData} (h : Dq K H v d) : TyX K H v (.type (tyN d)) := by
  cases h with
  | non => exact .base .non
  | bl b => exact .base (.bl b)
  | int i => exact .base (.int i)
  | str x => exact .base (.str x)
  | lst a b => exact .base (.lst a)
  | tup a b => exact ty_tup a
def isBo : PyData → Bool
  | .bool _ => true | _ => false
def isIn : PyData → Bool
  | .bool _ => true | .int _ => true | _ => false
def isSt : PyData → Bool
  | .str _ => true | _ => false
def isTu : PyData → Bool
  | .tuple _ => true | _ => false
def isLi : PyData → Bool
  | .list _ => true | _ => false
theorem dq_bo {K : PySem.W.Frag} {H : Hp} {v : V} {d : PyData} (h : Dq K H v d) : PySem.W.kitOne K (.type (tyN d)) (.type "bool") = some (isBo d) := by cases h <;> (refine kit_ty ?_; simp only [tyN, isBo]; decide +kernel)
theorem dq_in {K : PySem.W.Frag} {H : Hp} {v : V} {d : PyData} (h : Dq K H v d) : PySem.W.kitOne K (.type (tyN d)) (.type "int") = some (isIn d) := by cases h <;> (refine kit_ty ?_; simp only [tyN, isIn]; decide +kernel)
theorem dq_st {K : PySem.W.Frag} {H : Hp} {v : V} {d : PyData} (h : Dq K H v d) : PySem.W.kitOne K (.type (tyN d)) (.type "str") = some (isSt d) := by cases h <;> (refine kit_ty ?_; simp only [tyN, isSt]; decide +kernel)
theorem dq_tu {K : PySem.W.Frag} {H : Hp} {v : V} {d : PyData} (h : Dq K H v d) : PySem.W.kitOne K (.type (tyN d)) (.type "tuple") = some (isTu d) := by cases h <;> (refine kit_ty ?_; simp only [tyN, isTu]; decide +kernel)
theorem dq_li {K : PySem.W.Frag} {H : Hp} {v : V} {d : PyData} (h : Dq K H v d) : PySem.W.kitOne K (.type (tyN d)) (.type "list") = some (isLi d) := by cases h <;> (refine kit_ty ?_; simp only [tyN, isLi]; decide +kernel)
mutual
def narrow : PyData → Bool
  | .tuple ds => decide (ds.length ≤ 1000) && narrows ds
  | .list ds => decide (ds.length ≤ 1000) && narrows ds
  | _ => true
def narrows : List PyData → Bool
  | [] => true
  | d :: r => narrow d && narrows r
end
theorem narrows_at : ∀ {ds : List PyData}, narrows ds = true → ∀ {i : Nat} {d : PyData}, ds[i]? = some d → narrow d = true
  | x :: r, h, 0, d, hd => by simp only [narrows, Bool.and_eq_true] at h; simp at hd; subst hd; exact h.1
  | x :: r, h, i + 1, d, hd => by simp only [narrows, Bool.and_eq_true] at h; exact narrows_at h.2 (by simpa using hd)
theorem layAll_at : ∀ {ds : List PyData}, PyData.canLayAll0 ds = true → ∀ {i : Nat} {d : PyData}, ds[i]? = some d → PyData.canLay0 d = true
  | x :: r, h, 0, d, hd => by simp only [PyData.canLayAll0, Bool.and_eq_true] at h; simp at hd; subst hd; exact h.1
  | x :: r, h, i + 1, d, hd => by simp only [PyData.canLayAll0, Bool.and_eq_true] at h; exact layAll_at h.2 (by simpa using hd)
theorem depthAll_at : ∀ {ds : List PyData} {i : Nat} {d : PyData}, ds[i]? = some d → PyData.depth d ≤ PyData.depthAll ds
  | x :: r, 0, d, hd => by simp at hd; subst hd; simp only [PyData.depthAll]; omega
  | x :: r, i + 1, d, hd => by
    have := depthAll_at (ds := r) (i := i) (d := d) (by simpa using hd)
    simp only [PyData.depthAll]
    omega
def kids : PyData → List PyData
  | .tuple ds => ds
  | .list ds => ds
  | _ => []
/-- data that may be compared -/
structure CmpD (d : PyData) : Prop where
  lay : PyData.canLay0 d = true
  dep : PyData.depth d ≤ 64
  nar : narrow d = true
theorem CmpD.shaped {d : PyData} (h : CmpD d) : SeqAt.shaped d = true := by
  unfold SeqAt.shaped
  rw [h.lay, Bool.true_and]
  exact decide_eq_true h.dep
theorem CmpD.kid {d e : PyData} (h : CmpD d) {i : Nat} (he : (kids d)[i]? = some e) : CmpD e ∧ PyData.depth e < PyData.depth d ∧ (kids d).length ≤ 1000 := by
  cases d with
  | tuple ds =>
    have h1 : PyData.canLayAll0 ds = true := by have := h.lay; simpa [PyData.canLay0] using this
    have h2 : PyData.depthAll ds + 1 ≤ 64 := by have := h.dep; simpa [PyData.depth] using this
    have h3 := h.nar
    simp only [narrow, Bool.and_eq_true, decide_eq_true_eq] at h3
    have he : ds[i]? = some e := he
    have q := depthAll_at he
    exact ⟨⟨layAll_at h1 he, by omega, narrows_at h3.2 he⟩, by simp only [PyData.depth]; omega, h3.1⟩
  | list ds =>
    have h1 : PyData.canLayAll0 ds = true := by have := h.lay; simpa [PyData.canLay0] using this
    have h2 : PyData.depthAll ds + 1 ≤ 64 := by have := h.dep; simpa [PyData.depth] using this
    have h3 := h.nar
    simp only [narrow, Bool.and_eq_true, decide_eq_true_eq] at h3
    have he : ds[i]? = some e := he
    have q := depthAll_at he
    exact ⟨⟨layAll_at h1 he, by omega, narrows_at h3.2 he⟩, by simp only [PyData.depth]; omega, h3.1⟩
  | _ => simp [kids] at he
theorem CmpD.len {d : PyData} (h : CmpD d) : (kids d).length ≤ 1000 := by
  cases d with
  | tuple ds =>
    have h3 := h.nar
    simp only [narrow, Bool.and_eq_true, decide_eq_true_eq] at h3
    exact h3.1
  | list ds =>
    have h3 := h.nar
    simp only [narrow, Bool.and_eq_true, decide_eq_true_eq] at h3
    exact h3.1
  | _ => exact Nat.zero_le _
structure TxSam (mg : Str → Option Value) : Prop where
  n_bool : mg "bool" = none
  n_int : mg "int" = none
  n_str : mg "str" = none
  n_tuple : mg "tuple" = none
  n_list : mg "list" = none
  n_isinstance : mg "isinstance" = none
  n_len : mg "len" = none
  n_all : mg "all" = none
  n_range : mg "range" = none
abbrev sSame : Stmt := topS 49
abbrev NSame : List Str := ["_law_actual", "_law_due", "_law_k"]
abbrev PSame : List Str := ["_law_actual", "_law_due"]
theorem scSame : FnScope NSame PSame (defScope sSame) := ⟨rfl, rfl, rfl, by decide +kernel, rfl, by decide +kernel, by decide +kernel⟩
def spSam (K : PySem.W.Frag) (n : Nat) : Sp := fun vs H Q _ => ∃ (x y : V) (d e : PyData), vs = [x, y] ∧ Dq K H x d ∧ Dq K H y e ∧ PyData.depth e < n ∧ CmpD d ∧ CmpD e ∧ ∀ (b : Bool) (H' : Hp), (d = e → b = true) → Same H H' → Q (.bl b) H'
section
variable {P : Program} {w : World} {K : PySem.W.Frag} {mg : Str → Option Value} {base : Heap}
theorem ok_Sam {f : Addr} {fd : FuncData} (F : Fun K "_law_same" "_law_same" sSame f fd) (T : TxSam mg) (m : mg "_law_same" = some (.ref f)) (kp : PySem.W.keepIn K (.ref f) = true) (b : Binds K fd PSame []) : ∀ n, FnOk P w K mg base CX0 n f fd PSame (spSam K n) := by
  intro n
  induction n with
  | zero => exact ⟨fun _ _ _ _ h => by obtain ⟨_, _, _, _, _, _, _, h, _⟩ := h; omega, fun _ _ _ _ _ _ _ _ _ _ _ _ _ h => by obtain ⟨_, _, _, _, _, _, _, h, _⟩ := h; omega⟩
  | succ n ih =>
    have GS : Has P w K mg base CX0 n "_law_same" PSame (spSam K n) := ⟨f, fd, ih, m, kp, b⟩
    refine F.ok scSame (fun vs H Q E h => ?_) (fun cdv A outer s H vs Q E hr h => ?_)
    · obtain ⟨x, y, d, e, rfl, _⟩ := h
      rfl
    · obtain ⟨x, y, d, e, rfl, hx, hy, hn, cd, ce, k⟩ := h
      refine ⟨_, (pss_cons (ps_if (pt_cmpR op_isN (pv 1) pe_non (nomark _))
  (pss_one (ps_ret (pe_cmpR op_isN (pv 0) pe_non (nomark _))))
  pss_nil)
  (pss_cons (ps_if (PW.pt (pw_or (pt_val (pe_callB call_isi (by rfl) T.n_isinstance bb_isinstance (pa_cons (pv 1) (pa_cons (pe_bltn (v := .ty "bool") (by rfl) T.n_bool bb_bool rfl) pa_nil)))) (pw_or1 (pt_val (pe_callB call_isi (by rfl) T.n_isinstance bb_isinstance (pa_cons (pv 0) (pa_cons (pe_bltn (v := .ty "bool") (by rfl) T.n_bool bb_bool rfl) pa_nil)))))))
  (pss_one (ps_ret (pe_and (pe_callB call_isi (by rfl) T.n_isinstance bb_isinstance (pa_cons (pv 1) (pa_cons (pe_bltn (v := .ty "bool") (by rfl) T.n_bool bb_bool rfl) pa_nil))) (pe_and (pe_callB call_isi (by rfl) T.n_isinstance bb_isinstance (pa_cons (pv 0) (pa_cons (pe_bltn (v := .ty "bool") (by rfl) T.n_bool bb_bool rfl) pa_nil))) (pe_one (pe_cmpR (op_eqD hr.units) (pv 0) (pv 1) (nomark _)))))))
  pss_nil)
  (pss_cons (ps_if (PW.pt (pw_or (pt_val (pe_callB call_isi (by rfl) T.n_isinstance bb_isinstance (pa_cons (pv 1) (pa_cons (pe_bltn (v := .ty "int") (by rfl) T.n_int bb_int rfl) pa_nil)))) (pw_or1 (pt_val (pe_callB call_isi (by rfl) T.n_isinstance bb_isinstance (pa_cons (pv 1) (pa_cons (pe_bltn (v := .ty "str") (by rfl) T.n_str bb_str rfl) pa_nil)))))))
  (pss_one (ps_ret (pe_and (pe_cmpR op_eq (pe_callB call_isi (by rfl) T.n_isinstance bb_isinstance (pa_cons (pv 0) (pa_cons (pe_bltn (v := .ty "int") (by rfl) T.n_int bb_int rfl) pa_nil))) (pe_callB call_isi (by rfl) T.n_isinstance bb_isinstance (pa_cons (pv 1) (pa_cons (pe_bltn (v := .ty "int") (by rfl) T.n_int bb_int rfl) pa_nil))) (nomark _)) (pe_one (pe_cmpR (op_eqD hr.units) (pv 0) (pv 1) (nomark _))))))
  pss_nil)
  (pss_cons (ps_if (PW.pt (pw_or (pt_cmpR op_ne (pe_callB call_isi (by rfl) T.n_isinstance bb_isinstance (pa_cons (pv 1) (pa_cons (pe_bltn (v := .ty "tuple") (by rfl) T.n_tuple bb_tuple rfl) pa_nil))) (pe_callB call_isi (by rfl) T.n_isinstance bb_isinstance (pa_cons (pv 0) (pa_cons (pe_bltn (v := .ty "tuple") (by rfl) T.n_tuple bb_tuple rfl) pa_nil))) (nomark _)) (pw_or1 (pt_cmpR op_ne (pe_callB call_isi (by rfl) T.n_isinstance bb_isinstance (pa_cons (pv 1) (pa_cons (pe_bltn (v := .ty "list") (by rfl) T.n_list bb_list rfl) pa_nil))) (pe_callB call_isi (by rfl) T.n_isinstance bb_isinstance (pa_cons (pv 0) (pa_cons (pe_bltn (v := .ty "list") (by rfl) T.n_list bb_list rfl) pa_nil))) (nomark _)))))
  (pss_one (ps_ret pe_bl))
  pss_nil)
  (pss_one (ps_ret (pe_and (pe_cmpR op_eq (pe_callB call_len_seq (by rfl) T.n_len bb_len (pa_cons (pv 0) pa_nil)) (pe_callB call_len_seq (by rfl) T.n_len bb_len (pa_cons (pv 1) pa_nil)) (nomark _)) (pe_one (pe_callB (cr_all rfl) (by rfl) T.n_all bb_all (pa_cons (pe_lc (own := [("_law_k", 2)]) (g := gName 2) (tt := tYes) rfl scSame.nd (pi_range1 (by rfl) T.n_range (pa_cons (pe_callB call_len_seq (by rfl) T.n_len bb_len (pa_cons (pv 1) pa_nil)) pa_nil)) (blkOk_by (own := [("_law_k", 2)]) (N := NSame) (sc := (defScope sSame)) (by decide +kernel)) (fun _ _ _ _ _ => (pg_name (i := 2) scSame.nd rfl (Or.inl rfl))) (fun _ _ _ _ _ => pts_nil) (fun _ _ _ _ _ => (pe_callH GS hr rfl pass0 (pa_cons (pe_ix (r := fun x y H Q => rIxT K x y H Q ∨ rIxL K x y H Q) (IxR.or ix_tup ix_list) (pv 0) (pv 2) (fun _ _ => rfl)) (pa_cons (pe_ix (r := fun x y H Q => rIxT K x y H Q ∨ rIxL K x y H Q) (IxR.or ix_tup ix_list) (pv 1) (pv 2) (fun _ _ => rfl)) pa_nil))))) pa_nil)))))))))), ?_⟩
      have eqv_of : d = e → PyData.eqv d e = true := fun z => by rw [z]; exact SeqAt.eqv_refl _ ce.lay
      refine ⟨_, rfl, rfl, _, rfl, ?_⟩
      by_cases hN : y = .non
      · refine iteS (decide_eq_true hN) ⟨_, rfl, rfl, k _ H (fun z => ?_) (Same.refl _)⟩
        subst hN
        cases hy
        subst z
        cases hx
        rfl
      refine iteE (decide_eq_false hN) ?_
      -- bool
      refine ⟨_, rfl, _, _, _, _, _, rfl, .ty _, dq_ty hy, dq_bo hy, _, rfl, ?_⟩
      by_cases hb : isBo e = true
      · refine iteS hb (iteT ?_)
        refine ⟨_, rfl, _, _, _, _, _, rfl, .ty _, dq_ty hy, dq_bo hy, _, rfl, iteS hb ⟨_, rfl, _, _, _, _, _, rfl, .ty _, dq_ty hx, dq_bo hx, _, rfl, ?_⟩⟩
        by_cases hb2 : isBo d = true
        · exact iteS hb2 ⟨_, rfl, _, rfl, d, e, hx.dp, hy.dp, cd.shaped, ce.shaped, k _ H eqv_of (Same.refl _)⟩
        · exact iteE (Bool.eq_false_iff.mpr hb2) (k _ H (fun z => absurd (z ▸ hb) hb2) (Same.refl _))
      have hb := Bool.eq_false_iff.mpr hb
      refine iteE hb ⟨_, rfl, _, _, _, _, _, rfl, .ty _, dq_ty hx, dq_bo hx, _, rfl, ?_⟩
      by_cases hb2 : isBo d = true
      · refine iteS hb2 ⟨_, rfl, _, _, _, _, _, rfl, .ty _, dq_ty hy, dq_bo hy, _, rfl, iteE hb (k _ H (fun z => ?_) (Same.refl _))⟩
        rw [z, hb] at hb2
        cases hb2
      have hb2 := Bool.eq_false_iff.mpr hb2
      refine iteE hb2 ?_
      -- int, str
      refine ⟨_, rfl, _, _, _, _, _, rfl, .ty _, dq_ty hy, dq_in hy, _, rfl, ?_⟩
      by_cases hi : isIn e = true
      · refine iteS hi (iteT ?_)
        refine ⟨_, rfl, _, _, _, _, _, rfl, .ty _, dq_ty hx, dq_in hx, _, rfl, _, _, _, _, _, rfl, .ty _, dq_ty hy, dq_in hy, rfl, _, rfl, ?_⟩
        by_cases hq : isIn d = isIn e
        · exact iteS (decide_eq_true (by rw [hq])) ⟨_, rfl, _, rfl, d, e, hx.dp, hy.dp, cd.shaped, ce.shaped, k _ H eqv_of (Same.refl _)⟩
        · exact iteE (decide_eq_false fun z => hq (V.bl.inj z)) (k _ H (fun z => absurd (by rw [z]) hq) (Same.refl _))
      have hi := Bool.eq_false_iff.mpr hi
      refine iteE hi ⟨_, rfl, _, _, _, _, _, rfl, .ty _, dq_ty hy, dq_st hy, _, rfl, ?_⟩
      by_cases hs : isSt e = true
      · refine iteS hs ?_
        refine ⟨_, rfl, _, _, _, _, _, rfl, .ty _, dq_ty hx, dq_in hx, _, rfl, _, _, _, _, _, rfl, .ty _, dq_ty hy, dq_in hy, rfl, _, rfl, ?_⟩
        by_cases hq : isIn d = isIn e
        · exact iteS (decide_eq_true (by rw [hq])) ⟨_, rfl, _, rfl, d, e, hx.dp, hy.dp, cd.shaped, ce.shaped, k _ H eqv_of (Same.refl _)⟩
        · exact iteE (decide_eq_false fun z => hq (V.bl.inj z)) (k _ H (fun z => absurd (by rw [z]) hq) (Same.refl _))
      have hs := Bool.eq_false_iff.mpr hs
      refine iteE hs ?_
      -- tuple, list
      refine ⟨_, rfl, _, _, _, _, _, rfl, .ty _, dq_ty hy, dq_tu hy, _, rfl, _, _, _, _, _, rfl, .ty _, dq_ty hx, dq_tu hx, rfl, _, rfl, ?_⟩
      by_cases ht : isTu e = isTu d
      case neg => exact iteS (by rw [decide_eq_false fun z => ht (V.bl.inj z)]; rfl) (iteT (k _ H (fun z => absurd (by rw [z]) ht) (Same.refl _)))
      refine iteE (by rw [decide_eq_true (by rw [ht])]; rfl) ⟨_, rfl, _, _, _, _, _, rfl, .ty _, dq_ty hy, dq_li hy, _, rfl, _, _, _, _, _, rfl, .ty _, dq_ty hx, dq_li hx, rfl, _, rfl, ?_⟩
      by_cases hl : isLi e = isLi d
      case neg => exact iteS (by rw [decide_eq_false fun z => hl (V.bl.inj z)]; rfl) (k _ H (fun z => absurd (by rw [z]) hl) (Same.refl _))
      refine iteE (by rw [decide_eq_true (by rw [hl])]; rfl) ?_
      obtain ⟨a, xs, b, ys, rfl, rfl, sx, sy, dx, dy, inj⟩ : ∃ (a : Addr) (xs : List V) (b : Addr) (ys : List V), x = .ref a ∧ y = .ref b ∧ (∀ H', Same H H' → SqT K H' a xs ∨ SqL K H' a xs) ∧ (∀ H', Same H H' → SqT K H' b ys ∨ SqL K H' b ys) ∧ DqAll K H xs (kids d) ∧ DqAll K H ys (kids e) ∧ (d = e → kids d = kids e) := by
        cases hy with
        | non => exact absurd rfl hN
        | bl _ => cases hb
        | int _ => cases hi
        | str _ => cases hs
        | tup q1 q2 =>
          cases hx with
          | tup q3 q4 => exact ⟨_, _, _, _, rfl, rfl, fun H' s => .inl (SqT.same s q3), fun H' s => .inl (SqT.same s q1), q4, q2, fun z => by rw [z]⟩
          | _ => cases ht
        | lst q1 q2 =>
          cases hx with
          | lst q3 q4 => exact ⟨_, _, _, _, rfl, rfl, fun H' s => .inr (SqL.of (s _ _ q3)), fun H' s => .inr (SqL.of (s _ _ q1)), q4, q2, fun z => by rw [z]⟩
          | _ => cases hl
      have lx := dx.len
      have ly := dy.len
      have l1 := cd.len
      have l2 := ce.len
      have flip : ∀ {H' : Hp} {a : Addr} {xs : List V}, SqT K H' a xs ∨ SqL K H' a xs → SqL K H' a xs ∨ SqT K H' a xs := fun h => h.symm
      refine ⟨_, rfl, a, xs, rfl, flip (sx H (Same.refl _)), _, rfl, b, ys, rfl, flip (sy H (Same.refl _)), rfl, _, rfl, ?_⟩
      by_cases hlen : xs.length = ys.length
      case neg => exact iteE (decide_eq_false fun z => hlen (by injection z with z; omega)) (k _ H (fun z => absurd (by rw [lx, ly, inj z]) hlen) (Same.refl _))
      refine iteS (decide_eq_true (by rw [hlen])) ?_
      refine ⟨_, rfl, b, ys, rfl, flip (sy H (Same.refl _)), ?_⟩
      have e62 : (2 : Int) ^ 62 = 4611686018427387904 := by decide
      refine ⟨((ys.length : Nat) : Int), rfl, by omega, by omega, fun D hD => lc_range (lo := 0) (n := ((ys.length : Nat) : Int).toNat) (fun i H' => Same H H' ∧ ∃ bs : List Bool, H' D = some (.lst (bs.map V.bl)) ∧ bs.length = i ∧ (d = e → ∀ c ∈ bs, c = true)) ⟨same_new hD, [], upd_same, rfl, fun _ _ z => (nomatch z)⟩ ?_ ?_⟩
      · rintro i H1 hi2 ⟨s1, bs, eD, lb, hbs⟩
        have hi2 : i < ys.length := by omega
        obtain ⟨x, hx2⟩ : ∃ x, xs[i]? = some x := ⟨_, List.getElem?_eq_getElem (by omega)⟩
        obtain ⟨y, hy2⟩ : ∃ y, ys[i]? = some y := ⟨_, List.getElem?_eq_getElem hi2⟩
        obtain ⟨dd, hdd, qx⟩ := DqAll.at dx hx2
        obtain ⟨ee, hee, qy⟩ := DqAll.at dy hy2
        have ca : ∀ {H' : Hp} {a : Addr} {xs : List V} {v : V} {Q : VK}, (SqT K H' a xs ∨ SqL K H' a xs) → atI xs (0 + (i : Int)) = some v → Q v H' → (rIxT K (.ref a) (.int (0 + (i : Int))) H' Q ∨ rIxL K (.ref a) (.int (0 + (i : Int))) H' Q) := fun h hv q => h.elim (fun h => .inl ⟨_, _, _, _, rfl, rfl, h, hv, q⟩) fun h => .inr ⟨_, _, _, _, rfl, rfl, h, hv, q⟩
        have kd := cd.kid hdd
        have ke := ce.kid hee
        refine ⟨wipe1 (by decide), _, rfl, _, rfl, ca (sx _ s1) (by rw [Int.zero_add]; exact atI_nat hx2) ⟨_, rfl, _, rfl, ca (sy _ s1) (by rw [Int.zero_add]; exact atI_nat hy2) ⟨x, y, dd, ee, rfl, qx.same s1, qy.same s1, by omega, kd.1, ke.1, fun c H2 hc s2 => ⟨_, s2 _ _ eD, small1000 (by rw [List.length_map]; omega), fun c o z => ?_, bs ++ [c], ?_, by rw [List.length_append, lb]; rfl, fun z c2 hc2 => ?_⟩⟩⟩⟩
        · rw [upd_ne (ne_of_none z hD)]
          exact s2 _ _ (s1 _ _ z)
        · rw [upd_same, List.map_append]
          rfl
        · rcases List.mem_append.mp hc2 with w | w
          · exact hbs z c2 w
          · rw [List.mem_singleton.mp w]
            refine hc ?_
            rw [inj z, hee] at hdd
            exact (Option.some.inj hdd).symm
      · rintro H1 ⟨s1, bs, eD, lb, hbs⟩
        refine ⟨D, _, rfl, SqL.of eD, k _ H1 (fun z => ?_) s1⟩
        rw [List.all_eq_true]
        exact fun c hc => hbs z c hc
end

/-! comparable data -/
structure Gd (d : PyData) (k : Nat) : Prop where
  lay : PyData.canLay0 d = true
  nar : narrow d = true
  dep : PyData.depth d ≤ k
theorem Gd.mono {d : PyData} {j k : Nat} (h : Gd d j) (l : j ≤ k) : Gd d k := ⟨h.lay, h.nar, Nat.le_trans h.dep l⟩
theorem Gd.all {ds : List PyData} {k : Nat} (h : ∀ d ∈ ds, Gd d k) : PyData.canLayAll0 ds = true ∧ narrows ds = true ∧ PyData.depthAll ds ≤ k := by
  induction ds with
  | nil => exact ⟨by simp [PyData.canLayAll0], rfl, by simp [PyData.depthAll]⟩
  | cons x r ih =>
    obtain ⟨h1, h2, h3⟩ := ih fun d hd => h d (List.mem_cons_of_mem _ hd)
    have hx := h x List.mem_cons_self
    refine ⟨by simp only [PyData.canLayAll0, hx.lay, h1, Bool.true_and], by simp only [narrows, hx.nar, h2, Bool.true_and], ?_⟩
    have := hx.dep
    simp only [PyData.depthAll]
    omega
theorem Gd.tup {ds : List PyData} {k : Nat} (h : ∀ d ∈ ds, Gd d k) (l : ds.length ≤ 1000) : Gd (.tuple ds) (k + 1) := by
  obtain ⟨h1, h2, h3⟩ := Gd.all h
  exact ⟨by simp only [PyData.canLay0, h1], by simp only [narrow, h2, Bool.and_true]; exact decide_eq_true l, by simp only [PyData.depth]; omega⟩
theorem Gd.lst {ds : List PyData} {k : Nat} (h : ∀ d ∈ ds, Gd d k) (l : ds.length ≤ 1000) : Gd (.list ds) (k + 1) := by
  obtain ⟨h1, h2, h3⟩ := Gd.all h
  exact ⟨by simp only [PyData.canLay0, h1], by simp only [narrow, h2, Bool.and_true]; exact decide_eq_true l, by simp only [PyData.depth]; omega⟩
theorem Gd.str {z : Str} (h : PyData.strOk z = true) : Gd (.str z) 0 := ⟨by simpa [PyData.canLay0] using h, rfl, by simp [PyData.depth]⟩
theorem Gd.nm {z : Str} (h : okN1 z) : Gd (.str z) 0 := .str (strOk_name h.1)
theorem Gd.int (i : Int) : Gd (.int i) 0 := ⟨by simp [PyData.canLay0], rfl, by simp [PyData.depth]⟩
theorem Gd.bl (b : Bool) : Gd (.bool b) 0 := ⟨by simp [PyData.canLay0], rfl, by simp [PyData.depth]⟩
theorem Gd.non : Gd .none 0 := ⟨by simp [PyData.canLay0], rfl, by simp [PyData.depth]⟩
theorem Gd.cmp {d : PyData} {k : Nat} (h : Gd d k) (l : k ≤ 64) : CmpD d := ⟨h.lay, Nat.le_trans h.dep l, h.nar⟩
theorem Gd.map {α : Type} {f : α → PyData} {l : List α} {k : Nat} (h : ∀ x ∈ l, Gd (f x) k) (hl : l.length ≤ 1000) : Gd (.tuple (l.map f)) (k + 1) :=
  .tup (fun d hd => by obtain ⟨x, hx, rfl⟩ := List.mem_map.mp hd; exact h x hx) (by rw [List.length_map]; exact hl)
theorem gd_ex {e : Ex} (h : okEx e) : Gd (exD e) 3 := by
  have l : Gd (.tuple (e.ts.map fun p => .tuple [.str p.1, .int p.2])) 2 := .map (fun p hp => .tup (fun d hd => by
    simp only [List.mem_cons, List.not_mem_nil, or_false] at hd
    rcases hd with rfl | rfl
    · exact .nm (h.2.1 p hp).1
    · exact .int _) (Nat.le_of_ble_eq_true rfl)) (by have := h.1; omega)
  refine .tup (fun d hd => ?_) (Nat.le_of_ble_eq_true rfl)
  simp only [List.mem_cons, List.not_mem_nil, or_false] at hd
  rcases hd with rfl | rfl
  · exact (Gd.int _).mono (by decide)
  · exact l
theorem gd_nm {ns : List Str} (h : okNs ns) : Gd (nmD ns) 1 := .map (fun x hx => .nm (h.2 x hx)) (by have := h.1; omega)
theorem gd_two {a b : PyData} {k : Nat} (ha : Gd a k) (hb : Gd b k) : Gd (.tuple [a, b]) (k + 1) := .tup (fun d hd => by
  simp only [List.mem_cons, List.not_mem_nil, or_false] at hd
  rcases hd with rfl | rfl
  · exact ha
  · exact hb) (by decide : 2 ≤ 1000)
theorem gd_three {a b c : PyData} {k : Nat} (ha : Gd a k) (hb : Gd b k) (hc : Gd c k) : Gd (.tuple [a, b, c]) (k + 1) := .tup (fun d hd => by
  simp only [List.mem_cons, List.not_mem_nil, or_false] at hd
  rcases hd with rfl | rfl | rfl
  · exact ha
  · exact hb
  · exact hc) (by decide : 3 ≤ 1000)
theorem gd_four {a b c e : PyData} {k : Nat} (ha : Gd a k) (hb : Gd b k) (hc : Gd c k) (he : Gd e k) : Gd (.tuple [a, b, c, e]) (k + 1) := .tup (fun d hd => by
  simp only [List.mem_cons, List.not_mem_nil, or_false] at hd
  rcases hd with rfl | rfl | rfl | rfl
  · exact ha
  · exact hb
  · exact hc
  · exact he) (by decide : 4 ≤ 1000)
theorem gd_five {a b c e g : PyData} {k : Nat} (ha : Gd a k) (hb : Gd b k) (hc : Gd c k) (he : Gd e k) (hg : Gd g k) : Gd (.tuple [a, b, c, e, g]) (k + 1) := .tup (fun d hd => by
  simp only [List.mem_cons, List.not_mem_nil, or_false] at hd
  rcases hd with rfl | rfl | rfl | rfl | rfl
  · exact ha
  · exact hb
  · exact hc
  · exact he
  · exact hg) (by decide : 5 ≤ 1000)
theorem gd_w {z : Str} {k : Nat} (h : PyData.strOk z = true := by decide +kernel) : Gd (.str z) k := (Gd.str h).mono (Nat.zero_le _)
theorem gd_arg {a : Arg} (h : okArg a) : Gd (argD a) 4 := by
  cases a with
  | place n => exact (gd_two gd_w (Gd.nm h)).mono (by decide)
  | value e => exact gd_two gd_w (gd_ex h)
theorem gd_args {as : List Arg} (h : okAs as) : Gd (.tuple (as.map argD)) 5 := .map (fun x hx => gd_arg (h.2 x hx)) (by have := h.1; omega)
theorem gd_cal {c : Cal} (h : okCal c) : Gd (calD c) 6 := gd_two ((Gd.nm h.1).mono (Nat.zero_le _)) (gd_args h.2)
mutual
theorem gd_st : ∀ (s : St), okS s → Gd (stD s) (8 + 4 * dpS s)
  | .set t e, h => (gd_three gd_w ((Gd.nm h.1).mono (Nat.zero_le 3)) (gd_ex h.2)).mono (by omega)
  | .input t, h => (gd_two gd_w (Gd.nm h)).mono (by omega)
  | .call t f as, h => by
    have h : (∀ x, t = some x → okN1 x) ∧ okN1 f ∧ okAs as := h
    have o : Gd (optD t) 5 := by
      cases t with
      | none => exact Gd.non.mono (Nat.zero_le _)
      | some x => exact (Gd.nm (h.1 x rfl)).mono (Nat.zero_le _)
    exact (gd_four gd_w o ((Gd.nm h.2.1).mono (Nat.zero_le _)) (gd_args h.2.2)).mono (by omega)
  | .risk ks, h => (gd_two gd_w (gd_nm (show ks ≠ [] ∧ okNs ks from h).2)).mono (by omega)
  | .raise k, h => (gd_two gd_w (Gd.nm h)).mono (by omega)
  | .ret e, h => (gd_two gd_w (gd_ex h)).mono (by omega)
  | .ite a b, h => by
    have h : (a.length ≤ 900 ∧ okL a) ∧ (b.length ≤ 900 ∧ okL b) := h
    have ha := gd_bl a h.1
    have hb := gd_bl b h.2
    have e : dpS (.ite a b) = max (dpB a) (dpB b) := rfl
    rw [e]
    exact (gd_three (k := 7 + 4 * max (dpB a) (dpB b)) gd_w (ha.mono (by omega)) (hb.mono (by omega))).mono (by omega)
  | .whl b, h => by
    have hb := gd_bl b (show b.length ≤ 900 ∧ okL b from h)
    have e : dpS (.whl b) = dpB b := rfl
    rw [e]
    exact (gd_two (k := 7 + 4 * dpB b) gd_w (hb.mono (by omega))).mono (by omega)
  | .try_ b hs f, h => by
    have h : (b.length ≤ 900 ∧ okL b) ∧ (hs.length ≤ 900 ∧ okHs hs) ∧ (f.length ≤ 900 ∧ okL f) := h
    have hb := gd_bl b h.1
    have hf := gd_bl f h.2.2
    have hh : Gd (.tuple (hdsD hs)) (6 + 4 * dpHs hs + 1) := .tup (gd_hs hs h.2.1.2) (by rw [hdsD_map, List.length_map]; have := h.2.1.1; omega)
    have e : dpS (.try_ b hs f) = max (dpB b) (max (dpHs hs) (dpB f)) := rfl
    rw [e]
    exact (gd_four (k := 7 + 4 * max (dpB b) (max (dpHs hs) (dpB f))) gd_w (hb.mono (by omega)) (hh.mono (by omega)) (hf.mono (by omega))).mono (by omega)
  | .undo ns b, h => by
    have h : (ns ≠ [] ∧ okNs ns) ∧ (b.length ≤ 900 ∧ okL b) := h
    have hb := gd_bl b h.2
    have e : dpS (.undo ns b) = dpB b := rfl
    rw [e]
    exact (gd_three (k := 7 + 4 * dpB b) gd_w ((gd_nm h.1.2).mono (by omega)) (hb.mono (by omega))).mono (by omega)
  | .with_ e l ks b, h => by
    have h : (okCal e ∧ okCal l ∧ okNs ks) ∧ (b.length ≤ 900 ∧ okL b) := h
    have hb := gd_bl b h.2
    have ee : dpS (.with_ e l ks b) = dpB b := rfl
    rw [ee]
    exact (gd_five (k := 7 + 4 * dpB b) gd_w ((gd_cal h.1.1).mono (by omega)) ((gd_cal h.1.2.1).mono (by omega)) ((gd_nm h.1.2.2).mono (by omega)) (hb.mono (by omega))).mono (by omega)
theorem gd_bl : ∀ (b : List St), b.length ≤ 900 ∧ okL b → Gd (blD b) (5 + 4 * dpB b)
  | [], _ => (Gd.tup (ds := []) (k := 0) (fun _ z => (List.not_mem_nil z).elim) (Nat.zero_le _)).mono (by omega)
  | s :: r, h => by
    have h2 : okS s ∧ okL r := h.2
    have h1 := gd_st s h2.1
    have hr := gd_ls r h2.2
    have e := dpB_eq (s :: r)
    have e2 : dpIn (s :: r) = max (dpS s) (dpIn r) := rfl
    have l := h.1
    refine (Gd.tup (k := 8 + 4 * dpIn (s :: r)) (fun d hd => ?_) (by rw [stsD_map, List.length_map]; omega)).mono (by omega)
    rcases List.mem_cons.mp (show d ∈ stD s :: stsD r from hd) with z | z
    · rw [z]; exact h1.mono (by omega)
    · exact (hr d z).mono (by omega)
theorem gd_ls : ∀ (b : List St), okL b → ∀ d ∈ stsD b, Gd d (8 + 4 * dpIn b)
  | [], _, _, z => (List.not_mem_nil z).elim
  | s :: r, h, d, hd => by
    have h2 : okS s ∧ okL r := h
    have e2 : dpIn (s :: r) = max (dpS s) (dpIn r) := rfl
    rcases List.mem_cons.mp (show d ∈ stD s :: stsD r from hd) with z | z
    · rw [z]; exact (gd_st s h2.1).mono (by omega)
    · exact (gd_ls r h2.2 d z).mono (by omega)
theorem gd_h : ∀ (x : Hd), okH x → Gd (hdD x) (6 + 4 * dpH x)
  | .mk ks b, h => by
    have h : (ks ≠ [] ∧ okNs ks) ∧ (b.length ≤ 900 ∧ okL b) := h
    have hb := gd_bl b h.2
    have e : dpH (.mk ks b) = dpB b := rfl
    rw [e]
    exact (gd_two (k := 5 + 4 * dpB b) ((gd_nm h.1.2).mono (by omega)) hb).mono (by omega)
theorem gd_hs : ∀ (hs : List Hd), okHs hs → ∀ d ∈ hdsD hs, Gd d (6 + 4 * dpHs hs)
  | [], _, _, z => (List.not_mem_nil z).elim
  | x :: r, h, d, hd => by
    have h2 : okH x ∧ okHs r := h
    have e2 : dpHs (x :: r) = max (dpH x) (dpHs r) := rfl
    rcases List.mem_cons.mp (show d ∈ hdD x :: hdsD r from hd) with z | z
    · rw [z]; exact (gd_h x h2.1).mono (by omega)
    · exact (gd_hs r h2.2 d z).mono (by omega)
end
theorem gd_tr {t : Tr} (h : okTr 6 t) : Gd (trD t) 32 := by
  obtain ⟨h1, h2, h3, h4, h5⟩ := h
  have k : Gd (.tuple (t.keeps.map exD)) 4 := .map (fun e he => gd_ex (h3.2 e he).1) (by have := h3.1; omega)
  have f : Gd (.tuple (t.fns.map fnD)) 31 := .map (fun f hf => by
    obtain ⟨q1, q2, q3, q4, _⟩ := h5 f hf
    have b := gd_bl f.b q3
    have p : Gd (.tuple (f.ps.map prD)) 2 := .map (fun p hp => gd_two (Gd.nm (q2.2 p hp)) (Gd.bl _)) (by have := q2.1; omega)
    exact (gd_three (k := 29) ((Gd.nm q1).mono (Nat.zero_le _)) (p.mono (by decide)) (b.mono (by omega)))) (by omega)
  exact gd_four ((gd_nm h1).mono (by decide)) ((gd_nm h2).mono (by decide)) (k.mono (by decide)) f

/-! ### k03: what is drawn may be compared -/
theorem n1_of {x : Str} (h : GN x) : okN1 x := ⟨h.1, by have := h.2; omega⟩
theorem ns_of {ns : List Str} (h : GNs ns) : okNs ns := ⟨by have := h.1; omega, fun x hx => n1_of (h.2 x hx)⟩
theorem okEx_of {e : Ex} (h : GE e) : okEx e := by
  refine ⟨by have := h.ln; omega, fun p hp => ?_, fun i a b ha hb => ?_⟩
  · have := h.nm p hp
    exact ⟨⟨this.1, by omega⟩, this.2.2.1⟩
  · have hp := List.pairwise_iff_getElem.mp h.up i (i + 1) (by rw [List.length_map]; have := (List.getElem?_eq_some_iff.mp hb).1; omega) (by rw [List.length_map]; exact (List.getElem?_eq_some_iff.mp hb).1) (Nat.lt_succ_self i)
    rw [List.getElem_map, List.getElem_map, (List.getElem?_eq_some_iff.mp ha).2, (List.getElem?_eq_some_iff.mp hb).2] at hp
    exact hp
theorem okArg_of {a : Arg} (h : GA a) : okArg a := by
  cases a with
  | place n => exact n1_of h
  | value e => exact okEx_of h
theorem okCal_of {c : Cal} (h : GC c) : okCal c := ⟨n1_of h.1, by have := h.2.1; omega, fun a ha => okArg_of (h.2.2 a ha)⟩
theorem len_sz : ∀ b : List St, b.length ≤ szB b
  | [] => Nat.zero_le _
  | s :: r => by
    have := len_sz r
    show r.length + 1 ≤ 1 + szS s + szB r
    omega
mutual
theorem okS_of : ∀ s : St, gS s → szS s ≤ 900 → okS s
  | .set t e, h, _ => ⟨n1_of h.1, okEx_of h.2⟩
  | .input t, h, _ => n1_of h
  | .raise k, h, _ => n1_of h
  | .risk ks, h, _ => ⟨(show ks ≠ [] ∧ GNs ks from h).1, ns_of (show ks ≠ [] ∧ GNs ks from h).2⟩
  | .call t f as, h, _ => by
    have h : (∀ x, t = some x → GN x) ∧ GC (f, as) := h
    have c := okCal_of h.2
    exact ⟨fun x e => n1_of (h.1 x e), c.1, c.2⟩
  | .ret e, h, _ => okEx_of h
  | .ite a b, h, z => by
    have h : gL a ∧ gL b := h
    have z : szB a + szB b ≤ 900 := z
    exact ⟨okB_of a h.1 (by omega), okB_of b h.2 (by omega)⟩
  | .whl b, h, z => okB_of b h z
  | .try_ b hs f, h, z => by
    have h : hs.length ≤ 2 ∧ gL b ∧ gHs hs ∧ gL f := h
    have z : szB b + (szHs hs + szB f) ≤ 900 := z
    exact ⟨okB_of b h.2.1 (by omega), ⟨by omega, okHs_of hs h.2.2.1 (by omega)⟩, okB_of f h.2.2.2 (by omega)⟩
  | .undo ns b, h, z => by
    have h : (ns ≠ [] ∧ GNs ns) ∧ gL b := h
    exact ⟨⟨h.1.1, ns_of h.1.2⟩, okB_of b h.2 z⟩
  | .with_ e l ks b, h, z => by
    have h : GC e ∧ GC l ∧ GNs ks ∧ gL b := h
    exact ⟨⟨okCal_of h.1, okCal_of h.2.1, ns_of h.2.2.1⟩, okB_of b h.2.2.2 z⟩
theorem okB_of : ∀ b : List St, gL b → szB b ≤ 900 → b.length ≤ 900 ∧ okL b
  | [], _, _ => ⟨Nat.zero_le _, trivial⟩
  | s :: r, h, z => by
    have h : gS s ∧ gL r := h
    have l := len_sz (s :: r)
    have z2 : 1 + szS s + szB r ≤ 900 := z
    exact ⟨by omega, okS_of s h.1 (by omega), (okB_of r h.2 (by omega)).2⟩
theorem okH_of : ∀ x : Hd, gH x → szH x ≤ 900 → okH x
  | .mk ks b, h, z => by
    have h : (ks ≠ [] ∧ GNs ks) ∧ gL b := h
    exact ⟨⟨h.1.1, ns_of h.1.2⟩, okB_of b h.2 z⟩
theorem okHs_of : ∀ hs : List Hd, gHs hs → szHs hs ≤ 900 → okHs hs
  | [], _, _ => trivial
  | x :: r, h, z => by
    have h : gH x ∧ gHs r := h
    have z : szH x + szHs r ≤ 900 := z
    exact ⟨okH_of x h.1 (by omega), okHs_of r h.2 (by omega)⟩
end
theorem gd_trG {n : Nat} {t : Tr} (g : GT n t) (hn : n ≤ 6) : Gd (trD t) 32 := by
  have k : Gd (.tuple (t.keeps.map exD)) 4 := .map (fun e he => gd_ex (okEx_of (g.kp.2 e he))) (by have := g.kp.1; omega)
  have f : Gd (.tuple (t.fns.map fnD)) 31 := .map (fun f hf => by
    obtain ⟨q1, q2, q3, q4⟩ := g.fn.2 f hf
    have sz : szB f.b ≤ 900 := by
      have := sum_mem (l := t.fns.map fun f => szB f.b) (List.mem_map.mpr ⟨f, hf, rfl⟩)
      have := g.sz
      omega
    have b := gd_bl f.b (okB_of f.b q3 sz)
    have p : Gd (.tuple (f.ps.map prD)) 2 := .map (fun p hp => gd_two (Gd.nm (n1_of (q2.2 p hp))) (Gd.bl _)) (by have := q2.1; omega)
    exact (gd_three (k := 29) ((Gd.nm (n1_of q1)).mono (Nat.zero_le _)) (p.mono (by decide)) (b.mono (by omega)))) (by have := g.fn.1; omega)
  have n1 : Gd (nmD t.names) 1 := .map (fun x hx => .nm (n1_of (g.nm.2 x hx))) (by have := g.nm.1; omega)
  have n2 : Gd (nmD t.kinds) 1 := .map (fun x hx => .nm (n1_of (g.kd.2 x hx))) (by have := g.kd.1; omega)
  exact gd_four (n1.mono (by decide)) (n2.mono (by decide)) (k.mono (by decide)) f

/-! ### k03: the law -/
abbrev sLaw : Stmt := topS 51
abbrev NLaw : List Str := ["_law_script", "_law_pool_here", "_law_tree_here", "_law_text_here", "_law_told", "_law_form"]
abbrev PLaw : List Str := ["_law_script"]
theorem scLaw : FnScope NLaw PLaw (defScope sLaw) := ⟨rfl, rfl, rfl, by decide +kernel, rfl, by decide +kernel, by decide +kernel⟩
structure TxL3 (mg : Str → Option Value) : Prop where
  n_isinstance : mg "isinstance" = none
  n_str : mg "str" = none
def spLaw (K : PySem.W.Frag) : Sp := fun vs H Q _ => ∃ (a : Addr) (ns : List Int), vs = [.ref a] ∧ SqL K H a (ns.map V.int) ∧ ns.length ≤ 63 ∧ ∀ H', Q (.bl true) H'
section
variable {P : Program} {w : World} {K : PySem.W.Frag} {mg : Str → Option Value} {base : Heap}
theorem ok_Law {f : Addr} {fd : FuncData} (F : Fun K "law" "law" sLaw f fd) (T : TxL3 mg) (GP : Has P w K mg base CX0 1 "_law_pool" PPool (spPool K)) (GT : Has P w K mg base CX0 16 "_law_tree" PLTr (spLTr K)) (GX : Has P w K mg base CX0 11 "_law_text" PLTx (spLTx K 6))
    (GS : Has P w K mg base CX0 21 "show" PShTree (spShT K 6)) (GPa : Has P w K mg base CX0 30 "parse" PParse (spParseS K 6)) (GSm : Has P w K mg base CX0 33 "_law_same" PSame (spSam K 33)) (GW : Has P w K mg base CX0 1 "_law_wide" PLWd spLWd) :
    FnOk P w K mg base CX0 34 f fd PLaw (spLaw K) := by
  refine F.ok scLaw (fun vs H Q E h => ?_) (fun cdv A outer s H vs Q E hr h => ?_)
  · obtain ⟨a, ns, rfl, _⟩ := h
    rfl
  · obtain ⟨sc, ns, rfl, hS, hl, k⟩ := h
    have hr1 := hr.mono (j := 1) (by decide)
    have hr11 := hr.mono (j := 11) (by decide)
    have hr16 := hr.mono (j := 16) (by decide)
    have hr21 := hr.mono (j := 21) (by decide)
    have hr30 := hr.mono (j := 30) (by decide)
    refine ⟨_, (pss_cons (ps_set (i := 1) scLaw.nd rfl (Or.inl rfl) (pe_callH GP hr1 rfl pass0 (pa_cons (pv 0) pa_nil)))
      (pss_cons (ps_set (i := 2) scLaw.nd rfl (Or.inl rfl) (pe_callH GT hr16 rfl pass0 (pa_cons (pv 1) pa_nil)))
      (pss_cons (ps_set (i := 3) scLaw.nd rfl (Or.inl rfl) (pe_callH GX hr11 rfl pass0 (pa_cons (pv 2) pa_nil)))
      (pss_setT (i := 4) scLaw.nd rfl rfl (pe_callH GS hr21 rfl pass0 (pa_cons (pv 2) pa_nil))
      (psst_cons (PST.of (ps_if (PW.pt (pw_or (pt_not (pt_val (pe_callB call_isi (by rfl) T.n_isinstance bb_isinstance (pa_cons (pv 4) (pa_cons (pe_bltn (v := .ty "str") (by rfl) T.n_str bb_str rfl) pa_nil))))) (pw_or1 (pt_cmpR op_ne (pv 4) (pv 3) (nomark _)))))
        (pss_one (ps_ret pe_bl)) pss_nil))
      (psst_cons (pst_for PassesOwn.never rfl (pit_list (pet_lst (pat_cons (CwR.PET.of (pv 3)) (pat_cons (pet_replN (pv 3)) (pat_cons (CwR.PET.of (pe_callH GW hr1 rfl pass0 (pa_cons (pv 3) pa_nil))) (pat_cons (CwR.PET.of (pe_op op_add_str (pe_op op_add_str pe_str (pv 3)) pe_str)) pat_nil)))))) (pg_name (i := 5) scLaw.nd rfl (Or.inl rfl))
        (pss_one (ps_if (pt_not (pt_val (pe_callH GSm hr rfl pass0 (pa_cons (pe_callH GPa hr30 rfl pass0 (pa_cons (pv 5) pa_nil)) (pa_cons (pv 2) pa_nil))))) (pss_one (ps_ret pe_bl)) pss_nil)))
      (PSsT.of (pss_one (ps_ret pe_bl))))))))), ?_⟩
    refine ⟨_, rfl, sc, ns, rfl, hS, hl, fun p c H1 s1 np nc P1 => ?_⟩
    refine ⟨_, rfl, p, c, _, rfl, P1, by decide, fun v t bu H2 D2 dv P2 b2 => ?_⟩
    have g := drawn_G D2
    refine ⟨_, rfl, v, t, rfl, dv, g, by decide, fun H3 s3 => ?_⟩
    refine ⟨_, rfl, v, t, rfl, dv.same s3, g, by decide, fun H4 s4 => ?_⟩
    have dv4 := (dv.same s3).same s4
    have tk := tk_text g
    have tl := (text_len g (by decide)).2
    have cm := (gd_trG g (Nat.le_refl _)).cmp (by decide)
    have cd := (gd_trG g (Nat.le_refl _)).dep
    have hN := noL_tr t
    generalize textS 6 t = z at *
    have l2 : ("\n " : Str).length = 2 := by decide +kernel
    have l3 : ("  " : Str).length = 2 := by decide +kernel
    have l1 : (" " : Str).length = 1 := by decide +kernel
    have e24 : sizeLine = 2 ^ 24 := rfl
    refine ⟨_, rfl, _, _, _, _, _, rfl, .ty _, .base (.str z), kit_ty (r := true) (by decide +kernel), _, rfl, iteE rfl ?_⟩
    refine ⟨_, rfl, _, rfl, rfl, _, rfl, iteE (by rw [decide_eq_true rfl]; rfl) ?_⟩
    obtain ⟨fs, hfs⟩ : ∃ fs : List Str, fs = [z, Txt.replace z "\n" " ", wT z 11, "\n " ++ z ++ "  "] := ⟨_, rfl⟩
    have hform : ∀ y ∈ fs, y.length ≤ 1000000 ∧ Tkw (TL.tl y) (shT 6 t ++ [endH]) := by
      intro y hy
      rw [hfs] at hy
      simp only [List.mem_cons, List.not_mem_nil, or_false] at hy
      rcases hy with rfl | rfl | rfl | rfl
      · exact ⟨by omega, tk⟩
      · exact ⟨by rw [blank_len]; omega, blank_tk tk⟩
      · exact ⟨by have := wT_len z 11; omega, wide_tk tk 11 (Nat.le_refl _)⟩
      · exact ⟨by rw [len_add, len_add, l2, l3]; omega, gaps_tk tk⟩
    refine ⟨_, rfl, _, rfl, z, rfl, by rw [l1]; omega, _, rfl, z, rfl, by omega, _, rfl, _, _, rfl, rfl, by rw [l2, e24]; omega, _, _, rfl, rfl, by rw [len_add, l2, l3, e24]; omega, (by show 4 ≤ sizeLine; decide), fun L hL => ?_⟩
    have s5 := same_new (o := .lst (fs.map V.str)) hL
    rw [show ([V.str z, V.str (Txt.replace z "\n" " "), V.str (wT z 11), V.str ("\n " ++ z ++ "  ")] : List V) = fs.map V.str by rw [hfs]; rfl]
    have eL : upd H4 L (.lst (fs.map V.str)) L = some (.lst (fs.map V.str)) := upd_same
    have dv5 := dv4.same s5
    generalize upd H4 L (.lst (fs.map V.str)) = H5 at *
    refine ⟨L, rfl, ⟨_, SqL.of eL⟩, for_it (walk_list (K := K) (a := L) (xs := fs.map V.str)) (fun i σ H' => Same H5 H' ∧ ∃ x5 : Option V, σ = [some (.ref sc), some (.ref p), some v, some (.str z), some (.str z), x5]) ⟨Same.refl _, _, rfl⟩ (fun i σ H' _ h' => SqL.of (h'.1 _ _ eL)) ?_ ?_⟩
    · rintro i x σ H6 H7 hil ⟨s6, x5, rfl⟩ ⟨rfl, hx⟩
      rw [List.getElem?_map] at hx
      obtain ⟨y, hy, rfl⟩ : ∃ y, fs[i]? = some y ∧ x = V.str y := by
        cases q : fs[i]? with
        | none => rw [q] at hx; cases hx
        | some y => rw [q] at hx; exact ⟨y, rfl, (Option.some.inj hx).symm⟩
      obtain ⟨h1, h2⟩ := hform y (List.mem_of_getElem? hy)
      refine ⟨_, rfl, y, t, rfl, h1, h2, g, fun vp H8 s8 dp => ?_⟩
      refine ⟨_, rfl, vp, v, trD t, trD t, rfl, dq_of dp hN, dq_of (dv5.same (s6.trans s8)) hN, by omega, cm, cm, fun b H9 hb s9 => ?_⟩
      refine ⟨_, rfl, iteE (by rw [hb rfl]; rfl) ⟨(s6.trans s8).trans s9, _, rfl⟩⟩
    · rintro σ H6 ⟨s6, x5, rfl⟩
      exact k H6
end

/-! ### the end -/
theorem khFacts {l : PySem.W.OpenLaw} {w : World} {K : PySem.W.Frag} {h : Heap} {mg : Str → Option Value} {fa : Addr} (X : K.In h) (G : h.Ns mainGlobals mg) (hfa : mg "law" = some (.ref fa)) (c : SaysA khX khF khD khW K) :
    ∃ fd : FuncData, (∀ (s : Shared) (v : Value), BindsTo s fd ⟨[v], []⟩ [("_law_script", v)]) ∧ ∀ base : Heap, K.In base → base.Ns mainGlobals mg → FnOk l.prog w K mg base CX0 34 fa fd PLaw (spLaw K) := by
  have gMixed := He.glo_ok X G (x := "_law_mixed") (c.fact 0 (by kernel_rfl))
  obtain ⟨fdMixed, FMixed⟩ := c.def_ 0 (a := ("_law_mixed", none)) (x := "_law_mixed") (q := "_law_mixed") (st := sMixed) (by kernel_rfl)
  have bMixed := FMixed.binds (ps := PMixed) fun _ _ _ _ _ _ us hl => match us, hl with | [_, _, _], _ => rfl
  have kMixed := FMixed.kp
  have gDraw := He.glo_ok X G (x := "_law_draw") (c.fact 1 (by kernel_rfl))
  obtain ⟨fdDraw, FDraw⟩ := c.def_ 1 (a := ("_law_draw", none)) (x := "_law_draw") (q := "_law_draw") (st := sDraw) (by kernel_rfl)
  have bDraw := FDraw.binds (ps := PDraw) fun _ _ _ _ _ _ us hl => match us, hl with | [_, _], _ => rfl
  have kDraw := FDraw.kp
  have gPool := He.glo_ok X G (x := "_law_pool") (c.fact 2 (by kernel_rfl))
  obtain ⟨fdPool, FPool⟩ := c.def_ 2 (a := ("_law_pool", none)) (x := "_law_pool") (q := "_law_pool") (st := sPool) (by kernel_rfl)
  have bPool := FPool.binds (ps := PPool) fun _ _ _ _ _ _ us hl => match us, hl with | [_], _ => rfl
  have kPool := FPool.kp
  have gKindOf := He.glo_ok X G (x := "kind_of") (c.fact 3 (by kernel_rfl))
  obtain ⟨fdKindOf, FKindOf⟩ := c.def_ 3 (a := ("kind_of", none)) (x := "kind_of") (q := "kind_of") (st := sKindOf) (by kernel_rfl)
  have bKindOf := FKindOf.binds (ps := PKindOf) fun _ _ _ _ _ _ us hl => match us, hl with | [_], _ => rfl
  have kKindOf := FKindOf.kp
  have gEndRun := He.glo_ok X G (x := "end_of_run") (c.fact 4 (by kernel_rfl))
  obtain ⟨fdEndRun, FEndRun⟩ := c.def_ 4 (a := ("end_of_run", none)) (x := "end_of_run") (q := "end_of_run") (st := sEndRun) (by kernel_rfl)
  have bEndRun := FEndRun.binds (ps := PEndRun) fun _ _ _ _ _ _ us hl => match us, hl with | [_, _], _ => rfl
  have kEndRun := FEndRun.kp
  have gToksOf := He.glo_ok X G (x := "tokens_of") (c.fact 5 (by kernel_rfl))
  obtain ⟨fdToksOf, FToksOf⟩ := c.def_ 5 (a := ("tokens_of", none)) (x := "tokens_of") (q := "tokens_of") (st := sToksOf) (by kernel_rfl)
  have bToksOf := FToksOf.binds (ps := PToksOf) fun _ _ _ _ _ _ us hl => match us, hl with | [_], _ => rfl
  have kToksOf := FToksOf.kp
  have gExprOf := He.glo_ok X G (x := "expression_of") (c.fact 6 (by kernel_rfl))
  obtain ⟨fdExprOf, FExprOf⟩ := c.def_ 6 (a := ("expression_of", none)) (x := "expression_of") (q := "expression_of") (st := sExprOf) (by kernel_rfl)
  have bExprOf := FExprOf.binds (ps := PExprOf) fun _ _ _ _ _ _ us hl => match us, hl with | [_, _], _ => rfl
  have kExprOf := FExprOf.kp
  have gNames := He.glo_ok X G (x := "_law_names") (c.fact 7 (by kernel_rfl))
  obtain ⟨fdNames, FNames⟩ := c.def_ 7 (a := ("_law_names", none)) (x := "_law_names") (q := "_law_names") (st := sNames) (by kernel_rfl)
  have bNames := FNames.binds (ps := PNames) fun _ _ _ _ _ _ us hl => match us, hl with | [_], _ => rfl
  have kNames := FNames.kp
  have gShTerm := He.glo_ok X G (x := "shown_term") (c.fact 8 (by kernel_rfl))
  obtain ⟨fdShTerm, FShTerm⟩ := c.def_ 8 (a := ("shown_term", none)) (x := "shown_term") (q := "shown_term") (st := sShTerm) (by kernel_rfl)
  have bShTerm := FShTerm.binds (ps := PShTerm) fun _ _ _ _ _ _ us hl => match us, hl with | [_, _], _ => rfl
  have kShTerm := FShTerm.kp
  have gShExpr := He.glo_ok X G (x := "show_expression") (c.fact 9 (by kernel_rfl))
  obtain ⟨fdShExpr, FShExpr⟩ := c.def_ 9 (a := ("show_expression", none)) (x := "show_expression") (q := "show_expression") (st := sShExpr) (by kernel_rfl)
  have bShExpr := FShExpr.binds (ps := PShExpr) fun _ _ _ _ _ _ us hl => match us, hl with | [_], _ => rfl
  have kShExpr := FShExpr.kp
  have gShow := He.glo_ok X G (x := "show") (c.fact 10 (by kernel_rfl))
  obtain ⟨fdShow, FShow⟩ := c.def_ 10 (a := ("show", none)) (x := "show") (q := "show") (st := sShow) (by kernel_rfl)
  have bShow := FShow.binds (ps := PShow) fun _ _ _ _ _ _ us hl => match us, hl with | [_], _ => rfl
  have kShow := FShow.kp
  have gLEx := He.glo_ok X G (x := "_law_expression") (c.fact 11 (by kernel_rfl))
  obtain ⟨fdLEx, FLEx⟩ := c.def_ 11 (a := ("_law_expression", none)) (x := "_law_expression") (q := "_law_expression") (st := sLEx) (by kernel_rfl)
  have bLEx := FLEx.binds (ps := PLEx) fun _ _ _ _ _ _ us hl => match us, hl with | [_, _, _], _ => rfl
  have kLEx := FLEx.kp
  have gLAr := He.glo_ok X G (x := "_law_args") (c.fact 12 (by kernel_rfl))
  obtain ⟨fdLAr, FLAr⟩ := c.def_ 12 (a := ("_law_args", none)) (x := "_law_args") (q := "_law_args") (st := sLAr) (by kernel_rfl)
  have bLAr := FLAr.binds (ps := PLAr) fun _ _ _ _ _ _ us hl => match us, hl with | [_, _, _], _ => rfl
  have kLAr := FLAr.kp
  have gLCa := He.glo_ok X G (x := "_law_call") (c.fact 13 (by kernel_rfl))
  obtain ⟨fdLCa, FLCa⟩ := c.def_ 13 (a := ("_law_call", none)) (x := "_law_call") (q := "_law_call") (st := sLCa) (by kernel_rfl)
  have bLCa := FLCa.binds (ps := PLCa) fun _ _ _ _ _ _ us hl => match us, hl with | [_, _], _ => rfl
  have kLCa := FLCa.kp
  have gParse := He.glo_ok X G (x := "parse") (c.fact 14 (by kernel_rfl))
  obtain ⟨fdParse, FParse⟩ := c.def_ 14 (a := ("parse", none)) (x := "parse") (q := "parse") (st := sParse) (by kernel_rfl)
  have bParse := FParse.binds (ps := PParse) fun _ _ _ _ _ _ us hl => match us, hl with | [_], _ => rfl
  have kParse := FParse.kp
  have gShArg := He.glo_ok X G (x := "show_arg") (c.fact 15 (by kernel_rfl))
  obtain ⟨fdShArg, FShArg⟩ := c.def_ 15 (a := ("show_arg", none)) (x := "show_arg") (q := "show_arg") (st := sShArg) (by kernel_rfl)
  have bShArg := FShArg.binds (ps := PShArg) fun _ _ _ _ _ _ us hl => match us, hl with | [_], _ => rfl
  have kShArg := FShArg.kp
  have gShCal := He.glo_ok X G (x := "show_call") (c.fact 16 (by kernel_rfl))
  obtain ⟨fdShCal, FShCal⟩ := c.def_ 16 (a := ("show_call", none)) (x := "show_call") (q := "show_call") (st := sShCal) (by kernel_rfl)
  have bShCal := FShCal.binds (ps := PShCal) fun _ _ _ _ _ _ us hl => match us, hl with | [_, _], _ => rfl
  have kShCal := FShCal.kp
  have gShSim := He.glo_ok X G (x := "simple_line") (c.fact 17 (by kernel_rfl))
  obtain ⟨fdShSim, FShSim⟩ := c.def_ 17 (a := ("simple_line", none)) (x := "simple_line") (q := "simple_line") (st := sShSim) (by kernel_rfl)
  have bShSim := FShSim.binds (ps := PShSim) fun _ _ _ _ _ _ us hl => match us, hl with | [_], _ => rfl
  have kShSim := FShSim.kp
  have gShHdb := He.glo_ok X G (x := "headed_blocks") (c.fact 18 (by kernel_rfl))
  obtain ⟨fdShHdb, FShHdb⟩ := c.def_ 18 (a := ("headed_blocks", none)) (x := "headed_blocks") (q := "headed_blocks") (st := sShHdb) (by kernel_rfl)
  have bShHdb := FShHdb.binds (ps := PShHdb) fun _ _ _ _ _ _ us hl => match us, hl with | [_], _ => rfl
  have kShHdb := FShHdb.kp
  have gShStl := He.glo_ok X G (x := "statement_lines") (c.fact 19 (by kernel_rfl))
  obtain ⟨fdShStl, FShStl⟩ := c.def_ 19 (a := ("statement_lines", none)) (x := "statement_lines") (q := "statement_lines") (st := sShStl) (by kernel_rfl)
  have bShStl := FShStl.binds (ps := PShStl) fun _ _ _ _ _ _ us hl => match us, hl with | [_, _], _ => rfl
  have kShStl := FShStl.kp
  have gShBll := He.glo_ok X G (x := "block_lines") (c.fact 20 (by kernel_rfl))
  obtain ⟨fdShBll, FShBll⟩ := c.def_ 20 (a := ("block_lines", none)) (x := "block_lines") (q := "block_lines") (st := sShBll) (by kernel_rfl)
  have bShBll := FShBll.binds (ps := PShBll) fun _ _ _ _ _ _ us hl => match us, hl with | [_, _], _ => rfl
  have kShBll := FShBll.kp
  have gShFnl := He.glo_ok X G (x := "function_lines") (c.fact 21 (by kernel_rfl))
  obtain ⟨fdShFnl, FShFnl⟩ := c.def_ 21 (a := ("function_lines", none)) (x := "function_lines") (q := "function_lines") (st := sShFnl) (by kernel_rfl)
  have bShFnl := FShFnl.binds (ps := PShFnl) fun _ _ _ _ _ _ us hl => match us, hl with | [_], _ => rfl
  have kShFnl := FShFnl.kp
  have gShTree := He.glo_ok X G (x := "show") (c.fact 22 (by kernel_rfl))
  obtain ⟨fdShTree, FShTree⟩ := c.def_ 22 (a := ("show", none)) (x := "show") (q := "show") (st := sShTree) (by kernel_rfl)
  have bShTree := FShTree.binds (ps := PShTree) fun _ _ _ _ _ _ us hl => match us, hl with | [_], _ => rfl
  have kShTree := FShTree.kp
  have gLSo := He.glo_ok X G (x := "_law_some") (c.fact 23 (by kernel_rfl))
  obtain ⟨fdLSo, FLSo⟩ := c.def_ 23 (a := ("_law_some", none)) (x := "_law_some") (q := "_law_some") (st := sLSo) (by kernel_rfl)
  have bLSo := FLSo.binds (ps := PLSo) fun _ _ _ _ _ _ us hl => match us, hl with | [_, _], _ => rfl
  have kLSo := FLSo.kp
  have gLPi := He.glo_ok X G (x := "_law_piece") (c.fact 24 (by kernel_rfl))
  obtain ⟨fdLPi, FLPi⟩ := c.def_ 24 (a := ("_law_piece", none)) (x := "_law_piece") (q := "_law_piece") (st := sLPi) (by kernel_rfl)
  have bLPi := FLPi.binds (ps := PLPi) fun _ _ _ _ _ _ us hl => match us, hl with | [_, _, _, _], _ => rfl
  have kLPi := FLPi.kp
  have gLBk := He.glo_ok X G (x := "_law_block") (c.fact 25 (by kernel_rfl))
  obtain ⟨fdLBk, FLBk⟩ := c.def_ 25 (a := ("_law_block", none)) (x := "_law_block") (q := "_law_block") (st := sLBk) (by kernel_rfl)
  have bLBk := FLBk.binds (ps := PLBk) fun _ _ _ _ _ _ us hl => match us, hl with | [_, _, _, _], _ => rfl
  have kLBk := FLBk.kp
  have gLTr := He.glo_ok X G (x := "_law_tree") (c.fact 26 (by kernel_rfl))
  obtain ⟨fdLTr, FLTr⟩ := c.def_ 26 (a := ("_law_tree", none)) (x := "_law_tree") (q := "_law_tree") (st := sLTr) (by kernel_rfl)
  have bLTr := FLTr.binds (ps := PLTr) fun _ _ _ _ _ _ us hl => match us, hl with | [_], _ => rfl
  have kLTr := FLTr.kp
  have gLPt := He.glo_ok X G (x := "_law_parts") (c.fact 27 (by kernel_rfl))
  obtain ⟨fdLPt, FLPt⟩ := c.def_ 27 (a := ("_law_parts", none)) (x := "_law_parts") (q := "_law_parts") (st := sLPt) (by kernel_rfl)
  have bLPt := FLPt.binds (ps := PLPt) fun _ _ _ _ _ _ us hl => match us, hl with | [_], _ => rfl
  have kLPt := FLPt.kp
  have gLXt := He.glo_ok X G (x := "_law_expression_text") (c.fact 28 (by kernel_rfl))
  obtain ⟨fdLXt, FLXt⟩ := c.def_ 28 (a := ("_law_expression_text", none)) (x := "_law_expression_text") (q := "_law_expression_text") (st := sLXt) (by kernel_rfl)
  have bLXt := FLXt.binds (ps := PLXt) fun _ _ _ _ _ _ us hl => match us, hl with | [_], _ => rfl
  have kLXt := FLXt.kp
  have gLCt := He.glo_ok X G (x := "_law_call_text") (c.fact 29 (by kernel_rfl))
  obtain ⟨fdLCt, FLCt⟩ := c.def_ 29 (a := ("_law_call_text", none)) (x := "_law_call_text") (q := "_law_call_text") (st := sLCt) (by kernel_rfl)
  have bLCt := FLCt.binds (ps := PLCt) fun _ _ _ _ _ _ us hl => match us, hl with | [_], _ => rfl
  have kLCt := FLCt.kp
  have gLLn := He.glo_ok X G (x := "_law_line") (c.fact 30 (by kernel_rfl))
  obtain ⟨fdLLn, FLLn⟩ := c.def_ 30 (a := ("_law_line", none)) (x := "_law_line") (q := "_law_line") (st := sLLn) (by kernel_rfl)
  have bLLn := FLLn.binds (ps := PLLn) fun _ _ _ _ _ _ us hl => match us, hl with | [_], _ => rfl
  have kLLn := FLLn.kp
  have gLHd := He.glo_ok X G (x := "_law_heads") (c.fact 31 (by kernel_rfl))
  obtain ⟨fdLHd, FLHd⟩ := c.def_ 31 (a := ("_law_heads", none)) (x := "_law_heads") (q := "_law_heads") (st := sLHd) (by kernel_rfl)
  have bLHd := FLHd.binds (ps := PLHd) fun _ _ _ _ _ _ us hl => match us, hl with | [_], _ => rfl
  have kLHd := FLHd.kp
  have gLLs := He.glo_ok X G (x := "_law_lines") (c.fact 32 (by kernel_rfl))
  obtain ⟨fdLLs, FLLs⟩ := c.def_ 32 (a := ("_law_lines", none)) (x := "_law_lines") (q := "_law_lines") (st := sLLs) (by kernel_rfl)
  have bLLs := FLLs.binds (ps := PLLs) fun _ _ _ _ _ _ us hl => match us, hl with | [_, _], _ => rfl
  have kLLs := FLLs.kp
  have gLTx := He.glo_ok X G (x := "_law_text") (c.fact 33 (by kernel_rfl))
  obtain ⟨fdLTx, FLTx⟩ := c.def_ 33 (a := ("_law_text", none)) (x := "_law_text") (q := "_law_text") (st := sLTx) (by kernel_rfl)
  have bLTx := FLTx.binds (ps := PLTx) fun _ _ _ _ _ _ us hl => match us, hl with | [_], _ => rfl
  have kLTx := FLTx.kp
  have gLWd := He.glo_ok X G (x := "_law_wide") (c.fact 34 (by kernel_rfl))
  obtain ⟨fdLWd, FLWd⟩ := c.def_ 34 (a := ("_law_wide", none)) (x := "_law_wide") (q := "_law_wide") (st := sLWd) (by kernel_rfl)
  have bLWd := FLWd.binds (ps := PLWd) fun _ _ _ _ _ _ us hl => match us, hl with | [_], _ => rfl
  have kLWd := FLWd.kp
  have gSame := He.glo_ok X G (x := "_law_same") (c.fact 35 (by kernel_rfl))
  obtain ⟨fdSame, FSame⟩ := c.def_ 35 (a := ("_law_same", none)) (x := "_law_same") (q := "_law_same") (st := sSame) (by kernel_rfl)
  have bSame := FSame.binds (ps := PSame) fun _ _ _ _ _ _ us hl => match us, hl with | [_, _], _ => rfl
  have kSame := FSame.kp
  have gLaw := He.glo_ok X G (x := "law") (c.fact 36 (by kernel_rfl))
  obtain ⟨fdLaw, FLaw⟩ := c.def_ 36 (a := ("law", none)) (x := "law") (q := "law") (st := sLaw) (by kernel_rfl)
  have bLaw := FLaw.binds (ps := PLaw) fun _ _ _ _ _ _ us hl => match us, hl with | [_], _ => rfl
  have kLaw := FLaw.kp
  have gReader := He.glo_ok X G (x := "Reader") (c.fact 37 (by kernel_rfl))
  have clReader := He.cls_ok (x := "Reader") (c.fact 38 (by kernel_rfl))
  have mkReader := He.mkr_ok (x := "Reader") (c.fact 39 (by kernel_rfl))
  have noReader_tokens := He.noat_ok (x := "Reader") (f := "tokens") (c.fact 40 (by kernel_rfl))
  have noReader_index_of_token := He.noat_ok (x := "Reader") (f := "index_of_token") (c.fact 41 (by kernel_rfl))
  have noReader_depth := He.noat_ok (x := "Reader") (f := "depth") (c.fact 42 (by kernel_rfl))
  have meRIni := He.meth_ok (x := "Reader") (m := "__init__") (c.fact 43 (by kernel_rfl))
  obtain ⟨fdRIni, FRIni⟩ := c.def_ 37 (a := ("Reader", some "__init__")) (x := "__init__") (q := "Reader.__init__") (st := sRIni) (by kernel_rfl)
  have bRIni := FRIni.binds (ps := PRIni) fun _ _ _ _ _ _ us hl => match us, hl with | [_, _], _ => rfl
  have kRIni := FRIni.kp
  have meRCur := He.meth_ok (x := "Reader") (m := "current") (c.fact 44 (by kernel_rfl))
  obtain ⟨fdRCur, FRCur⟩ := c.def_ 38 (a := ("Reader", some "current")) (x := "current") (q := "Reader.current") (st := sRCur) (by kernel_rfl)
  have bRCur := FRCur.binds (ps := PRCur) fun _ _ _ _ _ _ us hl => match us, hl with | [_], _ => rfl
  have kRCur := FRCur.kp
  have meRNext := He.meth_ok (x := "Reader") (m := "is_next") (c.fact 45 (by kernel_rfl))
  obtain ⟨fdRNext, FRNext⟩ := c.def_ 39 (a := ("Reader", some "is_next")) (x := "is_next") (q := "Reader.is_next") (st := sRNext) (by kernel_rfl)
  have bRNext := FRNext.binds (ps := PRNext) fun _ _ _ _ _ _ us hl => match us, hl with | [_, _], _ => rfl
  have kRNext := FRNext.kp
  have meRAcc := He.meth_ok (x := "Reader") (m := "accept") (c.fact 46 (by kernel_rfl))
  obtain ⟨fdRAcc, FRAcc⟩ := c.def_ 40 (a := ("Reader", some "accept")) (x := "accept") (q := "Reader.accept") (st := sRAcc) (by kernel_rfl)
  have bRAcc := FRAcc.binds (ps := PRAcc) fun _ _ _ _ _ _ us hl => match us, hl with | [_, _], _ => rfl
  have kRAcc := FRAcc.kp
  have meRExp := He.meth_ok (x := "Reader") (m := "expect") (c.fact 47 (by kernel_rfl))
  obtain ⟨fdRExp, FRExp⟩ := c.def_ 41 (a := ("Reader", some "expect")) (x := "expect") (q := "Reader.expect") (st := sRExp) (by kernel_rfl)
  have bRExp := FRExp.binds (ps := PRExp) fun _ _ _ _ _ _ us hl => match us, hl with | [_, _], _ => rfl
  have kRExp := FRExp.kp
  have meRName := He.meth_ok (x := "Reader") (m := "read_name") (c.fact 48 (by kernel_rfl))
  obtain ⟨fdRName, FRName⟩ := c.def_ 42 (a := ("Reader", some "read_name")) (x := "read_name") (q := "Reader.read_name") (st := sRName) (by kernel_rfl)
  have bRName := FRName.binds (ps := PRName) fun _ _ _ _ _ _ us hl => match us, hl with | [_], _ => rfl
  have kRName := FRName.kp
  have meRNms := He.meth_ok (x := "Reader") (m := "read_names") (c.fact 49 (by kernel_rfl))
  obtain ⟨fdRNms, FRNms⟩ := c.def_ 43 (a := ("Reader", some "read_names")) (x := "read_names") (q := "Reader.read_names") (st := sRNms) (by kernel_rfl)
  have bRNms := FRNms.binds (ps := PRNms) fun _ _ _ _ _ _ us hl => match us, hl with | [_], _ => rfl
  have kRNms := FRNms.kp
  have meRRow := He.meth_ok (x := "Reader") (m := "read_row") (c.fact 50 (by kernel_rfl))
  obtain ⟨fdRRow, FRRow⟩ := c.def_ 44 (a := ("Reader", some "read_row")) (x := "read_row") (q := "Reader.read_row") (st := sRRow) (by kernel_rfl)
  have bRRow := FRRow.binds (ps := PRRow) fun _ _ _ _ _ _ us hl => match us, hl with | [_], _ => rfl
  have kRRow := FRRow.kp
  have meRTerm := He.meth_ok (x := "Reader") (m := "read_term") (c.fact 51 (by kernel_rfl))
  obtain ⟨fdRTerm, FRTerm⟩ := c.def_ 45 (a := ("Reader", some "read_term")) (x := "read_term") (q := "Reader.read_term") (st := sRTerm) (by kernel_rfl)
  have bRTerm := FRTerm.binds (ps := PRTerm) fun _ _ _ _ _ _ us hl => match us, hl with | [_], _ => rfl
  have kRTerm := FRTerm.kp
  have meRExpr := He.meth_ok (x := "Reader") (m := "read_expression") (c.fact 52 (by kernel_rfl))
  obtain ⟨fdRExpr, FRExpr⟩ := c.def_ 46 (a := ("Reader", some "read_expression")) (x := "read_expression") (q := "Reader.read_expression") (st := sRExpr) (by kernel_rfl)
  have bRExpr := FRExpr.binds (ps := PRExpr) fun _ _ _ _ _ _ us hl => match us, hl with | [_], _ => rfl
  have kRExpr := FRExpr.kp
  have meRArg := He.meth_ok (x := "Reader") (m := "read_arg") (c.fact 53 (by kernel_rfl))
  obtain ⟨fdRArg, FRArg⟩ := c.def_ 47 (a := ("Reader", some "read_arg")) (x := "read_arg") (q := "Reader.read_arg") (st := sRArg) (by kernel_rfl)
  have bRArg := FRArg.binds (ps := PRArg) fun _ _ _ _ _ _ us hl => match us, hl with | [_], _ => rfl
  have kRArg := FRArg.kp
  have meRArgs := He.meth_ok (x := "Reader") (m := "read_args") (c.fact 54 (by kernel_rfl))
  obtain ⟨fdRArgs, FRArgs⟩ := c.def_ 48 (a := ("Reader", some "read_args")) (x := "read_args") (q := "Reader.read_args") (st := sRArgs) (by kernel_rfl)
  have bRArgs := FRArgs.binds (ps := PRArgs) fun _ _ _ _ _ _ us hl => match us, hl with | [_], _ => rfl
  have kRArgs := FRArgs.kp
  have meRBlk := He.meth_ok (x := "Reader") (m := "read_block") (c.fact 55 (by kernel_rfl))
  obtain ⟨fdRBlk, FRBlk⟩ := c.def_ 49 (a := ("Reader", some "read_block")) (x := "read_block") (q := "Reader.read_block") (st := sRBlk) (by kernel_rfl)
  have bRBlk := FRBlk.binds (ps := PRBlk) fun _ _ _ _ _ _ us hl => match us, hl with | [_], _ => rfl
  have kRBlk := FRBlk.kp
  have meRStm := He.meth_ok (x := "Reader") (m := "read_statement") (c.fact 56 (by kernel_rfl))
  obtain ⟨fdRStm, FRStm⟩ := c.def_ 50 (a := ("Reader", some "read_statement")) (x := "read_statement") (q := "Reader.read_statement") (st := sRStm) (by kernel_rfl)
  have bRStm := FRStm.binds (ps := PRStm) fun _ _ _ _ _ _ us hl => match us, hl with | [_], _ => rfl
  have kRStm := FRStm.kp
  have meRAct := He.meth_ok (x := "Reader") (m := "read_action") (c.fact 57 (by kernel_rfl))
  obtain ⟨fdRAct, FRAct⟩ := c.def_ 51 (a := ("Reader", some "read_action")) (x := "read_action") (q := "Reader.read_action") (st := sRAct) (by kernel_rfl)
  have bRAct := FRAct.binds (ps := PRAct) fun _ _ _ _ _ _ us hl => match us, hl with | [_], _ => rfl
  have kRAct := FRAct.kp
  have meRTry := He.meth_ok (x := "Reader") (m := "read_try") (c.fact 58 (by kernel_rfl))
  obtain ⟨fdRTry, FRTry⟩ := c.def_ 52 (a := ("Reader", some "read_try")) (x := "read_try") (q := "Reader.read_try") (st := sRTry) (by kernel_rfl)
  have bRTry := FRTry.binds (ps := PRTry) fun _ _ _ _ _ _ us hl => match us, hl with | [_], _ => rfl
  have kRTry := FRTry.kp
  have meRWth := He.meth_ok (x := "Reader") (m := "read_with") (c.fact 59 (by kernel_rfl))
  obtain ⟨fdRWth, FRWth⟩ := c.def_ 53 (a := ("Reader", some "read_with")) (x := "read_with") (q := "Reader.read_with") (st := sRWth) (by kernel_rfl)
  have bRWth := FRWth.binds (ps := PRWth) fun _ _ _ _ _ _ us hl => match us, hl with | [_], _ => rfl
  have kRWth := FRWth.kp
  have meRPar := He.meth_ok (x := "Reader") (m := "read_param") (c.fact 60 (by kernel_rfl))
  obtain ⟨fdRPar, FRPar⟩ := c.def_ 54 (a := ("Reader", some "read_param")) (x := "read_param") (q := "Reader.read_param") (st := sRPar) (by kernel_rfl)
  have bRPar := FRPar.binds (ps := PRPar) fun _ _ _ _ _ _ us hl => match us, hl with | [_], _ => rfl
  have kRPar := FRPar.kp
  have meRFun := He.meth_ok (x := "Reader") (m := "read_function") (c.fact 61 (by kernel_rfl))
  obtain ⟨fdRFun, FRFun⟩ := c.def_ 55 (a := ("Reader", some "read_function")) (x := "read_function") (q := "Reader.read_function") (st := sRFun) (by kernel_rfl)
  have bRFun := FRFun.binds (ps := PRFun) fun _ _ _ _ _ _ us hl => match us, hl with | [_], _ => rfl
  have kRFun := FRFun.kp
  have meRPrg := He.meth_ok (x := "Reader") (m := "read_program") (c.fact 62 (by kernel_rfl))
  obtain ⟨fdRPrg, FRPrg⟩ := c.def_ 56 (a := ("Reader", some "read_program")) (x := "read_program") (q := "Reader.read_program") (st := sRPrg) (by kernel_rfl)
  have bRPrg := FRPrg.binds (ps := PRPrg) fun _ _ _ _ _ _ us hl => match us, hl with | [_], _ => rfl
  have kRPrg := FRPrg.kp
  have m_int := He.free_ok X G (x := "int") (c.fact 63 (by kernel_rfl))
  have m_len := He.free_ok X G (x := "len") (c.fact 64 (by kernel_rfl))
  have m_isinstance := He.free_ok X G (x := "isinstance") (c.fact 65 (by kernel_rfl))
  have m_str := He.free_ok X G (x := "str") (c.fact 66 (by kernel_rfl))
  have m_enumerate := He.free_ok X G (x := "enumerate") (c.fact 67 (by kernel_rfl))
  have m_range := He.free_ok X G (x := "range") (c.fact 68 (by kernel_rfl))
  have m_bool := He.free_ok X G (x := "bool") (c.fact 69 (by kernel_rfl))
  have m_all := He.free_ok X G (x := "all") (c.fact 70 (by kernel_rfl))
  have m_tuple := He.free_ok X G (x := "tuple") (c.fact 71 (by kernel_rfl))
  have m_list := He.free_ok X G (x := "list") (c.fact 72 (by kernel_rfl))
  have m_abs := He.free_ok X G (x := "abs") (c.fact 73 (by kernel_rfl))
  have m_sorted := He.free_ok X G (x := "sorted") (c.fact 74 (by kernel_rfl))
  obtain ⟨t_LETTERS, m_LETTERS⟩ := He.str_ok X G (x := "LETTERS") (z := LET) (c.fact 75 (by kernel_rfl))
  obtain ⟨t_DIGITS, m_DIGITS⟩ := He.str_ok X G (x := "DIGITS") (z := DIG) (c.fact 76 (by kernel_rfl))
  obtain ⟨t_SIGNS, m_SIGNS⟩ := He.str_ok X G (x := "SIGNS") (z := SIG) (c.fact 77 (by kernel_rfl))
  obtain ⟨t_LONGEST, m_LONGEST⟩ := He.int_ok X G (x := "LONGEST") (i := 12) (c.fact 78 (by kernel_rfl))
  obtain ⟨t_DEEPEST, m_DEEPEST⟩ := He.int_ok X G (x := "DEEPEST") (i := 30) (c.fact 79 (by kernel_rfl))
  have m_KEYWORDS := He.glo_ok X G (x := "KEYWORDS") (c.fact 80 (by kernel_rfl))
  have l_KEYWORDS := fun H => He.tupB_ok (K := K) (x := "KEYWORDS") (vs := [.str "globals", .str "kinds", .str "keep", .str "def", .str "if", .str "else", .str "while", .str "risk", .str "raise", .str "try", .str "except", .str "finally", .str "undo", .str "with", .str "swallow", .str "return"]) (c.x 0 (f := fun K => He.tupB K "KEYWORDS" [.str "globals", .str "kinds", .str "keep", .str "def", .str "if", .str "else", .str "while", .str "risk", .str "raise", .str "try", .str "except", .str "finally", .str "undo", .str "with", .str "swallow", .str "return"]) (by kernel_rfl)) H
  have hE := hfa.symm.trans gLaw
  cases hE
  have T0 : TxPool mg := ⟨m_int, m_len⟩
  have TT : TxTok K mg (He.ga K "KEYWORDS") := { n_len := m_len, c_LETTERS := ⟨_, m_LETTERS, _, rfl⟩, c_DIGITS := ⟨_, m_DIGITS, _, rfl⟩, c_SIGNS := ⟨_, m_SIGNS, _, rfl⟩, c_KEYWORDS := ⟨_, m_KEYWORDS, rfl⟩, kws := l_KEYWORDS }
  have TD : TxRd mg := { n_tuple := m_tuple, n_len := m_len, n_int := m_int, n_sorted := m_sorted }
  have TS : TxSum mg := { toTxRd := TD, c_LONGEST := ⟨_, m_LONGEST, _, rfl⟩ }
  have TB : TxBlk mg := { toTxRd := TD, c_DEEPEST := ⟨_, m_DEEPEST, _, rfl⟩ }
  have TR : TxR K (He.ga K "Reader") := ⟨clReader, noReader_tokens, noReader_index_of_token, noReader_depth⟩
  have TG : TxGen mg := ⟨m_sorted, m_tuple, m_range, m_len⟩
  have TL : TxLt mg := ⟨m_str, m_abs, m_int, m_len, m_range⟩
  have TM : TxSam mg := ⟨m_bool, m_int, m_str, m_tuple, m_list, m_isinstance, m_len, m_all, m_range⟩
  refine ⟨fdLaw, ?_, fun base kB gB => ?_⟩
  · obtain ⟨_, _, _, _, _, _, _, _, _, rfl, _, _⟩ := FLaw.ex
    exact fun s v => .of_eq rfl
  have GM : Has l.prog w K mg base CX0 1 "_law_mixed" PMixed spMixed := ⟨_, _, ok_Mixed FMixed T0, gMixed, kMixed, bMixed⟩
  have GD : Has l.prog w K mg base CX0 2 "_law_draw" PDraw spDraw := ⟨_, _, ok_Draw FDraw T0 GM, gDraw, kDraw, bDraw⟩
  have GP : Has l.prog w K mg base CX0 1 "_law_pool" PPool (spPool K) := ⟨_, _, ok_Pool FPool T0, gPool, kPool, bPool⟩
  have GK : Has l.prog w K mg base CX0 1 "kind_of" PKindOf spKind := ⟨_, _, ok_KindOf FKindOf TT, gKindOf, kKindOf, bKindOf⟩
  have GE : Has l.prog w K mg base CX0 1 "end_of_run" PEndRun spEnd := ⟨_, _, ok_EndRun FEndRun TT, gEndRun, kEndRun, bEndRun⟩
  have GTo : Has l.prog w K mg base CX0 2 "tokens_of" PToksOf spToks := ⟨_, _, ok_ToksOf FToksOf TT GK GE, gToksOf, kToksOf, bToksOf⟩
  have GEx : Has l.prog w K mg base CX0 1 "expression_of" PExprOf spExprOf := ⟨_, _, ok_ExprOf FExprOf TS, gExprOf, kExprOf, bExprOf⟩
  have HC : HasC l.prog w K mg base CX0 3 "Reader" (He.ga K "Reader") PRIni (spRIni (He.ga K "Reader")) := ⟨_, _, mkReader, ok_RIni FRIni TR GTo, gReader, bRIni⟩
  have MC0 : HasM l.prog w K mg base CX0 1 (He.ga K "Reader") "current" PRCur (spCurr (He.ga K "Reader")) := ⟨_, _, meRCur, ok_RCur FRCur TR, bRCur⟩
  have MN0 : HasM l.prog w K mg base CX0 2 (He.ga K "Reader") "is_next" PRNext (spNext (He.ga K "Reader")) := ⟨_, _, meRNext, ok_RNext FRNext TR MC0, bRNext⟩
  have MA0 : HasM l.prog w K mg base CX0 3 (He.ga K "Reader") "accept" PRAcc (spAcc (He.ga K "Reader")) := ⟨_, _, meRAcc, ok_RAcc FRAcc TR MN0, bRAcc⟩
  have MM0 : HasM l.prog w K mg base CX0 2 (He.ga K "Reader") "read_name" PRName (spRName (He.ga K "Reader")) := ⟨_, _, meRName, ok_RName FRName TR MC0, bRName⟩
  have MR0 : HasM l.prog w K mg base CX0 3 (He.ga K "Reader") "read_row" PRRow (spRow (He.ga K "Reader")) := ⟨_, _, meRRow, ok_RRow FRRow TD TR MC0 MM0, bRRow⟩
  have MT0 : HasM l.prog w K mg base CX0 4 (He.ga K "Reader") "read_term" PRTerm (spTerm (He.ga K "Reader")) := ⟨_, _, meRTerm, ok_RTerm FRTerm TS TR MC0 MM0 MA0, bRTerm⟩
  have ME0 : HasM l.prog w K mg base CX0 5 (He.ga K "Reader") "read_expression" PRExpr (spExpr (He.ga K "Reader")) := ⟨_, _, meRExpr, ok_RExpr FRExpr TS TR MT0 MA0 GEx, bRExpr⟩
  have MC := cur_S MC0
  have MX := nxt_S MN0
  have MA := acc_S MA0
  have MM := nam_S MM0
  have MR := row_S MR0
  have MS := sum_S (K := K) ME0
  have MEx : HasM l.prog w K mg base CX0 4 (He.ga K "Reader") "expect" PRExp (spExpS (He.ga K "Reader")) := ⟨_, _, meRExp, ok_RExp FRExp TR MA, bRExp⟩
  have MNs : HasM l.prog w K mg base CX0 4 (He.ga K "Reader") "read_names" PRNms (spNmsS (He.ga K "Reader")) := ⟨_, _, meRNms, ok_RNms FRNms TD TR MM MA, bRNms⟩
  have MG : HasM l.prog w K mg base CX0 6 (He.ga K "Reader") "read_arg" PRArg (spArgS K (He.ga K "Reader")) := ⟨_, _, meRArg, ok_RArg FRArg TR MM MA MS, bRArg⟩
  have MGs : HasM l.prog w K mg base CX0 7 (He.ga K "Reader") "read_args" PRArgs (spArgsS K (He.ga K "Reader")) := ⟨_, _, meRArgs, ok_RArgs FRArgs TD TR MG MA MEx, bRArgs⟩
  have MPa : HasM l.prog w K mg base CX0 4 (He.ga K "Reader") "read_param" PRPar (spParS (He.ga K "Reader")) := ⟨_, _, meRPar, ok_RPar FRPar TR MM MA, bRPar⟩
  have MAc : HasM l.prog w K mg base CX0 8 (He.ga K "Reader") "read_action" PRAct (spActS K (He.ga K "Reader")) := ⟨_, _, meRAct, ok_RAct FRAct TR MC MX MM MA MEx MS MGs, bRAct⟩
  have MBl : HasM l.prog w K mg base CX0 (9 + 3 * 6) (He.ga K "Reader") "read_block" PRBlk (spBlkS K (He.ga K "Reader") 6) := ⟨_, _, meRBlk, ok_RBlks FRBlk FRStm FRTry FRWth TB TR meRBlk bRBlk meRStm bRStm meRTry bRTry meRWth bRWth MC MX MM MA MEx MNs MS MGs MAc 6, bRBlk⟩
  have MFu : HasM l.prog w K mg base CX0 (9 + 3 * 6 + 1) (He.ga K "Reader") "read_function" PRFun (spFunS K (He.ga K "Reader") 6) := ⟨_, _, meRFun, ok_RFun (n := 6) FRFun TB TR MM MA MEx MPa MBl, bRFun⟩
  have MPr : HasM l.prog w K mg base CX0 (9 + 3 * 6 + 1 + 1) (He.ga K "Reader") "read_program" PRPrg (spPrgS K (He.ga K "Reader") 6) := ⟨_, _, meRPrg, ok_RPrg (n := 6) FRPrg TB TR (by decide) MC MA MR MS MFu, bRPrg⟩
  have GPa : Has l.prog w K mg base CX0 (9 + 3 * 6 + 1 + 1 + 1) "parse" PParse (spParseS K 6) := ⟨_, _, ok_Parse (n := 6) FParse m_isinstance m_str TR HC MPr, gParse, kParse, bParse⟩
  have GSt : Has l.prog w K mg base CX0 1 "shown_term" PShTerm spShTerm := ⟨_, _, ok_ShTerm FShTerm ⟨m_abs, m_str⟩, gShTerm, kShTerm, bShTerm⟩
  have GSe : Has l.prog w K mg base CX0 2 "show_expression" PShExpr (spShExpr K) := ⟨_, _, ok_ShExpr FShExpr ⟨m_abs, m_str⟩ GSt, gShExpr, kShExpr, bShExpr⟩
  have GSa : Has l.prog w K mg base CX0 3 "show_arg" PShArg (spShA K) := ⟨_, _, ok_ShArg FShArg GSe, gShArg, kShArg, bShArg⟩
  have GSc : Has l.prog w K mg base CX0 4 "show_call" PShCal (spShC K) := ⟨_, _, ok_ShCal FShCal GSa, gShCal, kShCal, bShCal⟩
  have GSs : Has l.prog w K mg base CX0 5 "simple_line" PShSim (spShS K) := ⟨_, _, ok_ShSim FShSim GSe GSc, gShSim, kShSim, bShSim⟩
  have GSh : Has l.prog w K mg base CX0 5 "headed_blocks" PShHdb (spShH K) := ⟨_, _, ok_ShHdb FShHdb GSc, gShHdb, kShHdb, bShHdb⟩
  have GSb : Has l.prog w K mg base CX0 (7 + 2 * 6) "block_lines" PShBll (spLnB K 6) := ⟨_, _, ok_ShLns FShBll FShStl ⟨m_enumerate⟩ gShBll kShBll bShBll gShStl kShStl bShStl GSh GSs 6, gShBll, kShBll, bShBll⟩
  have GSf : Has l.prog w K mg base CX0 (7 + 2 * 6 + 1) "function_lines" PShFnl (spFnL K 6) := ⟨_, _, ok_ShFnl (n := 6) FShFnl GSb, gShFnl, kShFnl, bShFnl⟩
  have GS : Has l.prog w K mg base CX0 (7 + 2 * 6 + 1 + 1) "show" PShTree (spShT K 6) := ⟨_, _, ok_ShTree (n := 6) FShTree GSe GSf, gShTree, kShTree, bShTree⟩
  have GN : Has l.prog w K mg base CX0 3 "_law_names" PNames spNames := ⟨_, _, ok_Names FNames ⟨m_str, m_range⟩ GD, gNames, kNames, bNames⟩
  have GLE : Has l.prog w K mg base CX0 3 "_law_expression" PLEx (spLEx K) := ⟨_, _, ok_LEx FLEx TG GD, gLEx, kLEx, bLEx⟩
  have GLA : Has l.prog w K mg base CX0 4 "_law_args" PLAr (spLAr K) := ⟨_, _, ok_LAr FLAr TG GD GLE, gLAr, kLAr, bLAr⟩
  have GLC : Has l.prog w K mg base CX0 5 "_law_call" PLCa (spLCa K) := ⟨_, _, ok_LCa FLCa TG GD GLA, gLCa, kLCa, bLCa⟩
  have GSo : Has l.prog w K mg base CX0 3 "_law_some" PLSo (spLSo K) := ⟨_, _, ok_LSo FLSo TG GD, gLSo, kLSo, bLSo⟩
  have GLB : Has l.prog w K mg base CX0 15 "_law_block" PLBk (spLBk K 5) := ⟨_, _, ok_pb FLPi FLBk TG gLPi kLPi bLPi gLBk kLBk bLBk GD GLE GLC GSo 5, gLBk, kLBk, bLBk⟩
  have GT : Has l.prog w K mg base CX0 16 "_law_tree" PLTr (spLTr K) := ⟨_, _, ok_LTr FLTr TG GD GN GLE GLB, gLTr, kLTr, bLTr⟩
  have GPt : Has l.prog w K mg base CX0 1 "_law_parts" PLPt (spLPt K) := ⟨_, _, ok_LPt FLPt, gLPt, kLPt, bLPt⟩
  have GXt : Has l.prog w K mg base CX0 1 "_law_expression_text" PLXt (spLXt K) := ⟨_, _, ok_LXt FLXt TL, gLXt, kLXt, bLXt⟩
  have GCt : Has l.prog w K mg base CX0 2 "_law_call_text" PLCt (spLCt K) := ⟨_, _, ok_LCt FLCt GXt, gLCt, kLCt, bLCt⟩
  have GLn : Has l.prog w K mg base CX0 3 "_law_line" PLLn (spLLn K) := ⟨_, _, ok_LLn FLLn GXt GCt, gLLn, kLLn, bLLn⟩
  have GHd : Has l.prog w K mg base CX0 3 "_law_heads" PLHd (spLHd K) := ⟨_, _, ok_LHd FLHd GCt, gLHd, kLHd, bLHd⟩
  have GLs : Has l.prog w K mg base CX0 (4 + 6) "_law_lines" PLLs (spLLs K 6) := ⟨_, _, ok_LLss FLLs TL GPt GLn GHd gLLs kLLs bLLs 6, gLLs, kLLs, bLLs⟩
  have GX : Has l.prog w K mg base CX0 (4 + 6 + 1) "_law_text" PLTx (spLTx K 6) := ⟨_, _, ok_LTx (n := 6) FLTx GXt GLs, gLTx, kLTx, bLTx⟩
  have GW : Has l.prog w K mg base CX0 1 "_law_wide" PLWd spLWd := ⟨_, _, ok_LWd FLWd, gLWd, kLWd, bLWd⟩
  have GSm : Has l.prog w K mg base CX0 33 "_law_same" PSame (spSam K 33) := ⟨_, _, ok_Sam FSame TM gSame kSame bSame 33, gSame, kSame, bSame⟩
  exact ok_Law FLaw ⟨m_isinstance, m_str⟩ GP GT GX GS GPa GSm GW
end Aon
open PySem PySem.W PySem.Calls PyProof.Rows
set_option maxRecDepth 100000 in
set_option maxHeartbeats 0 in
theorem PySem.Challenge.cw_allornothing_k03_texts_and_trees_holds : PySem.Challenge.rw_allornothing_k03_texts_and_trees.Holds := by
  w_on; o_law
  refine HandSHeadRun.head_any (r := PySem.W.OpenLaw.row PySem.Challenge.rw_allornothing_k03_texts_and_trees) (q := Aon.khQ) (H := Aon.khH) (ob := Aon.khO) (M := 60000) (loose := Aon.khN) (d := HandSHeadRun.topDef (PySem.W.OpenLaw.row PySem.Challenge.rw_allornothing_k03_texts_and_trees).prog 51) (kwd := []) Aon.khO_eq
    (by kernel_rfl) (fun s => by kernel_rfl) Aon.khRun (by kernel_rfl) (by kernel_rfl) (by kernel_rfl) (by rfl) (by first | assumption | decide +kernel) (by decide +kernel) ⟨rfl, rfl, rfl, rfl, rfl, by decide +kernel⟩ ?hw ?hc
  case hw => w_witness2
  case hc =>
    refine L2.walk_ofE (l := PySem.Challenge.rw_allornothing_k03_texts_and_trees) (n := 63) (k := 34) (x := "_law_script") (CX := L2.CX0) rfl (by decide) (by kernel_rfl) ⟨rfl, by decide, by decide⟩ ?F (fun _ _ _ _ z => z)
    intro w mg fa h Y G hmg0
    obtain ⟨K, KX, c⟩ := Y
    have hmg : mg ("law" : PySem.Str) = some (.ref fa) := by
      have e : (HandSHeadRun.topDef (PySem.W.OpenLaw.row PySem.Challenge.rw_allornothing_k03_texts_and_trees).prog 51).name = ("law" : PySem.Str) := by kernel_rfl
      rw [← e]
      exact hmg0
    obtain ⟨fd, hb, hF⟩ := Aon.khFacts (l := PySem.Challenge.rw_allornothing_k03_texts_and_trees) (w := w) KX G hmg c
    exact ⟨K, fd, Aon.spLaw K, KX, hb, fun _ a ns hl _ hS => ⟨a, ns, rfl, hS, hl, fun _ => rfl⟩, hF⟩
#print axioms PySem.Challenge.cw_allornothing_k03_texts_and_trees_holds

