import PyProof.Rows.All
import Wide.All
import OpenK.AllK
import Wide.FinOn
import HandS.ForMost
import HandS.Wide
import HandS.IsInst
import HandS.Walk
import HandS.Flow
import HandS.Property
import HandS.Star
import HandS.DictComp
import HandS.Conv
import HandS.Zip
import HandS.SortKw
import HandS.MapSum
import HandS.Text
import HandS.TryOnly
import HandS.FStr
import HandS.TupAny
import HandS.Codes
import HandS.Replace
import HandS.ReplaceList
import HandS.ReplaceLit
import PyProof.StrBlock
import PyProof.RulesMatchSeq
import PyProof.Rows.MatchSeqLen
import KE.GoesEnumKw
import KE.KTurns
import KE.GoesMore
import PyProof.GenRules
import HandS.GenList
import HandS.OwnEq
import HandS.TupLe
import HandS.TryMany
import HandS.ExcInit
import HandS.ExcInitHot
import HandS.ExcIs
import HandS.ExcField
import HandS.WordsExc
import HandS.DeepEq
import HandS.Deep
import KE.KExcInit
import KE.KStateDown
import HandS.Defaults
import HandS.Head0
import HandS.Head1
import HandS.Head2
import HandS.HeadEnd
import HandS.HeadHook1
import HandS.HeadHook2
import PySem.Challenge.RW_allornothing_k05_characters_and_sizes_of
set_option Elab.async false
set_option linter.all false
set_option maxRecDepth 100000
set_option maxHeartbeats 4000000
namespace Aon
open PySem L2
def topS (i : Nat) : Stmt := PySem.Challenge.pw_allornothing_k05_characters_and_sizes_of.main.body.getD i (.Pass ⟨0, 0, 0, 0⟩)

/-! ### words of this text, over HandS -/
theorem bb_int : bootBuiltins "int" = some (.type "int") := by decide +kernel
theorem bb_str : bootBuiltins "str" = some (.type "str") := by decide +kernel
theorem bb_bool : bootBuiltins "bool" = some (.type "bool") := by decide +kernel
theorem bb_list : bootBuiltins "list" = some (.type "list") := by decide +kernel
theorem bb_tuple : bootBuiltins "tuple" = some (.type "tuple") := by decide +kernel
theorem bb_len : bootBuiltins "len" = some (.builtin "len") := by decide +kernel
theorem bb_all : bootBuiltins "all" = some (.builtin "all") := by decide +kernel
theorem bb_isinstance : bootBuiltins "isinstance" = some (.builtin "isinstance") := by decide +kernel
/-- a def that stands under its name: its promise, and how it is called -/
structure Has (P : Program) (w : World) (K : PySem.W.Frag) (mg : Str → Option Value) (base : Heap) (CX : CXT) (k : Nat) (x : Str) (ps : List Str) (sp : Sp) : Prop where
  ex : ∃ (f : Addr) (fd : FuncData), FnOk P w K mg base CX k f fd ps sp ∧ mg x = some (.ref f) ∧ PySem.W.keepIn K (.ref f) = true ∧ Binds K fd ps []
section
variable {X : Cx}
theorem pe_callH {CX : CXT} {k : Nat} {x : Str} {ps : List Str} {sp : Sp} {E : XK} {e : Expr} {es : List Expr} {t : TA} {p pos : Pos} (F : Has X.prog X.w X.K X.mg X.base CX k x ps sp) (hr : Room k X.A) (hg : Gl X x) (hx : Passes CX X E) (ha : PA X (e :: es) t)
    (hd : (x == ("__debug__" : Str)) = false := by decide) (he : starEach (e :: es) X.env = (false, eval e X.env) :: starEach es X.env := by rfl) (hpl : (backTo pos (starEach es X.env)).any (·.1) = false := by rfl) :
    PE X (.Call (.Name x p) (e :: es) [] pos) (tCall sp [] E t) := by
  obtain ⟨f, fd, F, m, kp, b⟩ := F.ex
  exact pe_call F hr hg m kp b .nil hx ha hd he hpl
theorem pe_callH0 {CX : CXT} {k : Nat} {x : Str} {ps : List Str} {sp : Sp} {E : XK} {p pos : Pos} (F : Has X.prog X.w X.K X.mg X.base CX k x ps sp) (hr : Room k X.A) (hg : Gl X x) (hx : Passes CX X E) (hd : (x == ("__debug__" : Str)) = false := by decide) :
    PE X (.Call (.Name x p) [] [] pos) (tCall sp [] E tNil) := by
  obtain ⟨f, fd, F, m, kp, b⟩ := F.ex
  exact pe_call0 F hr hg m kp b .nil hx hd
theorem pe_globE {x : Str} {v : V} {pos : Pos} (hg : Gl X x) (hm : ∃ u, X.mg x = some u ∧ RelV v u) (hd : (x == ("__debug__" : Str)) = false := by decide) : PE X (.Name x pos) (tC v) := by
  obtain ⟨u, m, r⟩ := hm
  exact pe_glob hg m r hd
end
/-- a method of the class at C; a class under its name -/
structure HasM (P : Program) (w : World) (K : PySem.W.Frag) (mg : Str → Option Value) (base : Heap) (CX : CXT) (k : Nat) (C : Addr) (m : Str) (ps : List Str) (sp : Sp) : Prop where
  ex : ∃ (f : Addr) (fd : FuncData), Meth K C m f ∧ FnOk P w K mg base CX k f fd ps sp ∧ Binds K fd ps []
structure HasC (P : Program) (w : World) (K : PySem.W.Frag) (mg : Str → Option Value) (base : Heap) (CX : CXT) (k : Nat) (x : Str) (C : Addr) (ps : List Str) (sp : Sp) : Prop where
  ex : ∃ (f : Addr) (fd : FuncData), Mk K C f ∧ FnOk P w K mg base CX k f fd ps sp ∧ mg x = some (.ref C) ∧ Binds K fd ps []
section
variable {X : Cx}
theorem pe_methH {CX : CXT} {k : Nat} {C : Addr} {m : Str} {ps : List Str} {sp : Sp} {E : XK} {o e : Expr} {es : List Expr} {ta : TE} {t : TA} {apos pos : Pos} {pl : Sem Bool} (he : PE X o ta) (c : Cls X.K C) (M : HasM X.prog X.w X.K X.mg X.base CX k C m ps sp) (hr : Room k X.A) (hx : Passes CX X E)
    (ha : PA X (e :: es) t) (hst : starEach (e :: es) X.env = (false, eval e X.env) :: starEach es X.env := by rfl) (hpl : (backTo pos (starEach es X.env)).any (·.1) = false := by rfl)
    (ht : eval (.Call (.Attribute o m apos) (e :: es) [] pos) X.env = (do
      let v ← eval o X.env
      standAt apos.atName
      let (g, r) ← holding [v] (getMethod v m pl)
      callWith pos g r (backTo pos (starEach (e :: es) X.env)) (backToKw pos (keywordEach [] X.env))) := by rfl) : PE X (.Call (.Attribute o m apos) (e :: es) [] pos) (tMeth C m sp [] E ta t) := by
  obtain ⟨f, fd, hm, F, b⟩ := M.ex
  exact pe_meth (pl := pl) he c hm F hr b .nil hx ha hst hpl ht
theorem pe_methH0 {CX : CXT} {k : Nat} {C : Addr} {m : Str} {ps : List Str} {sp : Sp} {E : XK} {o : Expr} {ta : TE} {apos pos : Pos} {pl : Sem Bool} (he : PE X o ta) (c : Cls X.K C) (M : HasM X.prog X.w X.K X.mg X.base CX k C m ps sp) (hr : Room k X.A) (hx : Passes CX X E)
    (ht : eval (.Call (.Attribute o m apos) [] [] pos) X.env = (do
      let v ← eval o X.env
      standAt apos.atName
      let (g, r) ← holding [v] (getMethod v m pl)
      callWith pos g r (backTo pos (starEach [] X.env)) (backToKw pos (keywordEach [] X.env))) := by rfl) : PE X (.Call (.Attribute o m apos) [] [] pos) (tMeth C m sp [] E ta tNil) := by
  obtain ⟨f, fd, hm, F, b⟩ := M.ex
  exact pe_meth0 (pl := pl) he c hm F hr b .nil hx ht
theorem pe_makeH {CX : CXT} {k : Nat} {x : Str} {C : Addr} {ps : List Str} {sp : Sp} {E : XK} {e : Expr} {es : List Expr} {t : TA} {p pos : Pos} (M : HasC X.prog X.w X.K X.mg X.base CX k x C ps sp) (hr : Room (k + 1) X.A) (hg : Gl X x) (hx : Passes CX X E) (ha : PA X (e :: es) t)
    (hd : (x == ("__debug__" : Str)) = false := by decide) (he : starEach (e :: es) X.env = (false, eval e X.env) :: starEach es X.env := by rfl) (hpl : (backTo pos (starEach es X.env)).any (·.1) = false := by rfl) :
    PE X (.Call (.Name x p) (e :: es) [] pos) (tMake C sp [] E t) := by
  obtain ⟨f, fd, mk, F, m, b⟩ := M.ex
  exact pe_make mk F hr hg m b .nil hx ha hd he hpl
theorem pe_propH {CX : CXT} {k : Nat} {C p : Addr} {f : Str} {ps : List Str} {sp : Sp} {E : XK} {e : Expr} {ta : TE} {pos : Pos} (he : PE X e ta) (c : Cls X.K C) (M : ∃ (g : Addr) (fd : FuncData), PropOf X.K C f p g ∧ FnOk X.prog X.w X.K X.mg X.base CX k g fd ps sp ∧ Binds X.K fd ps []) (hr : Room (k + 1) X.A) (hx : Passes CX X.nox E)
    (hab : attributeBase e f X.env (eval e X.env) = eval e X.env := by rfl) : PE X (.Attribute e f pos) (tProp C sp [] E ta) := by
  obtain ⟨g, fd, hp, F, b⟩ := M
  exact pe_prop he c hp F hr b .nil hx hab
end
/-- all but p and c stands -/
def But (p c : Addr) (H H' : Hp) : Prop := ∀ b o, H b = some o → b ≠ p → b ≠ c → H' b = some o
theorem But.refl {p c : Addr} {H : Hp} : But p c H H := fun _ _ e _ _ => e
theorem But.trans {p c : Addr} {H H1 H2 : Hp} (a : But p c H H1) (b : But p c H1 H2) : But p c H H2 := fun x o e h1 h2 => b x o (a x o e h1 h2) h1 h2
theorem iteE {c : Bool} {A B : Prop} (hc : c = false) (k : B) : if c = true then A else B := by
  rw [hc]
  exact iteF k
theorem iteS {c : Bool} {A B : Prop} (hc : c = true) (k : A) : if c = true then A else B := by
  rw [hc]
  exact iteT k

def dOf : V → PyData
  | .non => .none | .bl b => .bool b | .int i => .int i | .str z => .str z | _ => .none
theorem dp_flat {K : PySem.W.Frag} {H : Hp} {v : V} (h : flatV v = true) : Dp K H v (dOf v) := by
  cases v with
  | non => exact .non
  | bl b => exact .bl b
  | int i => exact .int i
  | str z => exact .str z
  | _ => cases h
theorem dpAll_flat {K : PySem.W.Frag} {H : Hp} : ∀ {xs : List V}, xs.all flatV = true → DpAll K H xs (xs.map dOf)
  | [], _ => .nil
  | x :: xs, h => by
    rw [List.all_cons, Bool.and_eq_true] at h
    exact .cons (dp_flat h.1) (dpAll_flat h.2)
/-! shapes -/
def okV : V → Bool
  | .str z => PyData.strOk z
  | _ => true
theorem lay_dOf {v : V} (h : okV v = true) : (dOf v).canLay0 = true := by
  cases v with
  | str z => simpa [dOf, PyData.canLay0, okV] using h
  | _ => simp [dOf, PyData.canLay0]
theorem layAll_dOf : ∀ {xs : List V}, xs.all okV = true → PyData.canLayAll0 (xs.map dOf) = true
  | [], _ => by simp [PyData.canLayAll0]
  | x :: xs, h => by
    rw [List.all_cons, Bool.and_eq_true] at h
    simp only [List.map_cons, PyData.canLayAll0, Bool.and_eq_true]
    exact ⟨lay_dOf h.1, layAll_dOf h.2⟩
theorem depth_dOf (v : V) : (dOf v).depth = 0 := by cases v <;> simp [dOf, PyData.depth]
theorem depthAll_dOf : ∀ xs : List V, PyData.depthAll (xs.map dOf) = 0
  | [] => by simp [PyData.depthAll]
  | x :: xs => by simp only [List.map_cons, PyData.depthAll, depth_dOf, depthAll_dOf xs]; rfl
theorem shaped_tup {xs : List V} (h : xs.all okV = true) : SeqAt.shaped (.tuple (xs.map dOf)) = true := by
  unfold SeqAt.shaped
  simp only [PyData.canLay0, PyData.depth, layAll_dOf h, depthAll_dOf, Bool.true_and]
  decide

/-! ### {**d, k: v}: the rule -/
section
variable {prog : Program} {w : World} {A : Around} {E : Value → Shared → Prop} {s : Shared}
theorem dput_ok {d : Addr} {kvs : List (Key × Value)} {k : Key} {key v : Value} {Q : Unit → Shared → Prop} (hkey : (mixKind prog w).is k key = true) (hm : s.heap.DictOf (mixKind prog w) d kvs) (hz : kvs.length ≤ sizeLine)
    (hQ : ∀ h', h'.DictOf (mixKind prog w) d (stored kvs k v) → Heap.SameBut d s.heap h' → Q () { s with heap := h' }) :
    wpAny (model prog w) A (dictPut d ((mixKind prog w).hash k) key v) Q E s := by
  obtain ⟨ob, es, ep, e1, e2, e3, e4, e5, e6⟩ := hm
  have z1 : es.size ≤ sizeLine := by
    have q1 := e5.length
    rw [Array.length_toList] at q1
    omega
  have fe : (es.findIdx? fun e => (mixKind prog w).is k e.key) = kvs.findIdx? fun kv => decide (kv.1 = k) := by
    rw [← e5.findIdx k]
    cases es with
    | mk l => simp
  unfold dictPut
  refine wpAny_bind (wpAny_dictFind_of hkey e1 e3 e4 ?_)
  cases fi : es.findIdx? fun e => (mixKind prog w).is k e.key with
  | some i =>
    have an : (kvs.any fun kv => decide (kv.1 = k)) = true := any_of_findIdx_some (fe ▸ fi)
    refine wpAny_updateDict e1 e3 (hQ _ ⟨_, _, ep, Heap.get?_update_self _ e1 (Obj.isFreed_of_dict (Obj.data_mapDict e3 _)), e2.mapDict _, Obj.data_mapDict e3 _, e4.modify _ _, ?_, ?_⟩ (Heap.SameBut.update ..))
    · unfold stored
      rw [if_pos an]
      have fl : (es.toList.findIdx? fun e => (mixKind prog w).is k e.key) = some i := by
        rw [← fi]
        cases es with
        | mk l => simp
      have r := e5.modify e6 fl v
      cases es with
      | mk l => simpa using r
    · unfold stored
      rw [if_pos an, keys_map_store]
      exact e6
  | none =>
    have nm : k ∉ kvs.map (·.1) := not_mem_of_findIdx_none (fe ▸ fi)
    have an : ¬ (kvs.any fun kv => decide (kv.1 = k)) = true := fun z => by
      obtain ⟨kv, m, q⟩ := List.any_eq_true.mp z
      exact nm (List.mem_map.mpr ⟨kv, m, of_decide_eq_true q⟩)
    refine wpAny_updateDictKeys (hz := z1) e1 e3 (hQ _ ⟨_, _, ep + 1, Heap.get?_update_self _ e1 (Obj.isFreed_of_dict (Obj.data_mapDictKeys e3 _)), e2.mapDictKeys _, Obj.data_mapDictKeys e3 _, e4.push hkey _, ?_, ?_⟩ (Heap.SameBut.update ..))
    · unfold stored
      rw [if_neg an]
      have r := e5.append hkey ((mixKind prog w).hash k) v
      cases es with
      | mk l => simpa using r
    · unfold stored
      rw [if_neg an, List.map_append, List.nodup_append]
      exact ⟨e6, by simp, fun a ha b hb z => nm (by
        have : b = k := by simpa using hb
        rw [← this, ← z]
        exact ha)⟩
theorem noref_loop {es : Array DictEntry} (hk : KeysOf (mixKind prog w) es) {f : DictEntry → PUnit → Sem (ForInStep PUnit)} (hf : ∀ e u, (∀ a, e.key ≠ .ref a) → f e u = pure (.yield PUnit.unit)) {Q : PUnit → Shared → Prop} (h : Q PUnit.unit s) :
    wpAny (model prog w) A (forIn es PUnit.unit f) Q E s := by
  rw [← Array.forIn_toList]
  have all : ∀ e ∈ es.toList, ∀ a, e.key ≠ Value.ref a := fun e he a z => by
    obtain ⟨k, q, _⟩ := hk e (by simpa using he)
    rcases keyIs_shape (k := k) (v := e.key) q with ⟨_, _, _, q⟩ | ⟨_, _, _, q⟩ <;> (rw [z] at q; cases q)
  refine wpAny_forIn_list f (fun rest _ s' => (∀ e ∈ rest, ∀ a, e.key ≠ Value.ref a) ∧ s' = s) Q ?_ ?_ es.toList PUnit.unit ⟨all, rfl⟩
  · rintro e rest b s' ⟨ha, rfl⟩
    rw [hf e b (ha e (List.mem_cons_self ..))]
    exact wpAny_pure ⟨fun x hx => ha x (List.mem_cons_of_mem _ hx), rfl⟩
  · rintro b s' ⟨_, rfl⟩
    exact h
theorem mergeMap_ok {d o : Addr} {kvs more : List (Key × Value)} {Q : Unit → Shared → Prop} (hdo : d ≠ o) (hoS : (o == sysModules) = false) (hd : s.heap.DictOf (mixKind prog w) d kvs) (ho : s.heap.DictOf (mixKind prog w) o more)
    (hz : kvs.length + more.length ≤ sizeLine) (hQ : ∀ h', h'.DictOf (mixKind prog w) d (merged kvs more) → Heap.SameBut d s.heap h' → Q () { s with heap := h' }) :
    wpAny (model prog w) A (mergeMapping d (.ref o) false) Q E s := by
  have ty := ho.typeIs
  obtain ⟨od, esd, epd, d1, d2, d3, d4, d5, d6⟩ := id hd
  obtain ⟨oo, es, ep, o1, o2, o3, o4, o5, o6⟩ := id ho
  have hlen : more.length = es.size := by rw [← o5.length]; simp
  unfold mergeMapping
  refine wpAny_bind (wpAny_isInstance ty isSubtype_dict_dict ?_)
  simp only [if_true]
  refine wpAny_bind (wpAny_specialOf ty F.slot_dict_iter.lookup ?_)
  simp only [beq_self_eq_true, Bool.false_eq_true, if_false]
  refine wpAny_bind (wpAny_pure ?_)
  dsimp only
  rw [if_neg (by rw [hoS]; exact Bool.false_ne_true)]
  refine wpAny_bind (wpAny_dictEntries d1 d3 ?_)
  have loop : wpAny (model prog w) A (do
      let l ← dictEntries o
      let epoch ← dictEpoch o
      forIn (List.range l.size) PUnit.unit fun i _ => (do
          let l' ← dictEntries o
          match l'[i]? with
            | some e => do
              holding [e.key, e.val] (dictPut d e.hash e.key e.val)
              let ep' ← dictEpoch o
              if (ep' != epoch) = true then do
                  (unsupported "dict.changed-during-merge" : Sem PUnit)
                  pure (ForInStep.yield PUnit.unit)
                else pure (ForInStep.yield PUnit.unit)
            | _ => do
              (unsupported "dict.changed-during-merge" : Sem PUnit)
              pure (ForInStep.yield PUnit.unit) : Sem (ForInStep PUnit))
      pure ()) Q E s := by
    refine wpAny_bind (wpAny_dictEntries o1 o3 (wpAny_bind (wpAny_dictEpoch o1 o3 (wpAny_bind ?_))))
    refine wpAny_forIn_list _ (fun rest _ s' => ∃ (h' : Heap) (i : Nat), s' = { s with heap := h' } ∧ rest = (List.range es.size).drop i ∧ i ≤ es.size ∧ h'.DictOf (mixKind prog w) d (merged kvs (more.take i)) ∧ h'.get? o = some oo ∧ Heap.SameBut d s.heap h') _ ?_ ?_ _ _
      ⟨s.heap, 0, rfl, rfl, Nat.zero_le _, by simpa [merged] using hd, o1, Heap.SameBut.refl _ _⟩
    · rintro x rest b s' ⟨h', i, rfl, hr, hi, hd', ho', hs'⟩
      have hlt : i < es.size := by
        rcases Nat.lt_or_ge i es.size with q | q
        · exact q
        · rw [List.drop_of_length_le (by simpa using q)] at hr
          cases hr
      rw [List.drop_eq_getElem_cons (by simpa using hlt), List.getElem_range] at hr
      injection hr with hx hr
      subst hx
      refine wpAny_bind (wpAny_dictEntries ho' o3 ?_)
      rw [Array.getElem?_eq_getElem hlt]
      obtain ⟨⟨k, v⟩, hkv⟩ : ∃ kv, more[x]? = some kv := ⟨more[x]'(by omega), by simp [hlen, hlt]⟩
      obtain ⟨hkey, hval⟩ := o5.get? (e := es[x]) (by simp [hlt]) hkv
      obtain ⟨k', hkey', hhash⟩ := o4 es[x] (Array.getElem_mem hlt)
      obtain rfl : k' = k := (mixKind prog w).inj _ _ _ hkey' hkey
      show wpAny _ _ (holding [es[x].key, es[x].val] (dictPut d es[x].hash es[x].key es[x].val) >>= _) _ _ _
      rw [hhash, hval]
      have q1 := merged_length_le kvs (more.take x)
      have q2 : (more.take x).length ≤ more.length := by rw [List.length_take]; omega
      refine wpAny_bind (wpAny_holding (dput_ok hkey hd' (by omega) fun h2 hd2 hs2 => ?_))
      have ho2 : h2.get? o = some oo := (hs2.2 o (Ne.symm hdo)).trans ho'
      refine wpAny_bind (wpAny_dictEpoch ho2 o3 ?_)
      rw [if_neg (by simp)]
      exact wpAny_pure ⟨h2, x + 1, rfl, hr, hlt, by rw [merged_take_succ kvs more x (k', v) hkv]; exact hd2, ho2, hs'.trans hs2⟩
    · rintro b s' ⟨h', i, rfl, hr, hi, hd', ho', hs'⟩
      have e : i = es.size := by
        rcases Nat.lt_or_ge i es.size with q | q
        · rw [List.drop_eq_getElem_cons (by simpa using q)] at hr
          cases hr
        · omega
      rw [e, ← hlen, List.take_length] at hd'
      exact wpAny_pure (hQ h' hd' hs')
  split
  · refine wpAny_bind (wpAny_dictEntries o1 o3 (wpAny_bind (noref_loop o4 (fun e u hne => ?_) loop)))
    split
    · rename_i a q
      exact absurd q (hne a)
    · rfl
  · exact loop
end
/-- what is asked of the mapping and the pair; the new dict stands at p -/
def tDstar (td tk tv : TE) : TE := fun σ H Q => ∀ p, H p = none → td σ (upd H p (.dK [])) fun x H1 => ∃ (a : Addr) (kvs : List (Key × V)), x = .ref a ∧ a ≠ p ∧ Rd H1 a (.dK kvs) ∧ H1 p = some (.dK []) ∧ kvs.length ≤ 1000 ∧
  ∀ q, H1 q = none → tk σ (upd (upd H1 p (.dK kvs)) q (.dK [])) fun y H2 => tv σ H2 fun z H3 => ∃ k : Key, y = kV k ∧ H3 p = some (.dK kvs) ∧ H3 q = some (.dK []) ∧ Q (.ref p) (upd (upd H3 q (.dK [(k, z)])) p (.dK (putK kvs k z)))
section
variable {X : Cx}
theorem dictDisplay_star (m k v : Sem Value) : dictDisplay [(none, m), (some k, v)] = (do
    let d ← alloc { cls := .type "dict", data := .dict #[] }
    let x ← holding [.ref d] m
    (((holding [.ref d, x] (mergeMapping d x false)).onRaise fun y => do let _ ← holding [.ref d, x, y] (runValue (.builtin "proto.let_go" {}))).tryCatch fun e => do
        if ← isInstance e (.type "AttributeError") then
          rule "dict.display.not-a-mapping"; raiseError "TypeError" s!"'{← typeNameOf x}' object is not a mapping"
        throw e).onRaise fun y => do let _ ← holding [.ref d, y] (runValue (.builtin "proto.let_go" {}))
    let sub ← holding [.ref d] (subDict [(k, v)])
    (holding [.ref d, .ref sub] (mergeMapping d (.ref sub) false)).onRaise fun y => do let _ ← holding [.ref d, y] (runValue (.builtin "proto.let_go" {}))
    pure (.ref d)) := by
  unfold dictDisplay
  simp [List.forIn_cons, List.forIn_nil]
theorem stored_nodup {kvs : List (Key × Value)} : (kvs.map (·.1)).Nodup → merged ([] : List (Key × Value)) kvs = kvs := merged_nil_of_nodup kvs
theorem kv_put {kvs : List (Key × V)} {vs : List (Key × Value)} (r : KV kvs vs) (k : Key) {z : V} {u : Value} (rz : RelV z u) : KV (putK kvs k z) (stored vs k u) := r.put k rz
theorem pe_dstar {d k v : Expr} {td tk tv : TE} {pos : Pos} (hd : PE X d td) (hk : PE X k tk) (hv : PE X v tv) : PE X (.Dict [none, some k] [d, v] pos) (tDstar td tk tv) := by
  refine ⟨fun pins s σ H Q I h => ?_⟩
  rw [arm_eval_Dict]
  refine wpAny_bind (wpAny_standAt ?_)
  show wpAny _ _ (dictDisplay [(none, do let x ← eval d X.env; standAt pos; pure x), (some (eval k X.env), do let x ← eval v X.env; standAt pos; pure x)]) _ _ _
  rw [dictDisplay_star]
  refine wpAny_bind (wpAny_alloc ?_)
  have hn := I.hok.fresh (Nat.le_refl s.heap.objs.size)
  have I1 := I.laid (a := s.heap.objs.size) (o := .dK []) (h' := s.heap.push { cls := .type "dict", data := .dict #[] }) (t' := s.toks) (fun _ _ q => Heap.get?_push_of_some _ q) (Nat.le_refl _) (dk_empty s.heap I.big)
  refine wpAny_bind (wpAny_holding (wpAny_bind (thn (hd.run pins _ σ _ _ I1 (h _ hn)) fun xv s1 hh => ?_)))
  obtain ⟨x, H1, J1, rx, a, kvs, ex, nap, ea, ep, hl, hq⟩ := hh
  subst ex
  obtain rfl : xv = Value.ref a := rx
  refine wpAny_bind (wpAny_standAt (wpAny_pure ?_))
  obtain ⟨_, ma, va, ra, da⟩ := dk_rd J1.hok ea
  obtain ⟨_, mp, vp, rp, dp⟩ := dk_of J1.hok ep
  cases rp
  have lva : va.length ≤ 1000 := by rw [← ra.length]; exact hl
  have ndv : (va.map (·.1)).Nodup := by
    obtain ⟨_, _, _, _, _, _, _, _, nd⟩ := da
    exact nd
  refine wpAny_bind (wpAny_onRaise (wpAny_tryCatch (wpAny_onRaise (wpAny_holding (mergeMap_ok (Ne.symm nap) ma dp da (by rw [sizeLine_eq, List.length_nil]; omega) fun h2 d2 s2 => ?_)))))
  rw [stored_nodup ndv] at d2
  have kz : kvs.length ≤ sizeLine := by rw [sizeLine_eq]; omega
  have J2 : Inv X pins σ (upd H1 s.heap.objs.size (.dK kvs)) { s1 with heap := h2, toks := s1.toks } :=
    d_write J1 (by rw [ep]; exact True.intro) s2 (let ⟨q, _, _, hq, _⟩ := d2; ⟨q, hq⟩) (dk_new kz mp ra d2)
  have hq2 : H1 h2.objs.size = none := by
    have f2 := J2.hok.fresh (Nat.le_refl h2.objs.size)
    have ne : h2.objs.size ≠ s.heap.objs.size := fun z => by
      rw [z, upd_same] at f2
      cases f2
    rw [upd_ne ne] at f2
    exact f2
  have J3 := J2.laid (a := h2.objs.size) (o := .dK []) (h' := h2.push { cls := .type "dict", data := .dict #[] }) (t' := s1.toks) (fun _ _ q => Heap.get?_push_of_some _ q) (Nat.le_refl _) (dk_empty h2 J2.big)
  refine wpAny_bind (wpAny_holding (wpAny_subDict (knd := mixKind X.prog X.w) (show 1 ≤ 15 by decide) ?_))
  unfold evalPairs
  refine wpAny_bind (thn (hk.run pins _ σ _ _ J3 (hq _ hq2)) fun kv s4 hh => ?_)
  obtain ⟨y, H4, J4, ry, hv4⟩ := hh
  refine wpAny_bind (wpAny_holding (wpAny_bind (thn (hv.run pins s4 σ H4 _ J4 hv4) fun vv s5 hh => ?_)))
  obtain ⟨z, H5, J5, rz, ky, ey, e5p, e5q, fin⟩ := hh
  subst ey
  refine wpAny_bind (wpAny_standAt (wpAny_pure (wpAny_bind ?_)))
  unfold evalPairs
  refine wpAny_holding (wpAny_pure (wpAny_pure ?_))
  obtain ⟨_, mq, vq, rq, dq⟩ := dk_of J5.hok e5q
  cases rq
  refine ⟨[(ky, vv)], ⟨kV_is ry, rfl, trivial⟩, dq, fun h6 d6 s6 => ?_⟩
  have d6' : h6.DictOf (mixKind X.prog X.w) h2.objs.size [(ky, vv)] := d6
  have J6 : Inv X pins σ (upd H5 h2.objs.size (.dK [(ky, z)])) { s5 with heap := h6, toks := s5.toks + 1 } :=
    d_write J5 (by rw [e5q]; exact True.intro) s6 (let ⟨q, _, _, hq, _⟩ := d6; ⟨q, hq⟩) (dk_new (by show 1 ≤ sizeLine; decide) mq (Paired.cons ⟨rfl, rz⟩ Paired.nil) d6')
  have npq : s.heap.objs.size ≠ h2.objs.size := fun z => by
    rw [z] at e5p
    have q := e5p.symm.trans e5q
    have f2 := J2.hok.fresh (Nat.le_refl h2.objs.size)
    rw [z, upd_same] at f2
    cases f2
  have e6p : upd H5 h2.objs.size (.dK [(ky, z)]) s.heap.objs.size = some (.dK kvs) := by rw [upd_ne npq]; exact e5p
  obtain ⟨_, mp6, v6, r6, d6p⟩ := dk_of J6.hok e6p
  refine wpAny_bind (wpAny_onRaise (wpAny_holding (mergeMap_ok npq mq d6p d6' (by rw [← r6.length, sizeLine_eq]; show kvs.length + 1 ≤ _; omega) fun h7 d7 s7 => ?_)))
  have pl : (putK kvs ky z).length ≤ sizeLine := by
    have := length_putK kvs ky z
    rw [sizeLine_eq]
    omega
  have J7 : Inv X pins σ (upd (upd H5 h2.objs.size (.dK [(ky, z)])) s.heap.objs.size (.dK (putK kvs ky z))) { s5 with heap := h7, toks := s5.toks + 1 } :=
    d_write (s := { s5 with heap := h6, toks := s5.toks + 1 }) (t' := s5.toks + 1) J6 (by rw [e6p]; exact True.intro) s7 (let ⟨q, _, _, hq, _⟩ := d7; ⟨q, hq⟩) (dk_new pl mp6 (kv_put r6 ky rz) d7)
  exact wpAny_pure ⟨.ref s.heap.objs.size, _, J7, rfl, fin⟩
theorem call_dictOf : CallR X (.type "dict") (fun xs H Q => ∃ (a : Addr) (kvs : List (Key × V)), xs = [.ref a] ∧ Rd H a (.dK kvs) ∧ ∀ p, H p = none → Q (.ref p) (upd H p (.dK kvs))) := by
  intro pins s σ H xs us Q I r h
  obtain ⟨a, kvs, rfl, ea, q⟩ := h
  obtain ⟨u, rfl, ru⟩ := vals1 r
  obtain rfl : u = Value.ref a := ru
  exact d_copyOf I ea fun p s' hp I' => ⟨.ref p, _, I', rfl, q p hp⟩
end

/-! ### match: texts, None, names, sequences (of tuples) -/
abbrev BS := List (Nat × V)
abbrev TPat := V → Hp → (Option BS → Hp → Prop) → Prop
abbrev TPats := List V → Hp → (Option BS → Hp → Prop) → Prop
section
variable {X : Cx}
/-- the slots and what they are to hold -/
def BindR (X : Cx) : BS → List (Str × Value) → Prop := Paired fun (a : Nat × V) (b : Str × Value) => X.N[a.1]? = some b.1 ∧ Loc X.env.scope b.1 ∧ (X.fn b.1 = true ∨ X.env.scope.names.lookup b.1 = some .local) ∧ RelV a.2 b.2
def OptR (X : Cx) : Option BS → Option (List (Str × Value)) → Prop
  | none, none => True
  | some a, some b => BindR X a b
  | _, _ => False
def MP (X : Cx) (pins : List (Addr × Obj)) (σ : L2.St) (Q : Option BS → Hp → Prop) (r : Option (List (Str × Value))) (s' : Shared) : Prop := ∃ r' H', Inv X pins σ H' s' ∧ OptR X r' r ∧ Q r' H'
structure PPat (X : Cx) (p : Pattern) (t : TPat) : Prop where
  run : ∀ (pins : List (Addr × Obj)) (s : Shared) (σ : L2.St) (H : Hp) (x : V) (u : Value) (Q : Option BS → Hp → Prop), Inv X pins σ H s → RelV x u → t x H Q → wpAny (model X.prog X.w) X.A (matchPattern p X.env u) (MP X pins σ Q) X.xe s
structure PPats (X : Cx) (ps : List Pattern) (t : TPats) : Prop where
  run : ∀ (pins : List (Addr × Obj)) (s : Shared) (σ : L2.St) (H : Hp) (xs : List V) (us : List Value) (Q : Option BS → Hp → Prop), Inv X pins σ H s → Vals xs us → t xs H Q → wpAny (model X.prog X.w) X.A (matchEach ps X.env us) (MP X pins σ Q) X.xe s
/-- a written text -/
def mStr (z : Str) : TPat := fun x H Q => scal x (.str z) = true ∧ Q (if x = .str z then some [] else none) H
theorem pm_str {z : Str} {j : Nat} {p pos : Pos} : PPat X (.MatchValue (.Constant (.str z) j p) pos) (mStr z) := by
  refine ⟨fun pins s σ H x u Q I rx h => ?_⟩
  obtain ⟨hs, q⟩ := h
  refine wpAny_matchPattern_Value (Calls.Constant_str ?_)
  refine wpAny_mono (op_eq pins _ σ H x (.str z) u _ (fun v H' => v = .bl (decide (x = .str z)) ∧ H' = H) (I.tok _) rx ⟨_, rfl⟩ ⟨hs, rfl, rfl⟩) (fun c s2 hc => ?_) fun _ _ z => z
  obtain ⟨v, H', I2, r2, rfl, rfl⟩ := hc
  cases r2
  refine wpAny_truthy_bool ?_
  by_cases e : x = .str z
  · rw [if_pos e] at q
    rw [decide_eq_true e, if_pos rfl]
    exact ⟨some [], H', I2, .nil, q⟩
  · rw [if_neg e] at q
    rw [decide_eq_false e, if_neg (by decide)]
    exact ⟨none, H', I2, trivial, q⟩
def mNon : TPat := fun x H Q => Q (if x = .non then some [] else none) H
theorem pm_non {pos : Pos} : PPat X (.MatchSingleton .none pos) mNon := by
  refine ⟨fun pins s σ H x u Q I rx h => ?_⟩
  show wpAny _ _ (pure (match Const.none, u with | .none, .none => some [] | .bool a, .bool b => if a == b then some [] else none | _, _ => none)) _ _ _
  refine wpAny_pure ?_
  have h : Q (if x = .non then some [] else none) H := h
  cases x with
  | non =>
    cases rx
    rw [if_pos rfl] at h
    exact ⟨some [], H, I, .nil, h⟩
  | _ =>
    rw [if_neg (by intro z; cases z)] at h
    refine ⟨none, H, I, ?_, h⟩
    first
      | (cases rx; trivial)
      | (obtain ⟨_, rfl⟩ := rx; trivial)
/-- a name, in slot i -/
def mAs (i : Nat) : TPat := fun x H Q => Q (some [(i, x)]) H
theorem pm_as {i : Nat} {n : Str} {pos : Pos} (hi : X.N[i]? = some n) (hl : Loc X.env.scope n) (hf : X.fn n = true ∨ X.env.scope.names.lookup n = some .local := by first | exact .inl rfl | exact .inr rfl) : PPat X (.MatchAs none (some n) pos) (mAs i) := by
  refine ⟨fun pins s σ H x u Q I rx h => wpAny_matchPattern_Capture ?_⟩
  exact ⟨some [(i, x)], H, I, .cons ⟨hi, hl, hf, rx⟩ .nil, h⟩
def mWild : TPat := fun _ H Q => Q (some []) H
theorem pm_wild {pos : Pos} : PPat X (.MatchAs none none pos) mWild := ⟨fun pins s σ H x u Q I rx h => wpAny_matchPattern_Capture ⟨some [], H, I, .nil, h⟩⟩
def mNil : TPats := fun _ H Q => Q (some []) H
def mCons (t : TPat) (ts : TPats) : TPats := fun xs H Q => ∃ x r, xs = x :: r ∧ t x H fun b H1 => match b with
  | none => Q none H1
  | some bs => ts r H1 fun b2 H2 => match b2 with
    | none => Q none H2
    | some more => Q (some (bs ++ more)) H2
theorem pms_nil : PPats X [] mNil := ⟨fun pins s σ H xs us Q I r h => wpAny_matchEach_nil ⟨some [], H, I, .nil, h⟩⟩
theorem bindR_app {a b : BS} {c d : List (Str × Value)} (h : BindR X a c) (k : BindR X b d) : BindR X (a ++ b) (c ++ d) := by
  induction h with
  | nil => exact k
  | cons r _ ih => exact .cons r ih
theorem pms_cons {p : Pattern} {ps : List Pattern} {t : TPat} {ts : TPats} (h1 : PPat X p t) (h2 : PPats X ps ts) (hs : p.isStar = false := by rfl) : PPats X (p :: ps) (mCons t ts) := by
  refine ⟨fun pins s σ H xs us Q I r h => ?_⟩
  obtain ⟨x, xr, rfl, h⟩ := h
  cases r with
  | cons rx rr =>
    refine wpAny_matchEach_cons (wpAny_mono (h1.run pins s σ H x _ _ I rx h) (fun b s1 q => ?_) fun _ _ z => z) hs
    obtain ⟨b', H1, I1, rb, q⟩ := q
    cases b' with
    | none =>
      cases b with
      | none => exact ⟨none, H1, I1, trivial, q⟩
      | some _ => exact False.elim rb
    | some bs =>
      cases b with
      | none => exact False.elim rb
      | some bv =>
        refine wpAny_mono (h2.run pins s1 σ H1 xr _ _ I1 rr q) (fun b2 s2 q2 => ?_) fun _ _ z => z
        obtain ⟨c', H2, I2, rc, q2⟩ := q2
        cases c' with
        | none =>
          cases b2 with
          | none => exact ⟨none, H2, I2, trivial, q2⟩
          | some _ => exact False.elim rc
        | some cs =>
          cases b2 with
          | none => exact False.elim rc
          | some cv => exact ⟨some (bs ++ cs), H2, I2, bindR_app rb rc, q2⟩
/-- a sequence of n patterns, of a tuple -/
def mSeq (K : PySem.W.Frag) (n : Nat) (ts : TPats) : TPat := fun x H Q => ∃ a xs, x = .ref a ∧ SqT K H a xs ∧ if xs.length = n then ts xs H Q else Q none H
theorem pm_seq {ps : List Pattern} {ts : TPats} {n : Nat} {pos : Pos} (hc : X.calm = true) (h : PPats X ps ts) (hn : ps.length = n := by rfl) (hstar : ps.findIdx? (·.isStar) = none := by rfl) (hwild : (ps.all fun p => p.isWildcard || (p.isStar && p.names.isEmpty)) = false := by rfl) : PPat X (.MatchSequence ps pos) (mSeq X.K n ts) := by
  refine ⟨fun pins s σ H x u Q I rx h' => ?_⟩
  obtain ⟨a, xs, rfl, hq, h'⟩ := h'
  obtain rfl : u = Value.ref a := rx
  obtain ⟨its, rv, ht, hz⟩ := I.tuple hq
  have lx : its.toArray.size = xs.length := by simpa using rv.length.symm
  have fit : ((its.toArray.size : Nat) : Int) < 2 ^ 63 := by
    have e : (2 : Int) ^ 63 = 9223372036854775808 := by decide
    have : sizeLine < 1000000000 := by decide
    rw [e]
    omega
  by_cases hl : xs.length = n
  · rw [if_pos hl] at h'
    refine PyProof.Rows.matchSeq_tuple_hit ht fit (by omega) ?_ hstar hwild
    have e : ps.length = its.toArray.size := by omega
    rw [e]
    refine PyProof.Rows.unpackItems_tuple (s := { s with toks := s.toks + 1 + 1 }) (I.ok.hd hc) ht fun h2 he => ?_
    have I2 : Inv X pins σ H { s with heap := h2, toks := s.toks + 1 + 1 } := I.kept (t' := s.toks + 1 + 1) fun b o q => he b o (Nat.ne_of_lt (Heap.lt_size q)) q
    exact h.run pins _ σ H xs _ Q I2 (by simpa using rv) h'
  · rw [if_neg hl] at h'
    exact PyProof.Rows.matchSeq_tuple_miss ht fit (by omega) ⟨none, H, I.tok _, trivial, h'⟩ hstar hwild
/-! the cases -/
def setAll (σ : L2.St) : BS → L2.St
  | [] => σ
  | (i, v) :: r => setAll (σ.set i (some v)) r
abbrev TCs := V → TS
structure PCs (X : Cx) (cs : List MatchCase) (t : TCs) : Prop where
  run : ∀ (pins : List (Addr × Obj)) (s : Shared) (σ : L2.St) (H : Hp) (x : V) (u : Value) (b : Bool) (D : Ends), Inv X pins σ H s → RelV x u → t x D σ H → wpAny (model X.prog X.w) X.A (matchCases cs X.env u b) (SP X pins D) X.xe s
theorem bind_all (hN : X.N.Nodup) {pins : List (Addr × Obj)} {H : Hp} {bs : BS} {vs : List (Str × Value)} (r : BindR X bs vs) : ∀ {σ : L2.St} {s : Shared} {Q : Unit → Shared → Prop}, Inv X pins σ H s → (∀ s', Inv X pins (setAll σ bs) H s' → Q () s') → wpAny (model X.prog X.w) X.A (assignInOrder (vs.map fun (n, _) => bindName X.env n) (vs.map (·.2))) Q X.xe s := by
  unfold BindR at r
  induction r with
  | nil => intro σ s Q I h; exact wpAny_assignInOrder_none (h s I)
  | cons r rr ih =>
    rename_i a b bs vs
    intro σ s Q I h
    obtain ⟨i, v⟩ := a
    obtain ⟨n, u⟩ := b
    obtain ⟨r1, r2, r3, r4⟩ := r
    exact wpAny_assignInOrder_more (wpAny_bindName (store_ok I hN r1 r2 r4 (fun s' I' => ih I' h) r3))
def tCs0 : TCs := fun _ D σ H => D.nx σ H
theorem pcs_nil : PCs X [] tCs0 := ⟨fun pins s σ H x u b D I r h => wpAny_matchCases_nil ⟨σ, H, I, h⟩⟩
def tCsC (tp : TPat) (tb : TS) (tr : TCs) : TCs := fun x D σ H => tp x H fun r H1 => match r with
  | none => tr x D σ H1
  | some bs => tb D (setAll σ bs) H1
theorem pcs_cons {p : Pattern} {body : List Stmt} {rest : List MatchCase} {tp : TPat} {tb : TS} {tr : TCs} (hN : X.N.Nodup) (hp : PPat X p tp) (hb : PSs X body tb) (hr : PCs X rest tr) : PCs X (⟨p, none, body⟩ :: rest) (tCsC tp tb tr) := by
  refine ⟨fun pins s σ H x u b D I r h => ?_⟩
  refine wpAny_matchCases_cons (wpAny_mono (hp.run pins s σ H x u _ I r h) (fun c s1 q => ?_) fun _ _ z => z)
  obtain ⟨c', H1, I1, rc, q⟩ := q
  cases c' with
  | none =>
    cases c with
    | none => exact hr.run pins s1 σ H1 x u false D I1 r q
    | some _ => exact False.elim rc
  | some bs =>
    cases c with
    | none => exact False.elim rc
    | some vs => exact bind_all hN rc I1 fun s2 I2 => hb.run pins s2 _ H1 D I2 q
def tMatch (te : TE) (tc : TCs) : TS := fun D σ H => te σ H fun x H1 => tc x D σ H1
theorem ps_match {e : Expr} {cs : List MatchCase} {te : TE} {tc : TCs} {pos : Pos} (he : PE X e te) (hc : PCs X cs tc) : PS X (.Match e cs pos) (tMatch te tc) := by
  refine ⟨fun pins s σ H D I h => ?_⟩
  exact wpAny_Match (thn (he.run pins s σ H _ I h) fun u s1 ⟨x, H1, I1, rx, q⟩ => hc.run pins s1 σ H1 x u true D I1 rx q)
end

/-! ### the pool: _law_pool, _law_mixed, _law_draw -/
abbrev sMixed : Stmt := topS 20
abbrev NMixed : List Str := ["_law_number", "_law_count", "_law_many"]
abbrev PMixed : List Str := ["_law_number", "_law_count", "_law_many"]
theorem scMixed : FnScope NMixed PMixed (defScope sMixed) := ⟨rfl, rfl, rfl, by decide +kernel, rfl, by decide +kernel, by decide +kernel⟩
abbrev sDraw : Stmt := topS 21
abbrev NDraw : List Str := ["_law_pool_here", "_law_many", "_law_at", "_law_cells", "_law_cell"]
abbrev PDraw : List Str := ["_law_pool_here", "_law_many"]
theorem scDraw : FnScope NDraw PDraw (defScope sDraw) := ⟨rfl, rfl, rfl, by decide +kernel, rfl, by decide +kernel, by decide +kernel⟩
abbrev sPool : Stmt := topS 19
abbrev NPool : List Str := ["_law_script", "_law_cells", "_law_cell", "_law_seed"]
abbrev PPool : List Str := ["_law_script"]
theorem scPool : FnScope NPool PPool (defScope sPool) := ⟨rfl, rfl, rfl, by decide +kernel, rfl, by decide +kernel, by decide +kernel⟩
/-- the pool at p, its cells at c; lim is its last item; at most n draws so far -/
def PoolAt (H : Hp) (p c : Addr) (lim : V) (n : Nat) : Prop :=
  ∃ (i : Nat) (cells : List Int) (cnt seed mode : Int), H p = some (.lst [.ref c, .int (i : Int), .int cnt, .int seed, .int mode, lim]) ∧ H c = some (.lst (cells.map V.int)) ∧
    i ≤ cells.length ∧ 0 ≤ cnt ∧ cnt ≤ (n : Int) ∧ 0 ≤ seed ∧ seed < 2147483647
def spMixed : Sp := fun vs H Q _ => ∃ (n c m : Int), vs = [.int n, .int c, .int m] ∧ 0 ≤ n ∧ n < 2147483647 ∧ 0 ≤ c ∧ c ≤ 1000000000000 ∧ 0 < m ∧ ∀ r : Int, 0 ≤ r → r < m → Q (.int r) H
def spDraw : Sp := fun vs H Q _ => ∃ (p c : Addr) (lim : V) (n : Nat) (m : Int), vs = [.ref p, .int m] ∧ PoolAt H p c lim n ∧ n < 1000000000000 ∧ 0 < m ∧ m ≤ 1000000000000000000 ∧
  ∀ (r : Int) (H' : Hp), 0 ≤ r → r < m → PoolAt H' p c lim (n + 1) → But p c H H' → Q (.int r) H'
def spPool (K : PySem.W.Frag) : Sp := fun vs H Q _ => ∃ (a : Addr) (ns : List Int), vs = [.ref a] ∧ SqL K H a (ns.map V.int) ∧ ns.length ≤ 63 ∧
  ∀ (p c : Addr) (H' : Hp), Same H H' → H p = none → H c = none → PoolAt H' p c (.int 30) 0 → Q (.ref p) H'
structure TxPool (mg : Str → Option Value) : Prop where
  n_int : mg "int" = none
  n_len : mg "len" = none
theorem pool_ne {H : Hp} {p c : Addr} {xs : List V} {cells : List Int} (hp : H p = some (.lst (.ref c :: xs))) (hc : H c = some (.lst (cells.map V.int))) : p ≠ c := ne_of hp hc (by
  intro z
  injection z with z
  cases cells with
  | nil => cases z
  | cons a r => injection z with z _; cases z)
theorem pow_lt {n c : Int} (h1 : 0 ≤ n) (h2 : n < 2147483647) (h3 : 0 ≤ c) (h4 : c ≤ 1000000000000) : (n + 7919 * c).natAbs < 2 ^ 64 := by
  have : (2 : Nat) ^ 64 = 18446744073709551616 := by decide
  omega
theorem m63 {m : Int} (h0 : 0 < m) (h1 : m ≤ 1000000000000000000) : m.natAbs < 2 ^ 63 := by
  have : (2 : Nat) ^ 63 = 9223372036854775808 := by decide
  omega
theorem set_ints (cells : List Int) (j : Nat) (z : Int) : (cells.map V.int).set j (V.int z) = (cells.set j z).map V.int := by
  rw [List.map_set]
theorem same_new {H : Hp} {p : Addr} {o : HO} (h : H p = none) : Same H (upd H p o) := fun b x e => by
  rw [upd_ne (ne_of_none e h)]
  exact e
theorem atI_in {α : Type} {xs : List α} {i : Int} (h0 : 0 ≤ i) (h1 : i < xs.length) : ∃ v, atI xs i = some v ∧ v ∈ xs := by
  have h : i.toNat < xs.length := by omega
  refine ⟨xs[i.toNat], ?_, List.getElem_mem h⟩
  have e : i = ((i.toNat : Nat) : Int) := by omega
  have q := atI_nat (xs := xs) (j := i.toNat) (v := xs[i.toNat]) (by simp [h])
  rw [← e] at q
  exact q
theorem PoolAt.same {H H' : Hp} {p c : Addr} {lim : V} {n : Nat} (h : PoolAt H p c lim n) (s : Same H H') : PoolAt H' p c lim n := by
  obtain ⟨i, cs, cn, sd, md, e1, e2, e⟩ := h
  exact ⟨i, cs, cn, sd, md, s _ _ e1, s _ _ e2, e⟩
theorem PoolAt.ne1 {H : Hp} {p c q : Addr} {lim : V} {n : Nat} (h : PoolAt H p c lim n) (hq : H q = none) : q ≠ p := fun z => by
  obtain ⟨_, _, _, _, _, e, _⟩ := h
  rw [z, e] at hq
  cases hq
theorem PoolAt.ne2 {H : Hp} {p c q : Addr} {lim : V} {n : Nat} (h : PoolAt H p c lim n) (hq : H q = none) : q ≠ c := fun z => by
  obtain ⟨_, _, _, _, _, _, e, _⟩ := h
  rw [z, e] at hq
  cases hq
theorem str_app_len (a b : Str) : (a ++ b : Str).length = a.length + b.length := by
  show (a.cps ++ b.cps).size = a.cps.size + b.cps.size
  exact Array.size_append
theorem PoolAt.mono {H : Hp} {p c : Addr} {lim : V} {n m : Nat} (h : PoolAt H p c lim n) (hm : n ≤ m) : PoolAt H p c lim m := by
  obtain ⟨i, cs, cn, sd, md, e1, e2, e3, e4, e5, e⟩ := h
  exact ⟨i, cs, cn, sd, md, e1, e2, e3, e4, by omega, e⟩
theorem PoolAt.upd {H : Hp} {p c q : Addr} {lim : V} {n : Nat} {o : HO} (h : PoolAt H p c lim n) (h1 : q ≠ p) (h2 : q ≠ c) : PoolAt (upd H q o) p c lim n := by
  obtain ⟨i, cs, cn, sd, md, e1, e2, e⟩ := h
  exact ⟨i, cs, cn, sd, md, by rw [upd_ne h1.symm]; exact e1, by rw [upd_ne h2.symm]; exact e2, e⟩
section
variable {P : Program} {w : World} {K : PySem.W.Frag} {mg : Str → Option Value} {base : Heap}
theorem ok_Mixed {f : Addr} {fd : FuncData} (F : Fun K "_law_mixed" "_law_mixed" sMixed f fd) (T : TxPool mg) : FnOk P w K mg base CX0 1 f fd PMixed spMixed := by
  refine F.ok scMixed (fun vs H Q E h => ?_) (fun cdv A outer s H vs Q E hr h => ?_)
  · obtain ⟨n, c, m, rfl, _⟩ := h
    rfl
  · obtain ⟨n, c, m, rfl, n0, n1, c0, c1, m0, k⟩ := h
    refine ⟨_, (pss_one (ps_ret (pe_op op_mod (pe_op op_fdiv (pe_callTy call_int1 (by rfl) T.n_int bb_int (pa_cons (pe_op op_mod (pe_op op_pow (pe_callTy call_int1 (by rfl) T.n_int bb_int (pa_cons (pe_op op_add (pv 0) (pe_op op_mul pe_int (pv 1))) pa_nil)) pe_int) pe_int) pa_nil)) pe_int) (pv 2)))), ?_⟩
    refine ⟨_, rfl, _, rfl, _, _, rfl, rfl, .inl ⟨by decide, by decide⟩, _, _, rfl, rfl, .inl ⟨_, rfl, ?_⟩⟩
    refine ⟨_, _, rfl, rfl, ⟨by decide, by decide, pow_lt n0 n1 c0 c1⟩, _, _, rfl, rfl, (show (0 : Int) < 2147483647 by decide), .inl ⟨_, rfl, ?_⟩⟩
    refine ⟨_, _, rfl, rfl, ⟨by decide, by decide⟩, _, rfl, _, _, rfl, rfl, m0, ?_⟩
    exact k _ (Int.emod_nonneg _ (by omega)) (Int.emod_lt_of_pos _ m0)
theorem ok_Draw {f : Addr} {fd : FuncData} (F : Fun K "_law_draw" "_law_draw" sDraw f fd) (T : TxPool mg) (GM : Has P w K mg base CX0 1 "_law_mixed" PMixed spMixed) :
    FnOk P w K mg base CX0 2 f fd PDraw spDraw := by
  refine F.ok scDraw (fun vs H Q E h => ?_) (fun cdv A outer s H vs Q E hr h => ?_)
  · obtain ⟨p, c, lim, n, m, rfl, _⟩ := h
    rfl
  · obtain ⟨p, c, lim, n, m, rfl, ⟨i, cells, cnt, seed, mode, hp, hc, hi, c0, c1, s0, s1⟩, hn, m0, m1, k⟩ := h
    have npc : p ≠ c := pool_ne hp hc
    refine ⟨_, (pss_cons (ps_asg (pe_op op_add (pe_ix (r := rIxL K) ix_list (pv 0) pe_int (fun _ _ => rfl)) pe_int) (pg_sub (pv 0) pe_int set_list))
  (pss_cons (ps_if (pt_cmpR op_ge (pe_ix (r := rIxL K) ix_list (pv 0) pe_int (fun _ _ => rfl)) (pe_callB call_len_seq (by rfl) T.n_len bb_len (pa_cons (pe_ix (r := rIxL K) ix_list (pv 0) pe_int (fun _ _ => rfl)) pa_nil)) (nomark _))
  (pss_one (ps_ret (pe_callH GM hr rfl pass0 (pa_cons (pe_ix (r := rIxL K) ix_list (pv 0) pe_int (fun _ _ => rfl)) (pa_cons (pe_ix (r := rIxL K) ix_list (pv 0) pe_int (fun _ _ => rfl)) (pa_cons (pv 1) pa_nil))))))
  pss_nil)
  (pss_cons (ps_set (i := 2) scDraw.nd rfl (Or.inl rfl) (pe_ix (r := rIxL K) ix_list (pv 0) pe_int (fun _ _ => rfl)))
  (pss_cons (ps_set (i := 3) scDraw.nd rfl (Or.inl rfl) (pe_ix (r := rIxL K) ix_list (pv 0) pe_int (fun _ _ => rfl)))
  (pss_cons (ps_set (i := 4) scDraw.nd rfl (Or.inl rfl) (pe_ix (r := rIxL K) ix_list (pv 3) (pv 2) (fun _ _ => rfl)))
  (pss_cons (ps_if (PW.pt (pw_and (pt_cmpR op_ne (pe_ix (r := rIxL K) ix_list (pv 0) pe_int (fun _ _ => rfl)) pe_int (nomark _)) (pw_and1 (pt_cmpR op_lt (pv 4) (pe_op op_pow pe_int pe_int) (nomark _)))))
  (pss_cons (ps_asg (pe_op op_add (pe_ix (r := rIxL K) ix_list (pv 0) pe_int (fun _ _ => rfl)) pe_int) (pg_sub (pv 0) pe_int set_list))
  (pss_cons (ps_if (pt_cmpR op_eq (pe_ix (r := rIxL K) ix_list (pv 0) pe_int (fun _ _ => rfl)) pe_int (nomark _))
  (pss_cons (ps_asg (pe_op op_add (pv 2) pe_int) (pg_sub (pv 0) pe_int set_list))
  (pss_one (ps_asg pe_int (pg_sub (pv 0) pe_int set_list))))
  pss_nil)
  (pss_one (ps_ret (pe_callH GM hr rfl pass0 (pa_cons (pe_op op_mod (pe_callTy call_int1 (by rfl) T.n_int bb_int (pa_cons (pv 4) pa_nil)) pe_int) (pa_cons (pe_ix (r := rIxL K) ix_list (pv 0) pe_int (fun _ _ => rfl)) (pa_cons (pv 1) pa_nil))))))))
  pss_nil)
  (pss_cons (ps_asg pe_int (pg_sub (pv 0) pe_int set_list))
  (pss_cons (ps_asg (pe_op op_fdivW (pe_callTy call_int1 (by rfl) T.n_int bb_int (pa_cons (pv 4) pa_nil)) (pv 1)) (pg_sub (pv 3) (pv 2) set_list))
  (pss_cons (ps_if (pt_cmpR op_eq (pe_ix (r := rIxL K) ix_list (pv 3) (pv 2) (fun _ _ => rfl)) pe_int (nomark _))
  (pss_cons (ps_asg (pe_op op_add (pv 2) pe_int) (pg_sub (pv 0) pe_int set_list))
  (pss_one (ps_asg pe_int (pg_sub (pv 0) pe_int set_list))))
  pss_nil)
  (pss_one (ps_ret (pe_op op_mod (pe_callTy call_int1 (by rfl) T.n_int bb_int (pa_cons (pv 4) pa_nil)) (pv 1))))))))))))), ?_⟩
    -- pool[2] = pool[2] + 1
    refine ⟨_, rfl, p, _, _, _, rfl, rfl, SqL.of hp, rfl, _, _, rfl, rfl, _, rfl, p, _, _, _, rfl, rfl, hp, rfl, ?_⟩
    have st : ∀ (i' : Nat) (md : Int) (cs : List Int), i' ≤ cs.length → ∀ H' : Hp, H' p = some (.lst [.ref c, .int (i' : Int), .int (cnt + 1), .int seed, .int md, lim]) → H' c = some (.lst (cs.map V.int)) → PoolAt H' p c lim (n + 1) :=
      fun i' md cs hl H' a b => ⟨i', cs, cnt + 1, seed, md, a, b, hl, by omega, by omega, s0, s1⟩
    have ac : ∀ {H' : Hp} {o : HO} {x : HO}, H' c = some x → upd H' p o c = some x := fun e => by rw [upd_ne npc.symm]; exact e
    have ap : ∀ {H' : Hp} {o : HO} {x : HO}, H' p = some x → upd H' c o p = some x := fun e => by rw [upd_ne npc]; exact e
    have kq : ∀ {H' : Hp} {o : HO}, But p c H H' → But p c H (upd H' p o) := fun b x o e hb hx => by rw [upd_ne hb]; exact b x o e hb hx
    have kc : ∀ {H' : Hp} {o : HO}, But p c H H' → But p c H (upd H' c o) := fun b x o e hb hx => by rw [upd_ne hx]; exact b x o e hb hx
    -- if pool[1] >= len(pool[0])
    refine ⟨_, rfl, p, _, _, _, rfl, rfl, SqL.of upd_same, rfl, _, rfl, p, _, _, _, rfl, rfl, SqL.of upd_same, rfl, c, _, rfl, .inl (SqL.of (ac hc)), _, _, rfl, rfl, _, rfl, ?_⟩
    refine ite2 (fun hge => ?_) (fun hlt => ?_)
    · refine ⟨_, rfl, p, _, _, _, rfl, rfl, SqL.of upd_same, rfl, _, rfl, p, _, _, _, rfl, rfl, SqL.of upd_same, rfl, _, rfl, seed, cnt + 1, m, rfl, s0, s1, by omega, by omega, m0, fun r r0 r1 => ?_⟩
      exact k r _ r0 r1 (st i mode cells hi _ upd_same (ac hc)) (kq But.refl)
    · have hil : i < cells.length := by
        have z : ¬ ((cells.map V.int).length : Int) ≤ (i : Int) := fun z => hlt (decide_eq_true z)
        rw [List.length_map] at z
        omega
      obtain ⟨cell, hcell⟩ : ∃ z, cells[i]? = some z := ⟨cells[i], by simp [hil]⟩
      have hcV : (cells.map V.int)[i]? = some (V.int cell) := by rw [List.getElem?_map, hcell]; rfl
      -- at, cells, cell
      refine ⟨_, rfl, p, _, _, _, rfl, rfl, SqL.of upd_same, rfl, ?_⟩
      refine ⟨_, rfl, p, _, _, _, rfl, rfl, SqL.of upd_same, rfl, ?_⟩
      refine ⟨_, rfl, _, rfl, c, _, _, _, rfl, rfl, SqL.of (ac hc), atI_nat hcV, ?_⟩
      -- if pool[4] != 2 and cell < 10 ** 18
      refine ⟨_, rfl, p, _, _, _, rfl, rfl, SqL.of upd_same, rfl, rfl, _, rfl, ?_⟩
      refine ite2 (fun h2 => ?gA) (fun h2 => iteF ?gB)
      case' gA => refine ⟨_, rfl, _, _, rfl, rfl, ⟨by decide, by decide, by decide⟩, _, _, rfl, rfl, _, rfl, ite2 (fun h3 => ?gD) (fun h3 => ?gC)⟩
      case gD =>
        refine ⟨_, rfl, p, _, _, _, rfl, rfl, SqL.of upd_same, rfl, _, _, rfl, rfl, _, rfl, p, _, _, _, rfl, rfl, upd_same, rfl, ?_⟩
        refine ⟨_, rfl, p, _, _, _, rfl, rfl, SqL.of upd_same, rfl, rfl, _, rfl, ite2 (fun h4 => ?_) (fun h4 => ?_)⟩
        · refine ⟨_, rfl, _, _, rfl, rfl, _, rfl, p, _, _, _, rfl, rfl, upd_same, rfl, ?_⟩
          refine ⟨_, rfl, p, _, _, _, rfl, rfl, upd_same, rfl, ?_⟩
          refine ⟨_, rfl, .inl ⟨_, rfl, _, _, rfl, rfl, (show (0 : Int) < 2147483647 by decide), _, rfl, p, _, _, _, rfl, rfl, SqL.of upd_same, rfl, _, rfl, _, cnt + 1, m, rfl, Int.emod_nonneg _ (by decide), Int.emod_lt_of_pos _ (by decide), by omega, by omega, m0, fun r r0 r1 => ?_⟩⟩
          exact k r _ r0 r1 (st (i + 1) 0 cells (by omega) _ upd_same (ac (ac (ac (ac hc))))) (kq (kq (kq (kq But.refl))))
        · refine ⟨_, rfl, .inl ⟨_, rfl, _, _, rfl, rfl, (show (0 : Int) < 2147483647 by decide), _, rfl, p, _, _, _, rfl, rfl, SqL.of upd_same, rfl, _, rfl, _, cnt + 1, m, rfl, Int.emod_nonneg _ (by decide), Int.emod_lt_of_pos _ (by decide), by omega, by omega, m0, fun r r0 r1 => ?_⟩⟩
          exact k r _ r0 r1 (st i (mode + 1) cells (by omega) _ upd_same (ac (ac hc))) (kq (kq But.refl))
      all_goals
        -- pool[4] = 2; cells[at] = int(cell) // many
        refine ⟨_, rfl, p, _, _, _, rfl, rfl, upd_same, rfl, ?_⟩
        have hix : ixN (cells.map V.int).length (i : Int) = some i := by
          unfold ixN
          rw [List.length_map, if_pos (by omega), if_pos (by omega), Int.toNat_natCast]
        refine ⟨_, rfl, .inl ⟨_, rfl, _, rfl, _, _, rfl, rfl, wide_div m0 (m63 m0 m1) (by decide) (by decide), _, rfl, _, rfl, c, _, _, i, rfl, rfl, ac (ac hc), hix, ?_⟩⟩
        rw [set_ints]
        have hcW : ((cells.set i (cell / m)).map V.int)[i]? = some (V.int (cell / m)) := by
          rw [List.getElem?_map, List.getElem?_set_self hil]; rfl
        have hlen : (cells.set i (cell / m)).length = cells.length := List.length_set
        refine ⟨_, rfl, _, rfl, c, _, _, _, rfl, rfl, SqL.of upd_same, atI_nat hcW, rfl, _, rfl, ite2 (fun h4 => ?_) (fun h4 => ?_)⟩
        · refine ⟨_, rfl, _, _, rfl, rfl, _, rfl, p, _, _, _, rfl, rfl, ap upd_same, rfl, ?_⟩
          refine ⟨_, rfl, p, _, _, _, rfl, rfl, upd_same, rfl, ?_⟩
          refine ⟨_, rfl, .inl ⟨_, rfl, _, rfl, _, _, rfl, rfl, m0, ?_⟩⟩
          exact k _ _ (Int.emod_nonneg _ (by omega)) (Int.emod_lt_of_pos _ m0) (st (i + 1) 0 _ (by omega) _ upd_same (ac (ac upd_same))) (kq (kq (kc (kq (kq But.refl)))))
        · refine ⟨_, rfl, .inl ⟨_, rfl, _, rfl, _, _, rfl, rfl, m0, ?_⟩⟩
          exact k _ _ (Int.emod_nonneg _ (by omega)) (Int.emod_lt_of_pos _ m0) (st i 2 _ (by omega) _ (ap upd_same) upd_same) (kc (kq (kq But.refl)))
/-! _law_pool -/
theorem cut63 {ns : List Int} (h : ns.length ≤ 63) : cutV (ns.map V.int) none (some 63) = ns.map V.int := by
  unfold cutV
  rw [HT.sIx_none, show HT.sIx (ns.map V.int).length (ns.map V.int).length (some 63) = min 63 (ns.map V.int).length from HT.sIx_nat _ _ 63]
  rw [List.length_map, List.drop_zero, List.take_of_length_le]
  rw [List.length_map]
  omega
theorem int_at {ns : List Int} {i : Nat} {x : V} (h : (ns.map V.int)[i]? = some x) : ∃ z, ns[i]? = some z ∧ x = V.int z := by
  rw [List.getElem?_map] at h
  cases e : ns[i]? with
  | none => rw [e] at h; cases h
  | some z => rw [e] at h; exact ⟨z, rfl, (Option.some.inj h).symm⟩
theorem take_snoc {α : Type} {l : List α} {i : Nat} {z : α} (h : l[i]? = some z) : l.take (i + 1) = l.take i ++ [z] := by
  rw [List.take_succ, h]; rfl
theorem ok_Pool {f : Addr} {fd : FuncData} (F : Fun K "_law_pool" "_law_pool" sPool f fd) (T : TxPool mg) : FnOk P w K mg base CX0 1 f fd PPool (spPool K) := by
  refine F.ok scPool (fun vs H Q E h => ?_) (fun cdv A outer s H vs Q E hr h => ?_)
  · obtain ⟨a, ns, rfl, _⟩ := h
    rfl
  · obtain ⟨a, ns, rfl, hS, hlen, k⟩ := h
    refine ⟨_, (pss_cons (ps_setLc (i := 1) (own := [("_law_cell", 2)]) (g := gName 2) (tt := tYes) rfl scPool.nd rfl rfl (sw_true rfl rfl rfl (by decide +kernel)) (pi_list (pe_slice sl_list (pv 0) po_none (po_some pe_int))) (blkOk_by (own := [("_law_cell", 2)]) (N := NPool) (sc := (defScope sPool)) (by decide +kernel)) (fun _ _ _ _ _ => (pg_name (i := 2) scPool.nd rfl (Or.inl rfl))) (fun _ _ _ _ _ => pts_nil) (fun _ _ _ _ _ => (pe_callTy call_int1 (by rfl) T.n_int bb_int (pa_cons (pv 2) pa_nil))))
  (pss_cons (ps_set (i := 3) scPool.nd rfl (Or.inl rfl) pe_int)
  (pss_cons (ps_for PassesOwn.never rfl (pi_list (pv 1)) (pg_name (i := 2) scPool.nd rfl (Or.inl rfl))
  (pss_one (ps_set (i := 3) scPool.nd rfl (Or.inl rfl) (pe_op op_mod (pe_callTy call_int1 (by rfl) T.n_int bb_int (pa_cons (pe_op op_add (pe_op op_mul (pv 3) pe_int) (pv 2)) pa_nil)) pe_int))))
  (pss_one (ps_ret (pe_lst (pa_cons (pv 1) (pa_cons pe_int (pa_cons pe_int (pa_cons (pv 3) (pa_cons pe_int (pa_cons pe_int pa_nil)))))))))))), ?_⟩
    refine ⟨_, rfl, 63, rfl, a, _, rfl, hS, fun q hq => ⟨q, rfl, ⟨_, SqL.of upd_same⟩, fun D hD => ?_⟩⟩
    rw [cut63 hlen] at *
    have nqD : q ≠ D := fun z => by rw [z, upd_same] at hD; cases hD
    have hD0 : H D = none := by rw [← hD, upd_ne (Ne.symm nqD)]
    refine lc_list (K := K) (a := q) (xs := ns.map V.int) (fun i H' => Same H H' ∧ H' q = some (.lst (ns.map V.int)) ∧ H' D = some (.lst ((ns.take i).map V.int))) ?_ ?_ ?_ ?_
    · exact ⟨fun b o e => by rw [upd_ne (ne_of_none e hD0), upd_ne (ne_of_none e hq)]; exact e, by rw [upd_ne nqD, upd_same], upd_same⟩
    · exact fun i H' _ h' => SqL.of h'.2.1
    · rintro i x H' hx ⟨s1, q1, d1⟩
      obtain ⟨z, hz, rfl⟩ := int_at hx
      refine ⟨rfl, _, rfl, .inl ⟨_, rfl, _, d1, ?_, ?_⟩⟩
      · exact small1000 (by rw [List.length_map, List.length_take]; omega)
      · refine ⟨fun b o e => by rw [upd_ne (ne_of_none e hD0)]; exact s1 b o e, by rw [upd_ne nqD]; exact q1, ?_⟩
        rw [upd_same, take_snoc hz, List.map_append]
        rfl
    · rintro H1 ⟨s1, q1, d1⟩
      rw [List.length_map, List.take_length] at d1
      -- seed = 11; the loop
      refine ⟨_, rfl, D, rfl, ⟨_, SqL.of d1⟩, for_list (K := K) (a := D) (xs := ns.map V.int) (fun i σ H' => ∃ (x : Option V) (z : Int), σ = [some (.ref a), some (.ref D), x, some (.int z)] ∧ 0 ≤ z ∧ z < 2147483647 ∧ H' = H1)
        ⟨none, 11, rfl, by decide, by decide, rfl⟩ (fun i σ H' _ ⟨_, _, _, _, _, e⟩ => by rw [e]; exact SqL.of d1) ?_ ?_⟩
      · rintro i x σ H' hx ⟨y, z, rfl, z0, z1, rfl⟩
        obtain ⟨u, hu, rfl⟩ := int_at hx
        refine ⟨_, rfl, _, _, rfl, rfl, .inr ⟨by decide, by decide⟩, _, rfl, _, _, rfl, rfl, .inl ⟨_, rfl, _, _, rfl, rfl, (show (0 : Int) < 2147483647 by decide), ?_⟩⟩
        exact ⟨_, _, rfl, Int.emod_nonneg _ (by decide), Int.emod_lt_of_pos _ (by decide), rfl⟩
      · rintro σ H' ⟨y, z, rfl, z0, z1, rfl⟩
        refine ⟨_, rfl, _, rfl, (by show 6 ≤ sizeLine; decide), fun p hp => ?_⟩
        have npD : D ≠ p := ne_of_none d1 hp
        refine k p D _ (s1.trans (same_new hp)) (s1.free hp) hD0 ⟨0, ns, 0, z, 0, upd_same, by rw [upd_ne npD]; exact d1, Nat.zero_le _, by decide, by decide, z0, z1⟩
end

def LET : Str := "abcdefghijklmnopqrstuvwxyz"
def DIG : Str := "0123456789"
def KWS : List Str := ["globals", "kinds", "keep", "def", "if", "else", "while", "risk", "raise", "try", "except", "finally", "undo", "with", "swallow", "return"]
def al (c : Nat) : Bool := decide (c ∈ LET.cps.toList) || decide (c ∈ DIG.cps.toList)

/-! ### what a name is -/
def isName (z : Str) : Bool := match z.cps.toList with
  | [] => false
  | c :: r => decide (c ∈ LET.cps.toList) && (c :: r).all al && !inV (.str z) (KWS.map V.str)
theorem isName_at {z : Str} {c : Nat} (h : z.cps.toList[0]? = some c) : isName z = (decide (c ∈ LET.cps.toList) && z.cps.toList.all al && !inV (.str z) (KWS.map V.str)) := by
  unfold isName
  cases e : z.cps.toList with
  | nil => rw [e] at h; simp at h
  | cons a r => rw [e] at h; simp at h; subst h; rfl

/-! of lcs.tpl: what the texts need -/
theorem Paired.snocP {α β : Type} {F : α → β → Prop} : ∀ {l₁ : List α} {l₂ : List β} {a : α} {b : β}, Paired F l₁ l₂ → F a b → Paired F (l₁ ++ [a]) (l₂ ++ [b])
  | _, _, _, _, .nil, h => .cons h .nil
  | _, _, _, _, .cons r t, h => .cons r (Paired.snocP t h)
theorem Paired.at {α β : Type} {F : α → β → Prop} {xs : List α} {ys : List β} (hp : Paired F xs ys) : ∀ {i : Nat} {x : α}, xs[i]? = some x → ∃ y, ys[i]? = some y ∧ F x y := by
  induction hp with
  | nil => intro i x h; simp at h
  | cons r t ih =>
    intro i x h
    cases i with
    | zero => cases h; exact ⟨_, rfl, r⟩
    | succ j => exact ih h
/-- tuples stay -/
def TSame (H H' : Hp) : Prop := ∀ b xs, H b = some (.tup xs) → H' b = some (.tup xs)
theorem TSame.of {H H' : Hp} (s : Same H H') : TSame H H' := fun b xs e => s b _ e
theorem TSame.trans {H H1 H2 : Hp} (a : TSame H H1) (b : TSame H1 H2) : TSame H H2 := fun x xs e => b x xs (a x xs e)
/-- each step gives some y with P i y; the steps lay new objects down -/
theorem lc_rel {J : It} {n : Nat} {G : Hp → Prop} {Y : Nat → Hp → V → Hp → Prop} (w : Walk J n G Y) {g : TG} {te : TE} {vs : List Nat} {σ : L2.St} {H1 : Hp} {D : Addr} {Qd : Hp → Prop} (P : Nat → V → Hp → Prop) (hP : ∀ i y H H', TSame H H' → P i y H → P i y H') (hD : H1 D = none) (hn : n ≤ 1000) (hG : ∀ H, Same H1 H → G H)
    (hs : ∀ i x H H' (k : VK), i < n → Same H1 H → Y i H x H' → (∀ y H4, Same H H4 → P i y H4 → k y H4) → g x (wipe σ vs) H' fun σ2 H2 => wipe σ2 vs = wipe σ vs ∧ te σ2 H2 k)
    (hd : ∀ ys H, Same H1 H → H D = some (.lst ys) → ys.length = n → (∀ i y, ys[i]? = some y → P i y H) → Qd H) :
    ∃ W : Nat → Nat → Hp → Prop, (∃ m, W 0 m (upd H1 D (.lst []))) ∧ ∀ i m H, W i m H →
      (J.stop i H ∧ Qd H) ∨ (J.go i H ∧ ∃ Nx : Hp → Prop, (∀ H', Nx H' → ∃ m', m' < m ∧ W (i + 1) m' H') ∧ ∀ x H', J.yld i H x H' → g x (wipe σ vs) H' fun σ2 H2 => wipe σ2 vs = wipe σ vs ∧ tYes σ2 H2 fun b H3 =>
        if b = true then te σ2 H3 fun y H4 => ∃ acc, H4 D = some (.lst acc) ∧ acc.length < sizeLine ∧ Nx (upd H4 D (.lst (acc ++ [y]))) else Nx H3) := by
  refine lc_it w (fun i H => Same H1 H ∧ ∃ ys, H D = some (.lst ys) ∧ ys.length = i ∧ ∀ j y, ys[j]? = some y → P j y H) ⟨same_new hD, [], upd_same, rfl, fun j y z => by simp at z⟩ (fun i H _ h => hG H h.1) (fun i x H H' hi ⟨s1, ys, e1, l1, p1⟩ y => ?_) (fun H ⟨s1, ys, e1, l1, p1⟩ => hd ys H s1 e1 l1 p1)
  refine hs i x H H' _ hi s1 y fun y H4 s4 p4 => ?_
  have t4 : TSame H4 (upd H4 D (.lst (ys ++ [y]))) := fun b xs z => by
    rw [upd_ne (ne_of z (s4 _ _ e1) (fun q => by cases q))]
    exact z
  refine ⟨ys, s4 _ _ e1, small1000 (by omega), fun b o z => ?_, ys ++ [y], upd_same, by rw [List.length_append, l1]; rfl, fun j z hz => ?_⟩
  · rw [upd_ne (ne_of_none z hD)]
    exact s4 b o (s1 b o z)
  · by_cases hj : j < ys.length
    · rw [List.getElem?_append_left hj] at hz
      exact hP _ _ _ _ ((TSame.of s4).trans t4) (p1 j z hz)
    · rw [List.getElem?_append_right (by omega)] at hz
      have hj' : j - ys.length = 0 := by
        have q := (List.getElem?_eq_some_iff.mp hz).1
        simp at q
        omega
      rw [hj'] at hz
      cases hz
      obtain rfl : j = i := by omega
      exact hP _ _ _ _ t4 p4
/-- each step gives f i -/
theorem lc_map {J : It} {n : Nat} {G : Hp → Prop} {Y : Nat → Hp → V → Hp → Prop} (w : Walk J n G Y) {g : TG} {te : TE} {vs : List Nat} {σ : L2.St} {H1 : Hp} {D : Addr} {Qd : Hp → Prop} (f : Nat → V) (hD : H1 D = none) (hn : n ≤ 1000) (hG : ∀ H, Same H1 H → G H)
    (hs : ∀ i x H H' (k : VK), i < n → Same H1 H → Y i H x H' → (∀ H4, Same H H4 → k (f i) H4) → g x (wipe σ vs) H' fun σ2 H2 => wipe σ2 vs = wipe σ vs ∧ te σ2 H2 k)
    (hd : ∀ H, Same H1 H → H D = some (.lst ((List.range n).map f)) → Qd H) :
    ∃ W : Nat → Nat → Hp → Prop, (∃ m, W 0 m (upd H1 D (.lst []))) ∧ ∀ i m H, W i m H →
      (J.stop i H ∧ Qd H) ∨ (J.go i H ∧ ∃ Nx : Hp → Prop, (∀ H', Nx H' → ∃ m', m' < m ∧ W (i + 1) m' H') ∧ ∀ x H', J.yld i H x H' → g x (wipe σ vs) H' fun σ2 H2 => wipe σ2 vs = wipe σ vs ∧ tYes σ2 H2 fun b H3 =>
        if b = true then te σ2 H3 fun y H4 => ∃ acc, H4 D = some (.lst acc) ∧ acc.length < sizeLine ∧ Nx (upd H4 D (.lst (acc ++ [y]))) else Nx H3) := by
  refine lc_rel w (fun i y _ => y = f i) (fun _ _ _ _ _ h => h) hD hn hG (fun i x H H' k hi s1 y kk => hs i x H H' k hi s1 y fun H4 s4 => kk _ H4 s4 rfl) fun ys H s1 e1 l1 p1 => hd H s1 ?_
  rw [e1]
  congr 2
  refine List.ext_getElem? fun j => ?_
  by_cases hj : j < n
  · rw [List.getElem?_map, List.getElem?_range hj]
    obtain ⟨y, hy⟩ : ∃ y, ys[j]? = some y := ⟨ys[j], by simp [l1, hj]⟩
    rw [hy, p1 j y hy]
    rfl
  · rw [List.getElem?_eq_none (by omega), List.getElem?_eq_none (by rw [List.length_map, List.length_range]; omega)]
theorem range_map {α β : Type} (l : List α) (F : α → β) (f : Nat → β) (h : ∀ (i : Nat) (x : α), l[i]? = some x → f i = F x) : (List.range l.length).map f = l.map F := by
  refine List.ext_getElem? fun j => ?_
  by_cases hj : j < l.length
  · rw [List.getElem?_map, List.getElem?_range hj, List.getElem?_map, List.getElem?_eq_getElem hj]
    exact congrArg some (h j _ (List.getElem?_eq_getElem hj))
  · rw [List.getElem?_eq_none (by rw [List.length_map, List.length_range]; omega), List.getElem?_eq_none (by rw [List.length_map]; omega)]

/-! ### trees -/
theorem Paired.snoc {α β : Type} {F : α → β → Prop} : ∀ {l₁ : List α} {l₂ : List β} {a : α} {b : β}, Paired F l₁ l₂ → F a b → Paired F (l₁ ++ [a]) (l₂ ++ [b])
  | _, _, _, _, .nil, h => .cons h .nil
  | _, _, _, _, .cons r t, h => .cons r (Paired.snoc t h)
theorem Paired.app {α β : Type} {F : α → β → Prop} : ∀ {l₁ l₃ : List α} {l₂ l₄ : List β}, Paired F l₁ l₂ → Paired F l₃ l₄ → Paired F (l₁ ++ l₃) (l₂ ++ l₄)
  | _, _, _, _, .nil, h => h
  | _, _, _, _, .cons r t, h => .cons r (Paired.app t h)
structure Ex where
  c : Int
  ts : List (Str × Int)
inductive Arg where
  | place (n : Str) | value (e : Ex)
abbrev Cal := Str × List Arg
mutual
inductive St where
  | set (t : Str) (e : Ex) | input (t : Str) | call (t : Option Str) (f : Str) (as : List Arg)
  | risk (ks : List Str) | raise (k : Str) | ret (e : Ex)
  | ite (a b : List St) | whl (b : List St) | try_ (b : List St) (hs : List Hd) (f : List St)
  | undo (ns : List Str) (b : List St) | with_ (e l : Cal) (ks : List Str) (b : List St)
inductive Hd where
  | mk (ks : List Str) (b : List St)
end
def Hd.ks : Hd → List Str
  | .mk ks _ => ks
def Hd.b : Hd → List St
  | .mk _ b => b
def exD (e : Ex) : PyData := .tuple [.int e.c, .tuple (e.ts.map fun p => .tuple [.str p.1, .int p.2])]
def nmD (ns : List Str) : PyData := .tuple (ns.map .str)
def argD : Arg → PyData
  | .place n => .tuple [.str "place", .str n]
  | .value e => .tuple [.str "value", exD e]
def calD (c : Cal) : PyData := .tuple [.str c.1, .tuple (c.2.map argD)]
def optD : Option Str → PyData
  | none => .none
  | some t => .str t
mutual
def stD : St → PyData
  | .set t e => .tuple [.str "set", .str t, exD e]
  | .input t => .tuple [.str "input", .str t]
  | .call t f as => .tuple [.str "call", optD t, .str f, .tuple (as.map argD)]
  | .risk ks => .tuple [.str "risk", nmD ks]
  | .raise k => .tuple [.str "raise", .str k]
  | .ret e => .tuple [.str "return", exD e]
  | .ite a b => .tuple [.str "if", .tuple (stsD a), .tuple (stsD b)]
  | .whl b => .tuple [.str "while", .tuple (stsD b)]
  | .try_ b hs f => .tuple [.str "try", .tuple (stsD b), .tuple (hdsD hs), .tuple (stsD f)]
  | .undo ns b => .tuple [.str "undo", nmD ns, .tuple (stsD b)]
  | .with_ e l ks b => .tuple [.str "with", calD e, calD l, nmD ks, .tuple (stsD b)]
def stsD : List St → List PyData
  | [] => []
  | s :: r => stD s :: stsD r
def hdD : Hd → PyData
  | .mk ks b => .tuple [nmD ks, .tuple (stsD b)]
def hdsD : List Hd → List PyData
  | [] => []
  | h :: r => hdD h :: hdsD r
end
def blD (b : List St) : PyData := .tuple (stsD b)
theorem stsD_map : ∀ b : List St, stsD b = b.map stD
  | [] => rfl
  | s :: r => by show stD s :: stsD r = _; rw [stsD_map r]; rfl
theorem hdsD_map : ∀ b : List Hd, hdsD b = b.map hdD
  | [] => rfl
  | s :: r => by show hdD s :: hdsD r = _; rw [hdsD_map r]; rfl
def parts : St → List (List St)
  | .ite a b => [a, b]
  | .whl b => [b]
  | .try_ b hs f => b :: (hs.map Hd.b ++ [f])
  | .undo _ b => [b]
  | .with_ _ _ _ b => [b]
  | _ => []
mutual
/-- how many statements stand within a statement -/
def szS : St → Nat
  | .ite a b => szB a + szB b
  | .whl b => szB b
  | .try_ b hs f => szB b + (szHs hs + szB f)
  | .undo _ b => szB b
  | .with_ _ _ _ b => szB b
  | .set _ _ => 0 | .input _ => 0 | .call _ _ _ => 0 | .risk _ => 0 | .raise _ => 0 | .ret _ => 0
def szB : List St → Nat
  | [] => 0
  | s :: r => 1 + szS s + szB r
def szH : Hd → Nat
  | .mk _ b => szB b
def szHs : List Hd → Nat
  | [] => 0
  | h :: r => szH h + szHs r
end
mutual
/-- how deep blocks stand within a statement -/
def dpS : St → Nat
  | .ite a b => max (dpB a) (dpB b)
  | .whl b => dpB b
  | .try_ b hs f => max (dpB b) (max (dpHs hs) (dpB f))
  | .undo _ b => dpB b
  | .with_ _ _ _ b => dpB b
  | .set _ _ => 0 | .input _ => 0 | .call _ _ _ => 0 | .risk _ => 0 | .raise _ => 0 | .ret _ => 0
def dpIn : List St → Nat
  | [] => 0
  | s :: r => max (dpS s) (dpIn r)
def dpB : List St → Nat
  | [] => 1
  | s :: r => 1 + max (dpS s) (dpIn r)
def dpH : Hd → Nat
  | .mk _ b => dpB b
def dpHs : List Hd → Nat
  | [] => 0
  | h :: r => max (dpH h) (dpHs r)
end
theorem dpB_eq : ∀ b, dpB b = 1 + dpIn b
  | [] => rfl
  | _ :: _ => rfl
theorem dp_hs : ∀ {hs : List Hd} {p : List St}, p ∈ hs.map Hd.b → dpB p ≤ dpHs hs
  | .mk ks b :: r, p, h => by
    show dpB p ≤ max (dpB b) (dpHs r)
    rcases List.mem_cons.mp h with z | z
    · rw [z]; exact Nat.le_max_left _ _
    · exact Nat.le_trans (dp_hs z) (Nat.le_max_right _ _)
theorem dp_part {s : St} {p : List St} (h : p ∈ parts s) : dpB p ≤ dpS s := by
  cases s with
  | ite a b =>
    simp only [parts, List.mem_cons, List.not_mem_nil, or_false] at h
    show _ ≤ max _ _
    rcases h with rfl | rfl
    · exact Nat.le_max_left _ _
    · exact Nat.le_max_right _ _
  | whl b => simp only [parts, List.mem_cons, List.not_mem_nil, or_false] at h; subst h; exact Nat.le_refl _
  | undo _ b => simp only [parts, List.mem_cons, List.not_mem_nil, or_false] at h; subst h; exact Nat.le_refl _
  | with_ _ _ _ b => simp only [parts, List.mem_cons, List.not_mem_nil, or_false] at h; subst h; exact Nat.le_refl _
  | try_ b hs f =>
    show _ ≤ max _ (max _ _)
    rcases List.mem_cons.mp h with z | z
    · rw [z]; exact Nat.le_max_left _ _
    · rcases List.mem_append.mp z with z | z
      · exact Nat.le_trans (dp_hs z) (Nat.le_trans (Nat.le_max_left _ _) (Nat.le_max_right _ _))
      · rw [List.mem_singleton.mp z]; exact Nat.le_trans (Nat.le_max_right _ _) (Nat.le_max_right _ _)
  | _ => simp [parts] at h
theorem dp_mem : ∀ {b : List St} {s : St}, s ∈ b → dpS s ≤ dpIn b
  | x :: r, s, h => by
    show _ ≤ max _ _
    rcases List.mem_cons.mp h with z | z
    · rw [z]; exact Nat.le_max_left _ _
    · exact Nat.le_trans (dp_mem z) (Nat.le_max_right _ _)
theorem dp_lt {b : List St} {s : St} {p : List St} (hs : s ∈ b) (hp : p ∈ parts s) : dpB p < dpB b := by
  have h1 := dp_part hp
  have h2 := dp_mem hs
  have h3 := dpB_eq b
  omega
theorem sz_hs : ∀ hs : List Hd, ((hs.map Hd.b).map szB).sum = szHs hs
  | [] => rfl
  | .mk ks b :: r => by
    show szB b + ((r.map Hd.b).map szB).sum = szB b + szHs r
    rw [sz_hs r]
theorem sz_parts (s : St) : ((parts s).map szB).sum = szS s := by
  cases s with
  | try_ b hs f =>
    show szB b + (((hs.map Hd.b) ++ [f]).map szB).sum = szB b + (szHs hs + szB f)
    rw [List.map_append, List.sum_append, sz_hs]
    rfl
  | ite a b => show szB a + (szB b + 0) = _; rfl
  | _ => rfl
end Aon
namespace L2
open PySem
/-! reading data -/
theorem SqT.same {K : PySem.W.Frag} {H H' : Hp} {a : Addr} {xs : List V} (e : Same H H') (h : SqT K H a xs) : SqT K H' a xs :=
  h.elim (fun h => .inl (h.elim (fun h => .inl (e _ _ h)) fun ⟨o, h⟩ => .inr ⟨o, e _ _ h⟩)) fun h => .inr h
mutual
theorem Dp.same {K : PySem.W.Frag} {H H' : Hp} (e : Same H H') {v : V} {d : PyData} (h : Dp K H v d) : Dp K H' v d :=
  match h with
  | .non => .non
  | .bl b => .bl b
  | .int i => .int i
  | .str x => .str x
  | .lst a b => .lst (e.seq a) (DpAll.same e b)
  | .tup a b => .tup (SqT.same e a) (DpAll.same e b)
theorem DpAll.same {K : PySem.W.Frag} {H H' : Hp} (e : Same H H') {vs : List V} {ds : List PyData} (h : DpAll K H vs ds) : DpAll K H' vs ds :=
  match h with
  | .nil => .nil
  | .cons a b => .cons (Dp.same e a) (DpAll.same e b)
end
theorem Dp.tupInv {K : PySem.W.Frag} {H : Hp} {v : V} {ds : List PyData} (h : Dp K H v (.tuple ds)) : ∃ a xs, v = .ref a ∧ SqT K H a xs ∧ DpAll K H xs ds := by
  cases h with
  | tup a b => exact ⟨_, _, rfl, a, b⟩
theorem Dp.strInv {K : PySem.W.Frag} {H : Hp} {v : V} {z : Str} (h : Dp K H v (.str z)) : v = .str z := by cases h; rfl
theorem Dp.intInv {K : PySem.W.Frag} {H : Hp} {v : V} {z : Int} (h : Dp K H v (.int z)) : v = .int z := by cases h; rfl
theorem DpAll.consInv {K : PySem.W.Frag} {H : Hp} {vs : List V} {d : PyData} {ds : List PyData} (h : DpAll K H vs (d :: ds)) : ∃ v r, vs = v :: r ∧ Dp K H v d ∧ DpAll K H r ds := by
  cases h with
  | cons a b => exact ⟨_, _, rfl, a, b⟩
theorem DpAll.nilInv {K : PySem.W.Frag} {H : Hp} {vs : List V} (h : DpAll K H vs []) : vs = [] := by cases h; rfl
theorem DpAll.len {K : PySem.W.Frag} {H : Hp} : ∀ {vs : List V} {ds : List PyData}, DpAll K H vs ds → vs.length = ds.length
  | _, _, .nil => rfl
  | _, _, .cons _ b => by rw [List.length_cons, List.length_cons, DpAll.len b]
theorem DpAll.at {K : PySem.W.Frag} {H : Hp} : ∀ {vs : List V} {ds : List PyData}, DpAll K H vs ds → ∀ {i : Nat} {v : V}, vs[i]? = some v → ∃ d, ds[i]? = some d ∧ Dp K H v d
  | _, _, .cons a b, 0, v, h => by simp at h; subst h; exact ⟨_, rfl, a⟩
  | _, _, .cons a b, i + 1, v, h => by simp at h ⊢; exact DpAll.at b h
theorem DpAll.map {K : PySem.W.Frag} {H : Hp} {α : Type} {f : α → PyData} : ∀ {vs : List V} {l : List α}, DpAll K H vs (l.map f) → Paired (fun v x => Dp K H v (f x)) vs l
  | _, [], h => by cases h; exact .nil
  | _, x :: r, h => by
    obtain ⟨v, vr, rfl, h1, h2⟩ := DpAll.consInv h
    exact .cons h1 (DpAll.map h2)
theorem DpAll.ofPaired {K : PySem.W.Frag} {H : Hp} {α : Type} {f : α → PyData} : ∀ {vs : List V} {l : List α}, Paired (fun v x => Dp K H v (f x)) vs l → DpAll K H vs (l.map f)
  | _, _, .nil => .nil
  | _, _, .cons a b => .cons a (DpAll.ofPaired b)
theorem DpAll.one {K : PySem.W.Frag} {H : Hp} {vs : List V} {d : PyData} (h : DpAll K H vs [d]) : ∃ v, vs = [v] ∧ Dp K H v d := by
  obtain ⟨v, r, rfl, h1, h2⟩ := DpAll.consInv h
  exact ⟨v, by rw [DpAll.nilInv h2], h1⟩
theorem DpAll.two {K : PySem.W.Frag} {H : Hp} {vs : List V} {d e : PyData} (h : DpAll K H vs [d, e]) : ∃ v w, vs = [v, w] ∧ Dp K H v d ∧ Dp K H w e := by
  obtain ⟨v, r, rfl, h1, h2⟩ := DpAll.consInv h
  obtain ⟨w, rfl, h3⟩ := DpAll.one h2
  exact ⟨v, w, rfl, h1, h3⟩
theorem DpAll.three {K : PySem.W.Frag} {H : Hp} {vs : List V} {d e f : PyData} (h : DpAll K H vs [d, e, f]) : ∃ v w x, vs = [v, w, x] ∧ Dp K H v d ∧ Dp K H w e ∧ Dp K H x f := by
  obtain ⟨v, r, rfl, h1, h2⟩ := DpAll.consInv h
  obtain ⟨w, x, rfl, h3, h4⟩ := DpAll.two h2
  exact ⟨v, w, x, rfl, h1, h3, h4⟩
theorem DpAll.four {K : PySem.W.Frag} {H : Hp} {vs : List V} {d e f g : PyData} (h : DpAll K H vs [d, e, f, g]) : ∃ v w x y, vs = [v, w, x, y] ∧ Dp K H v d ∧ Dp K H w e ∧ Dp K H x f ∧ Dp K H y g := by
  obtain ⟨v, r, rfl, h1, h2⟩ := DpAll.consInv h
  obtain ⟨w, x, y, rfl, h3, h4, h5⟩ := DpAll.three h2
  exact ⟨v, w, x, y, rfl, h1, h3, h4, h5⟩
end L2
namespace Aon
open PySem L2
theorem ty_tup {K : PySem.W.Frag} {H : Hp} {a : Addr} {xs : List V} (h : SqT K H a xs) : TyX K H (.ref a) (.type "tuple") := by
  rcases h with (h | ⟨o, h⟩) | h
  · exact .base (.tup h)
  · exact .fTuple h
  · obtain ⟨o, _, _, h1, h2, _⟩ := h
    exact .kTuple h1 h2

/-! ### wider bounds -/
theorem smallX {n : Nat} (h : n ≤ 100000) : n < sizeLine := Nat.lt_of_le_of_lt h (by decide)

/-! ### tokens -/
abbrev sKindOf : Stmt := topS 12
abbrev NKindOf : List Str := ["word", "char"]
abbrev PKindOf : List Str := ["word"]
theorem scKindOf : FnScope NKindOf PKindOf (defScope sKindOf) := ⟨rfl, rfl, rfl, by decide +kernel, rfl, by decide +kernel, by decide +kernel⟩
abbrev sEndRun : Stmt := topS 13
abbrev NEndRun : List Str := ["text", "start", "at"]
abbrev PEndRun : List Str := ["text", "start"]
theorem scEndRun : FnScope NEndRun PEndRun (defScope sEndRun) := ⟨rfl, rfl, rfl, by decide +kernel, rfl, by decide +kernel, by decide +kernel⟩
abbrev sToksOf : Stmt := topS 14
abbrev NToksOf : List Str := ["text", "found", "at", "stop"]
abbrev PToksOf : List Str := ["text"]
theorem scToksOf : FnScope NToksOf PToksOf (defScope sToksOf) := ⟨rfl, rfl, rfl, by decide +kernel, rfl, by decide +kernel, by decide +kernel⟩
def SIG : Str := "=+-*&?(){},"
structure TxTok (K : PySem.W.Frag) (mg : Str → Option Value) (kw : Addr) : Prop where
  n_len : mg "len" = none
  c_LETTERS : ∃ u, mg "LETTERS" = some u ∧ RelV (.str LET) u
  c_DIGITS : ∃ u, mg "DIGITS" = some u ∧ RelV (.str DIG) u
  c_SIGNS : ∃ u, mg "SIGNS" = some u ∧ RelV (.str SIG) u
  c_KEYWORDS : ∃ u, mg "KEYWORDS" = some u ∧ RelV (.ref kw) u
  kws : ∀ H, SqT K H kw (KWS.map V.str)
def dg (c : Nat) : Bool := decide (c ∈ DIG.cps.toList)
def kindOf (z : Str) : Str := if inV (.str z) (KWS.map V.str) = true then "mark" else match z.cps.toList with
  | [] => "bad"
  | c :: r => if c ∈ LET.cps.toList then "name" else if (c :: r).all dg = false then "bad" else if c = 48 ∧ 1 < (c :: r).length then "bad" else "number"
theorem eq_sign (c d : Nat) : decide (V.str (⟨#[c]⟩ : Str) = V.str ⟨#[d]⟩) = decide (c = d) := decide_eq_decide.mpr ⟨fun h => by
  injection h with h
  injection h with h
  injection h with h
  exact List.head_eq_of_cons_eq h, fun h => by rw [h]⟩
section
variable {P : Program} {w : World} {K : PySem.W.Frag} {mg : Str → Option Value} {base : Heap} {kw : Addr}
def spKind : Sp := fun vs H Q _ => ∃ z : Str, vs = [.str z] ∧ z.cps.toList ≠ [] ∧ z.length ≤ 1000000 ∧ Q (.str (kindOf z)) H
theorem ok_KindOf {f : Addr} {fd : FuncData} (F : Fun K "kind_of" "kind_of" sKindOf f fd) (T : TxTok K mg kw) : FnOk P w K mg base CX0 1 f fd PKindOf spKind := by
  refine F.ok scKindOf (fun vs H Q E h => ?_) (fun cdv A outer s H vs Q E hr h => ?_)
  · obtain ⟨z, rfl, _⟩ := h
    rfl
  · obtain ⟨z, rfl, hne, hz, k⟩ := h
    have hz' : z.length ≤ sizeLine := Nat.le_trans hz (by decide)
    obtain ⟨c, r, ec⟩ : ∃ c r, z.cps.toList = c :: r := by
      cases e : z.cps.toList with
      | nil => exact absurd e hne
      | cons a r => exact ⟨a, r, rfl⟩
    have h0 : z.cps.toList[0]? = some c := by rw [ec]; rfl
    have zl : z.length = (c :: r).length := by rw [← ec]; exact Array.length_toList.symm
    unfold kindOf at k
    rw [ec] at k
    simp only at k
    refine ⟨_, (pss_cons (ps_if (pt_cmpR op_in_seq (pv 0) (pe_globE rfl T.c_KEYWORDS) (by rfl))
  (pss_one (ps_ret pe_str))
  pss_nil)
  (pss_cons (ps_if (pt_cmpR op_in_sign (pe_ix ix_str (pv 0) pe_int (fun _ _ => rfl)) (pe_globE rfl T.c_LETTERS) (by rfl))
  (pss_one (ps_ret pe_str))
  pss_nil)
  (pss_cons (ps_for PassesOwn.never rfl (pi_str (pv 0)) (pg_name (i := 1) scKindOf.nd rfl (Or.inl rfl))
  (pss_one (ps_if (pt_cmpR op_notIn_sign (pv 1) (pe_globE rfl T.c_DIGITS) (by rfl))
  (pss_one (ps_ret pe_str))
  pss_nil)))
  (pss_cons (ps_if (PW.pt (pw_and (pt_cmpR op_eq (pe_ix ix_str (pv 0) pe_int (fun _ _ => rfl)) pe_str (nomark _)) (pw_and1 (pt_cmpR op_gt (pe_callB call_len_str (by rfl) T.n_len bb_len (pa_cons (pv 0) pa_nil)) pe_int (nomark _)))))
  (pss_one (ps_ret pe_str))
  pss_nil)
  (pss_one (ps_ret pe_str)))))), ?_⟩
    refine ⟨_, rfl, kw, _, rfl, .inr (T.kws _), rfl, by decide +kernel, _, rfl, ite2 (fun h1 => ?_) (fun h1 => ?_)⟩
    · have h1 : inV (.str z) (KWS.map V.str) = true := h1
      rw [if_pos h1] at k
      exact k
    · have h1 : ¬ inV (.str z) (KWS.map V.str) = true := h1
      rw [if_neg h1] at k
      refine ⟨_, rfl, z, 0, c, rfl, rfl, hz', atI_nat (j := 0) h0, c, _, rfl, rfl, _, rfl, ite2 (fun h2 => ?_) (fun h2 => ?_)⟩
      · rw [if_pos (of_decide_eq_true h2)] at k
        exact k
      · rw [if_neg (fun q => h2 (decide_eq_true q))] at k
        refine ⟨_, rfl, z, rfl, for_it (walk_str (z := z)) (fun i σ H' => H' = H ∧ (z.cps.toList.take i).all dg = true ∧ ∃ x, σ = [some (.str z), x]) ⟨rfl, rfl, none, rfl⟩ (fun _ _ _ _ _ => trivial) ?_ ?_⟩
        · rintro i x σ H1 H2 hi ⟨rfl, ha, y, rfl⟩ ⟨rfl, d, hd, rfl⟩
          have hd' : z.cps.toList[i]? = some d := by rw [Array.getElem?_toList]; exact hd
          refine ⟨_, rfl, d, _, rfl, rfl, _, rfl, ite2 (fun h3 => ?_) (fun h3 => ?_)⟩
          · have h3 : decide (d ∈ DIG.cps.toList) = false := by simpa using h3
            have : (c :: r).all dg = false := by
              rw [← ec, List.all_eq_false]
              exact ⟨d, List.mem_of_getElem? hd', by unfold dg; rw [h3]; decide⟩
            rw [if_pos this] at k
            exact k
          · have h3 : decide (d ∈ DIG.cps.toList) = true := by simpa using h3
            refine ⟨rfl, ?_, _, rfl⟩
            rw [take_snoc hd', List.all_append, ha, Bool.true_and, List.all_cons, List.all_nil, Bool.and_true]
            exact h3
        · rintro σ H1 ⟨rfl, ha, y, rfl⟩
          rw [show z.cps.size = z.cps.toList.length from Array.length_toList.symm, List.take_length, ec] at ha
          rw [if_neg (by rw [ha]; decide)] at k
          have e48 : ("0" : Str) = ⟨#[48]⟩ := by decide +kernel
          refine ⟨_, rfl, z, 0, c, rfl, rfl, hz', atI_nat (j := 0) h0, rfl, _, rfl, ite2 (fun h4 => ?_) (fun h4 => ?_)⟩
          · have h4 : decide (V.str (⟨#[c]⟩ : Str) = V.str ("0" : Str)) = true := h4
            rw [e48, eq_sign] at h4
            have h4 := of_decide_eq_true h4
            refine ⟨_, rfl, z, rfl, hz', _, _, rfl, rfl, _, rfl, ite2 (fun h5 => ?_) (fun h5 => ?_)⟩
            · have h5 := of_decide_eq_true h5
              rw [if_pos ⟨h4, by rw [← zl]; omega⟩] at k
              exact k
            · rw [if_neg (fun q => h5 (decide_eq_true (by rw [zl]; have := q.2; omega)))] at k
              exact k
          · have h4 : ¬ decide (V.str (⟨#[c]⟩ : Str) = V.str ("0" : Str)) = true := h4
            rw [e48, eq_sign] at h4
            rw [if_neg (fun q => h4 (decide_eq_true q.1))] at k
            exact k
/-! end_of_run -/
/-- the index behind the letters and digits that begin at i -/
def Run (t : List Nat) (i j : Nat) : Prop := i ≤ j ∧ j ≤ t.length ∧ (∀ x, i ≤ x → x < j → ∃ c, t[x]? = some c ∧ al c = true) ∧ ∀ c, t[j]? = some c → al c = false
def spEnd : Sp := fun vs H Q _ => ∃ (z : Str) (i j : Nat), vs = [.str z, .int (i : Nat)] ∧ z.length ≤ 1000000 ∧ Run z.cps.toList i j ∧ Q (.int (j : Nat)) H
theorem ok_EndRun {f : Addr} {fd : FuncData} (F : Fun K "end_of_run" "end_of_run" sEndRun f fd) (T : TxTok K mg kw) : FnOk P w K mg base CX0 1 f fd PEndRun spEnd := by
  refine F.ok scEndRun (fun vs H Q E h => ?_) (fun cdv A outer s H vs Q E hr h => ?_)
  · obtain ⟨z, i, j, rfl, _⟩ := h
    rfl
  · obtain ⟨z, i, j, rfl, hz, ⟨r1, r2, r3, r4⟩, k⟩ := h
    have hz' : z.length ≤ sizeLine := Nat.le_trans hz (by decide)
    have zl : z.length = z.cps.toList.length := Array.length_toList.symm
    refine ⟨_, (pss_cons (ps_set (i := 2) scEndRun.nd rfl (Or.inl rfl) (pv 1))
  (pss_cons (ps_while PassesOwn.never (PW.pt (pw_and (pt_cmpR op_lt (pv 2) (pe_callB call_len_str (by rfl) T.n_len bb_len (pa_cons (pv 0) pa_nil)) (nomark _)) (pw_and1 (PW.pt (pw_or (pt_cmpR op_in_sign (pe_ix ix_str (pv 0) (pv 2) (fun _ _ => rfl)) (pe_globE rfl T.c_LETTERS) (by rfl)) (pw_or1 (pt_cmpR op_in_sign (pe_ix ix_str (pv 0) (pv 2) (fun _ _ => rfl)) (pe_globE rfl T.c_DIGITS) (by rfl))))))))
  (pss_one (ps_aug (i := 2) scEndRun.nd rfl (Or.inl rfl) pe_int ip_add)))
  (pss_one (ps_ret (pv 2))))), ?_⟩
    refine ⟨_, rfl, fun m σ H' => ∃ a : Nat, m = j - a ∧ i ≤ a ∧ a ≤ j ∧ σ = [some (.str z), some (.int (i : Nat)), some (.int (a : Nat))] ∧ H' = H, ⟨_, i, rfl, Nat.le_refl _, r1, rfl, rfl⟩, ?_⟩
    rintro m σ H1 ⟨a, rfl, a1, a2, rfl, eH⟩
    have stop : a = j → Q (.int (a : Nat)) H1 := fun e => by rw [e, eH]; exact k
    refine ⟨_, rfl, _, rfl, z, rfl, hz', _, _, rfl, rfl, _, rfl, ite2 (fun h1 => ?_) (fun h1 => iteE rfl ⟨_, rfl, stop ?_⟩)⟩
    · have h1 : a < z.cps.toList.length := by have := of_decide_eq_true h1; omega
      obtain ⟨c, hc⟩ : ∃ c, z.cps.toList[a]? = some c := ⟨_, List.getElem?_eq_getElem h1⟩
      have atc : atI z.cps.toList ((a : Nat) : Int) = some c := atI_nat hc
      have go : al c = true → a < j := fun h => by
        rcases Nat.lt_or_ge a j with q | q
        · exact q
        · have e : a = j := by omega
          rw [e] at hc
          rw [r4 c hc] at h
          cases h
      have no : al c = false → a = j := fun h => by
        rcases Nat.lt_or_ge a j with q | q
        · obtain ⟨d, h1, h2⟩ := r3 a a1 q
          rw [hc] at h1
          cases h1
          rw [h] at h2
          cases h2
        · omega
      refine ⟨_, rfl, _, rfl, z, _, c, rfl, rfl, hz', atc, c, _, rfl, rfl, _, rfl, ite2 (fun h2 => iteS rfl ?_) (fun h2 => ?_)⟩
      · have q := go (by unfold al; rw [show decide (c ∈ LET.cps.toList) = true from h2]; rfl)
        refine ⟨fun σ' H' => σ' = [some (.str z), some (.int (i : Nat)), some (.int ((a + 1 : Nat) : Int))] ∧ H' = H, fun σ' H' ⟨e1, e2⟩ => ⟨j - (a + 1), by omega, a + 1, rfl, by omega, by omega, e1, e2⟩, ?_⟩
        exact ⟨_, rfl, _, _, rfl, rfl, rfl, eH⟩
      · have h2 : decide (c ∈ LET.cps.toList) = false := by simpa using h2
        refine ⟨_, rfl, _, rfl, z, _, c, rfl, rfl, hz', atc, c, _, rfl, rfl, _, rfl, ite2 (fun h3 => ?_) (fun h3 => ?_)⟩
        · have q := go (by unfold al; rw [h2, show decide (c ∈ DIG.cps.toList) = true from h3]; rfl)
          refine ⟨fun σ' H' => σ' = [some (.str z), some (.int (i : Nat)), some (.int ((a + 1 : Nat) : Int))] ∧ H' = H, fun σ' H' ⟨e1, e2⟩ => ⟨j - (a + 1), by omega, a + 1, rfl, by omega, by omega, e1, e2⟩, ?_⟩
          exact ⟨_, rfl, _, _, rfl, rfl, rfl, eH⟩
        · have h3 : decide (c ∈ DIG.cps.toList) = false := by simpa using h3
          exact ⟨_, rfl, stop (no (by unfold al; rw [h2, h3]; rfl))⟩
    · have h1 : ¬ a < z.length := fun q => h1 (decide_eq_true (by omega))
      omega
end


/-! tokens_of -/
abbrev TK := Str × Str × Nat
def TkAt (H : Hp) (v : V) (tk : TK) : Prop := ∃ p, v = .ref p ∧ H p = some (.tup [.str tk.1, .str tk.2.1, .int (tk.2.2 : Nat)])
theorem TkAt.same {H H' : Hp} {v : V} {tk : TK} (h : TkAt H v tk) (s : ∀ b xs, H b = some (.tup xs) → H' b = some (.tup xs)) : TkAt H' v tk := let ⟨p, e, q⟩ := h; ⟨p, e, s _ _ q⟩
def cutT (t : List Nat) (i j : Nat) : Str := ⟨((t.drop i).take (j - i)).toArray⟩
def Plain (c : Nat) : Prop := c ≠ 32 ∧ c ≠ 10 ∧ c ∉ SIG.cps.toList
inductive Tkz (t : List Nat) : Nat → List TK → Prop
  | fin {a : Nat} (h : a = t.length) : Tkz t a [("end", "", a)]
  | gap {a c : Nat} {ts : List TK} (h : t[a]? = some c) (hc : c = 32 ∨ c = 10) (r : Tkz t (a + 1) ts) : Tkz t a ts
  | sign {a c : Nat} {ts : List TK} (h : t[a]? = some c) (hc : c ∈ SIG.cps.toList) (r : Tkz t (a + 1) ts) : Tkz t a (("mark", ⟨#[c]⟩, a) :: ts)
  | word {a j c : Nat} {ts : List TK} (h : t[a]? = some c) (hg : Plain c) (run : Run t a j) (lt : a < j) (k : kindOf (cutT t a j) ≠ "bad") (r : Tkz t j ts) : Tkz t a ((kindOf (cutT t a j), cutT t a j, a) :: ts)
  | bad {a j c : Nat} (h : t[a]? = some c) (hg : Plain c) (run : Run t a j) (b : j = a ∨ kindOf (cutT t a j) = "bad") : Tkz t a [("bad", "", a)]
theorem sig_gap : ∀ c ∈ SIG.cps.toList, c ≠ 32 ∧ c ≠ 10 := by decide +kernel
theorem e32 : (" " : Str) = ⟨#[32]⟩ := by decide +kernel
theorem e10 : ("\n" : Str) = ⟨#[10]⟩ := by decide +kernel
theorem cutS_nat {z : Str} {i j : Nat} (h1 : i ≤ j) (h2 : j ≤ z.cps.toList.length) : cutS z (some ((i : Nat) : Int)) (some ((j : Nat) : Int)) = cutT z.cps.toList i j := by
  have zl : z.length = z.cps.toList.length := Array.length_toList.symm
  unfold cutS cutT
  rw [HT.sIx_nat, HT.sIx_nat, Nat.min_eq_left (by omega), Nat.min_eq_left (by omega)]
theorem tkz_le {t : List Nat} {a : Nat} {ts : List TK} (h : Tkz t a ts) : a ≤ t.length := by
  cases h with
  | fin h => omega
  | gap h _ _ => exact Nat.le_of_lt (List.getElem?_eq_some_iff.mp h).1
  | sign h _ _ => exact Nat.le_of_lt (List.getElem?_eq_some_iff.mp h).1
  | word h _ _ _ _ _ => exact Nat.le_of_lt (List.getElem?_eq_some_iff.mp h).1
  | bad h _ _ _ => exact Nat.le_of_lt (List.getElem?_eq_some_iff.mp h).1
section
variable {P : Program} {w : World} {K : PySem.W.Frag} {mg : Str → Option Value} {base : Heap} {kw : Addr}
def spToks : Sp := fun vs H Q _ => ∃ (z : Str) (ts : List TK), vs = [.str z] ∧ z.length ≤ 1000000 ∧ Tkz z.cps.toList 0 ts ∧ ts.length ≤ 1000001 ∧ ∀ (L : Addr) (xs : List V) (H' : Hp), Same H H' → H L = none → H' L = some (.lst xs) → Paired (TkAt H') xs ts → Q (.ref L) H'
theorem ok_ToksOf {f : Addr} {fd : FuncData} (F : Fun K "tokens_of" "tokens_of" sToksOf f fd) (T : TxTok K mg kw) (GK : Has P w K mg base CX0 1 "kind_of" PKindOf spKind) (GE : Has P w K mg base CX0 1 "end_of_run" PEndRun spEnd) : FnOk P w K mg base CX0 2 f fd PToksOf spToks := by
  refine F.ok scToksOf (fun vs H Q E h => ?_) (fun cdv A outer s H vs Q E hr h => ?_)
  · obtain ⟨z, ts, rfl, _⟩ := h
    rfl
  · obtain ⟨z, ts, rfl, hz, ht, lts, k⟩ := h
    have hz' : z.length ≤ sizeLine := Nat.le_trans hz (by decide)
    have zl : z.length = z.cps.toList.length := Array.length_toList.symm
    refine ⟨_, (pss_cons (ps_set (i := 1) scToksOf.nd rfl (Or.inl rfl) (pe_lst pa_nil))
  (pss_cons (ps_set (i := 2) scToksOf.nd rfl (Or.inl rfl) pe_int)
  (pss_cons (ps_while PassesOwn.never (pt_cmpR op_lt (pv 2) (pe_callB call_len_str (by rfl) T.n_len bb_len (pa_cons (pv 0) pa_nil)) (nomark _))
  (pss_cons (ps_if (PW.pt (pw_or (pt_cmpR op_eq (pe_ix ix_str (pv 0) (pv 2) (fun _ _ => rfl)) pe_str (nomark _)) (pw_or1 (pt_cmpR op_eq (pe_ix ix_str (pv 0) (pv 2) (fun _ _ => rfl)) pe_str (nomark _)))))
  (pss_cons (ps_aug (i := 2) scToksOf.nd rfl (Or.inl rfl) pe_int ip_add)
  (pss_one ps_continue))
  pss_nil)
  (pss_cons (ps_if (pt_cmpR op_in_sign (pe_ix ix_str (pv 0) (pv 2) (fun _ _ => rfl)) (pe_globE rfl T.c_SIGNS) (by rfl))
  (pss_cons (ps_expr (pe_bm PySem.F.plainAttrs_list PySem.F.slot_list_append PySem.F.type_list_append mt_append (pv 1) (pa_cons (pe_tup (pa_cons pe_str (pa_cons (pe_ix ix_str (pv 0) (pv 2) (fun _ _ => rfl)) (pa_cons (pv 2) pa_nil)))) pa_nil)))
  (pss_cons (ps_aug (i := 2) scToksOf.nd rfl (Or.inl rfl) pe_int ip_add)
  (pss_one ps_continue)))
  pss_nil)
  (pss_cons (ps_set (i := 3) scToksOf.nd rfl (Or.inl rfl) (pe_callH GE hr rfl pass0 (pa_cons (pv 0) (pa_cons (pv 2) pa_nil))))
  (pss_cons (ps_if (PW.pt (pw_or (pt_cmpR op_eq (pv 3) (pv 2) (nomark _)) (pw_or1 (pt_cmpR op_eq (pe_callH GK hr rfl pass0 (pa_cons (pe_slice sl_str (pv 0) (po_some (pv 2)) (po_some (pv 3))) pa_nil)) pe_str (nomark _)))))
  (pss_cons (ps_expr (pe_bm PySem.F.plainAttrs_list PySem.F.slot_list_append PySem.F.type_list_append mt_append (pv 1) (pa_cons (pe_tup (pa_cons pe_str (pa_cons pe_str (pa_cons (pv 2) pa_nil)))) pa_nil)))
  (pss_one (ps_ret (pv 1))))
  pss_nil)
  (pss_cons (ps_expr (pe_bm PySem.F.plainAttrs_list PySem.F.slot_list_append PySem.F.type_list_append mt_append (pv 1) (pa_cons (pe_tup (pa_cons (pe_callH GK hr rfl pass0 (pa_cons (pe_slice sl_str (pv 0) (po_some (pv 2)) (po_some (pv 3))) pa_nil)) (pa_cons (pe_slice sl_str (pv 0) (po_some (pv 2)) (po_some (pv 3))) (pa_cons (pv 2) pa_nil)))) pa_nil)))
  (pss_one (ps_set (i := 2) scToksOf.nd rfl (Or.inl rfl) (pv 3)))))))))
  (pss_cons (ps_expr (pe_bm PySem.F.plainAttrs_list PySem.F.slot_list_append PySem.F.type_list_append mt_append (pv 1) (pa_cons (pe_tup (pa_cons pe_str (pa_cons pe_str (pa_cons (pe_callB call_len_str (by rfl) T.n_len bb_len (pa_cons (pv 0) pa_nil)) pa_nil)))) pa_nil)))
  (pss_one (ps_ret (pv 1))))))), ?_⟩
    refine ⟨(by show 0 ≤ sizeLine; decide), fun L hL => ?_⟩
    refine ⟨fun m σ H' => ∃ (a : Nat) (ts1 ts2 : List TK) (xs : List V) (x3 : Option V), m = z.length - a ∧ ts = ts1 ++ ts2 ∧ Tkz z.cps.toList a ts2 ∧ σ = [some (.str z), some (.ref L), some (.int (a : Nat)), x3] ∧ Same H H' ∧ H' L = some (.lst xs) ∧ Paired (TkAt H') xs ts1, ⟨_, 0, [], ts, [], _, rfl, rfl, ht, rfl, same_new hL, upd_same, .nil⟩, ?_⟩
    rintro m σ H1 ⟨a, ts1, ts2, xs, x3, rfl, ets, hz2, rfl, s1, eL, hp⟩
    have lx : xs.length = ts1.length := Paired.length hp
    have lt1 : ts1.length + ts2.length = ts.length := by rw [ets, List.length_append]
    -- one more token, whatever it is
    have more : ∀ {H2 : Hp} {p : Addr} {tk : TK}, Same H1 H2 → H2 p = none → Paired (TkAt (upd (upd H2 p (.tup [.str tk.1, .str tk.2.1, .int (tk.2.2 : Nat)])) L (.lst (xs ++ [.ref p])))) (xs ++ [.ref p]) (ts1 ++ [tk]) ∧ Same H (upd (upd H2 p (.tup [.str tk.1, .str tk.2.1, .int (tk.2.2 : Nat)])) L (.lst (xs ++ [.ref p]))) := fun {H2 p tk} s2 hp2 => by
      have s3 := same_new (o := .tup [.str tk.1, .str tk.2.1, .int (tk.2.2 : Nat)]) hp2
      have eL2 := s2 _ _ eL
      have pL : p ≠ L := fun z => by rw [z, eL2] at hp2; cases hp2
      refine ⟨Paired.snocP (Paired.mapP hp fun _ _ q => q.same fun b ys e => ?_) ⟨p, rfl, ?_⟩, fun b o e => ?_⟩
      · rw [upd_ne (ne_of (s2 _ _ e) eL2 fun z => by cases z)]
        exact s3 _ _ (s2 _ _ e)
      · rw [upd_ne pL, upd_same]
      · rw [upd_ne (ne_of_none e hL)]
        exact s3 _ _ (s2 _ _ (s1 _ _ e))
    refine ⟨_, rfl, _, rfl, z, rfl, hz', _, _, rfl, rfl, _, rfl, ite2 (fun h1 => ?_) (fun h1 => ?_)⟩
    · have h1 : a < z.cps.toList.length := by have := of_decide_eq_true h1; omega
      obtain ⟨c, hc⟩ : ∃ c, z.cps.toList[a]? = some c := ⟨_, List.getElem?_eq_getElem h1⟩
      have atc : atI z.cps.toList ((a : Nat) : Int) = some c := atI_nat hc
      refine ⟨fun σ' H' => ∃ (a' : Nat) (ts1 ts2 : List TK) (xs : List V) (x3 : Option V), a < a' ∧ a' ≤ z.cps.toList.length ∧ ts = ts1 ++ ts2 ∧ Tkz z.cps.toList a' ts2 ∧ σ' = [some (.str z), some (.ref L), some (.int (a' : Nat)), x3] ∧ Same H H' ∧ H' L = some (.lst xs) ∧ Paired (TkAt H') xs ts1, fun σ' H' ⟨a', u1, u2, us, ux, q1, q2, q3⟩ => ⟨z.length - a', by omega, a', u1, u2, us, ux, rfl, q3⟩, ?_⟩
      cases hz2 with
      | fin h => omega
      | @gap _ c' _ h hcc r =>
        rw [hc] at h
        cases h
        refine ⟨_, rfl, _, rfl, z, _, c, rfl, rfl, hz', atc, rfl, _, rfl, ?_⟩
        have le := tkz_le r
        rw [e32, eq_sign]
        refine ite2 (fun q => iteS rfl ?_) (fun q => ?_)
        · exact ⟨_, rfl, _, _, rfl, rfl, a + 1, ts1, ts2, xs, _, by omega, le, ets, r, rfl, s1, eL, hp⟩
        · have c10 : c = 10 := hcc.resolve_left fun e => q (decide_eq_true e)
          refine ⟨_, rfl, _, rfl, z, _, c, rfl, rfl, hz', atc, rfl, _, rfl, iteS (by rw [e10, eq_sign, decide_eq_true c10]) ?_⟩
          exact ⟨_, rfl, _, _, rfl, rfl, a + 1, ts1, ts2, xs, _, by omega, le, ets, r, rfl, s1, eL, hp⟩
      | @sign _ c' ts' h hcc r =>
        rw [hc] at h
        cases h
        obtain ⟨n1, n2⟩ := sig_gap c hcc
        refine ⟨_, rfl, _, rfl, z, _, c, rfl, rfl, hz', atc, rfl, _, rfl, iteE (by rw [e32, eq_sign, decide_eq_false n1]) ?_⟩
        refine ⟨_, rfl, _, rfl, z, _, c, rfl, rfl, hz', atc, rfl, _, rfl, iteE (by rw [e10, eq_sign, decide_eq_false n2]) ?_⟩
        refine ⟨_, rfl, _, rfl, z, _, c, rfl, rfl, hz', atc, c, _, rfl, rfl, _, rfl, iteS (decide_eq_true hcc) ?_⟩
        refine ⟨_, rfl, .inl ⟨rfl, _, SqL.of eL⟩, _, rfl, _, rfl, z, _, c, rfl, rfl, hz', atc, _, rfl, (by show 3 ≤ sizeLine; decide), fun p hp2 => ?_⟩
        obtain ⟨m1, m2⟩ := more (tk := ("mark", ⟨#[c]⟩, a)) (Same.refl _) hp2
        rw [List.length_cons] at lt1
        refine ⟨L, xs, _, rfl, rfl, same_new hp2 _ _ eL, Nat.lt_of_le_of_lt (show xs.length ≤ 1000001 by omega) (by decide), ?_⟩
        exact ⟨_, rfl, _, _, rfl, rfl, a + 1, ts1 ++ [(("mark", ⟨#[c]⟩, a) : TK)], ts', xs ++ [.ref p], _, by omega, tkz_le r, by rw [ets, List.append_assoc]; rfl, r, rfl, m2, upd_same, m1⟩
      | @word _ j c' ts' h hg run lt kb r =>
        rw [hc] at h
        cases h
        obtain ⟨n1, n2, n3⟩ := hg
        refine ⟨_, rfl, _, rfl, z, _, c, rfl, rfl, hz', atc, rfl, _, rfl, iteE (by rw [e32, eq_sign, decide_eq_false n1]) ?_⟩
        refine ⟨_, rfl, _, rfl, z, _, c, rfl, rfl, hz', atc, rfl, _, rfl, iteE (by rw [e10, eq_sign, decide_eq_false n2]) ?_⟩
        refine ⟨_, rfl, _, rfl, z, _, c, rfl, rfl, hz', atc, c, _, rfl, rfl, _, rfl, iteE (decide_eq_false n3) ?_⟩
        have j2 := run.2.1
        have cw : cutS z (some ((a : Nat) : Int)) (some ((j : Nat) : Int)) = cutT z.cps.toList a j := cutS_nat (by omega) j2
        have cl : (cutT z.cps.toList a j).cps.toList.length = j - a := by
          unfold cutT
          rw [List.toList_toArray, List.length_take, List.length_drop]
          omega
        have cne : (cutT z.cps.toList a j).cps.toList ≠ [] := fun e => by rw [e] at cl; simp at cl; omega
        have cle : (cutT z.cps.toList a j).length ≤ 1000000 := by
          have : (cutT z.cps.toList a j).length = (cutT z.cps.toList a j).cps.toList.length := Array.length_toList.symm
          omega
        refine ⟨_, rfl, _, rfl, z, a, j, rfl, hz, run, ?_⟩
        refine ⟨_, rfl, _, rfl, rfl, _, rfl, iteE (decide_eq_false fun q => by injection q with q; omega) ?_⟩
        refine ⟨_, rfl, _, rfl, _, rfl, _, rfl, _, rfl, z, rfl, hz', ?_⟩
        rw [cw]
        refine ⟨_, rfl, cne, cle, rfl, _, rfl, iteE (decide_eq_false fun q => kb (by injection q)) ?_⟩
        refine ⟨_, rfl, .inl ⟨rfl, _, SqL.of eL⟩, _, rfl, _, rfl, _, rfl, _, rfl, _, rfl, z, rfl, hz', ?_⟩
        rw [cw]
        refine ⟨_, rfl, cne, cle, ?_⟩
        refine ⟨_, rfl, _, rfl, _, rfl, _, rfl, _, rfl, z, rfl, hz', ?_⟩
        rw [cw]
        refine ⟨_, rfl, (by show 3 ≤ sizeLine; decide), fun p hp2 => ?_⟩
        obtain ⟨m1, m2⟩ := more (tk := (kindOf (cutT z.cps.toList a j), cutT z.cps.toList a j, a)) (Same.refl _) hp2
        rw [List.length_cons] at lt1
        refine ⟨L, xs, _, rfl, rfl, same_new hp2 _ _ eL, Nat.lt_of_le_of_lt (show xs.length ≤ 1000001 by omega) (by decide), ?_⟩
        exact ⟨_, rfl, j, ts1 ++ [(kindOf (cutT z.cps.toList a j), cutT z.cps.toList a j, a)], ts', xs ++ [.ref p], _, lt, tkz_le r, by rw [ets, List.append_assoc]; rfl, r, rfl, m2, upd_same, m1⟩
      | @bad _ j c' h hg run b =>
        rw [hc] at h
        cases h
        obtain ⟨n1, n2, n3⟩ := hg
        have fin : ∀ {p : Addr}, H1 p = none → Q (.ref L) (upd (upd H1 p (.tup [.str "bad", .str "", .int (a : Nat)])) L (.lst (xs ++ [.ref p]))) := fun {p} hp2 => by
          obtain ⟨m1, m2⟩ := more (tk := ("bad", "", a)) (Same.refl _) hp2
          exact k L _ _ m2 hL upd_same (by rw [ets]; exact m1)
        have sml : xs.length < sizeLine := Nat.lt_of_le_of_lt (show xs.length ≤ 1000001 by omega) (by decide)
        refine ⟨_, rfl, _, rfl, z, _, c, rfl, rfl, hz', atc, rfl, _, rfl, iteE (by rw [e32, eq_sign, decide_eq_false n1]) ?_⟩
        refine ⟨_, rfl, _, rfl, z, _, c, rfl, rfl, hz', atc, rfl, _, rfl, iteE (by rw [e10, eq_sign, decide_eq_false n2]) ?_⟩
        refine ⟨_, rfl, _, rfl, z, _, c, rfl, rfl, hz', atc, c, _, rfl, rfl, _, rfl, iteE (decide_eq_false n3) ?_⟩
        have j2 := run.2.1
        refine ⟨_, rfl, _, rfl, z, a, j, rfl, hz, run, ?_⟩
        by_cases ja : j = a
        · refine ⟨_, rfl, _, rfl, rfl, _, rfl, iteS (decide_eq_true (by rw [ja])) (iteS rfl ?_)⟩
          exact ⟨_, rfl, .inl ⟨rfl, _, SqL.of eL⟩, _, rfl, (by show 3 ≤ sizeLine; decide), fun p hp2 => ⟨L, xs, _, rfl, rfl, same_new hp2 _ _ eL, sml, _, rfl, fin hp2⟩⟩
        · have kb := b.resolve_left ja
          have r1 := run.1
          have cw : cutS z (some ((a : Nat) : Int)) (some ((j : Nat) : Int)) = cutT z.cps.toList a j := cutS_nat (by omega) j2
          have cl : (cutT z.cps.toList a j).cps.toList.length = j - a := by
            unfold cutT
            rw [List.toList_toArray, List.length_take, List.length_drop]
            omega
          have cne : (cutT z.cps.toList a j).cps.toList ≠ [] := fun e => by rw [e] at cl; simp at cl; omega
          have cle : (cutT z.cps.toList a j).length ≤ 1000000 := by
            have : (cutT z.cps.toList a j).length = (cutT z.cps.toList a j).cps.toList.length := Array.length_toList.symm
            omega
          refine ⟨_, rfl, _, rfl, rfl, _, rfl, iteE (decide_eq_false fun q => by injection q with q; omega) ?_⟩
          refine ⟨_, rfl, _, rfl, _, rfl, _, rfl, _, rfl, z, rfl, hz', ?_⟩
          rw [cw]
          refine ⟨_, rfl, cne, cle, rfl, _, rfl, iteS (decide_eq_true (by rw [kb])) ?_⟩
          exact ⟨_, rfl, .inl ⟨rfl, _, SqL.of eL⟩, _, rfl, (by show 3 ≤ sizeLine; decide), fun p hp2 => ⟨L, xs, _, rfl, rfl, same_new hp2 _ _ eL, sml, _, rfl, fin hp2⟩⟩
    · have h1 : ¬ a < z.length := fun q => h1 (decide_eq_true (by omega))
      cases hz2 with
      | fin h =>
        refine ⟨_, rfl, .inl ⟨rfl, _, SqL.of eL⟩, _, rfl, z, rfl, hz', (by show 3 ≤ sizeLine; decide), fun p hp2 => ?_⟩
        obtain ⟨m1, m2⟩ := more (tk := ("end", "", z.length)) (Same.refl _) hp2
        have ea : a = z.length := by omega
        exact ⟨L, xs, _, rfl, rfl, same_new hp2 _ _ eL, Nat.lt_of_le_of_lt (show xs.length ≤ 1000001 by omega) (by decide), _, rfl, k L _ _ m2 hL upd_same (by rw [ets, ea]; exact m1)⟩
      | gap h _ _ => exact absurd (List.getElem?_eq_some_iff.mp h).1 (by omega)
      | sign h _ _ => exact absurd (List.getElem?_eq_some_iff.mp h).1 (by omega)
      | word h _ _ _ _ _ => exact absurd (List.getElem?_eq_some_iff.mp h).1 (by omega)
      | bad h _ _ _ => exact absurd (List.getElem?_eq_some_iff.mp h).1 (by omega)
end


/-! ### the class Reader -/
abbrev sRIni : Stmt := inClass (topS 16) 0
abbrev NRIni : List Str := ["self", "text"]
abbrev PRIni : List Str := ["self", "text"]
theorem scRIni : FnScope NRIni PRIni (defScope sRIni) := ⟨rfl, rfl, rfl, by decide +kernel, rfl, by decide +kernel, by decide +kernel⟩
abbrev sRCur : Stmt := inClass (topS 16) 1
abbrev NRCur : List Str := ["self"]
abbrev PRCur : List Str := ["self"]
theorem scRCur : FnScope NRCur PRCur (defScope sRCur) := ⟨rfl, rfl, rfl, by decide +kernel, rfl, by decide +kernel, by decide +kernel⟩
abbrev sRNext : Stmt := inClass (topS 16) 2
abbrev NRNext : List Str := ["self", "word"]
abbrev PRNext : List Str := ["self", "word"]
theorem scRNext : FnScope NRNext PRNext (defScope sRNext) := ⟨rfl, rfl, rfl, by decide +kernel, rfl, by decide +kernel, by decide +kernel⟩
abbrev sRAcc : Stmt := inClass (topS 16) 3
abbrev NRAcc : List Str := ["self", "word"]
abbrev PRAcc : List Str := ["self", "word"]
theorem scRAcc : FnScope NRAcc PRAcc (defScope sRAcc) := ⟨rfl, rfl, rfl, by decide +kernel, rfl, by decide +kernel, by decide +kernel⟩
abbrev sRName : Stmt := inClass (topS 16) 5
abbrev NRName : List Str := ["self", "token"]
abbrev PRName : List Str := ["self"]
theorem scRName : FnScope NRName PRName (defScope sRName) := ⟨rfl, rfl, rfl, by decide +kernel, rfl, by decide +kernel, by decide +kernel⟩
abbrev sRRow : Stmt := inClass (topS 16) 7
abbrev NRRow : List Str := ["self", "names"]
abbrev PRRow : List Str := ["self"]
theorem scRRow : FnScope NRRow PRRow (defScope sRRow) := ⟨rfl, rfl, rfl, by decide +kernel, rfl, by decide +kernel, by decide +kernel⟩
abbrev sRTerm : Stmt := inClass (topS 16) 8
abbrev NRTerm : List Str := ["self", "token"]
abbrev PRTerm : List Str := ["self"]
theorem scRTerm : FnScope NRTerm PRTerm (defScope sRTerm) := ⟨rfl, rfl, rfl, by decide +kernel, rfl, by decide +kernel, by decide +kernel⟩
def rdF (L : Addr) (i d : Nat) : List (Str × V) := [("tokens", .ref L), ("index_of_token", .int (i : Nat)), ("depth", .int (d : Nat))]
structure TxR (K : PySem.W.Frag) (C : Addr) : Prop where
  cl : Cls K C
  nT : NoAttr K C "tokens"
  nI : NoAttr K C "index_of_token"
  nD : NoAttr K C "depth"
def RdAt (C : Addr) (H : Hp) (S L : Addr) (i d : Nat) (ts : List TK) : Prop := ∃ (dx : Addr) (xs : List V), H S = some (.ins C dx (rdF L i d)) ∧ H L = some (.lst xs) ∧ Paired (TkAt H) xs ts
/-- all but S stays -/
def Bt (S : Addr) (H H' : Hp) : Prop := ∀ b o, H b = some o → b ≠ S → H' b = some o
theorem Bt.refl {S : Addr} {H : Hp} : Bt S H H := fun _ _ e _ => e
theorem Bt.trans {S : Addr} {H H1 H2 : Hp} (a : Bt S H H1) (b : Bt S H1 H2) : Bt S H H2 := fun c o e h => b c o (a c o e h) h
theorem Bt.of {S : Addr} {H H' : Hp} (s : Same H H') : Bt S H H' := fun b o e _ => s b o e
theorem RdAt.same {C : Addr} {H H' : Hp} {S L : Addr} {i d : Nat} {ts : List TK} (h : RdAt C H S L i d ts) (s : Same H H') : RdAt C H' S L i d ts := let ⟨dx, xs, e1, e2, e3⟩ := h; ⟨dx, xs, s _ _ e1, s _ _ e2, Paired.mapP e3 fun _ _ q => q.same fun _ _ e => s _ _ e⟩
theorem RdAt.step {C : Addr} {H : Hp} {S L dx : Addr} {i j d : Nat} {ts : List TK} (h : RdAt C H S L i d ts) : RdAt C (upd H S (.ins C dx (rdF L j d))) S L j d ts := by
  obtain ⟨dy, xs, e1, e2, e3⟩ := h
  refine ⟨dx, xs, upd_same, by rw [upd_ne (ne_of e2 e1 fun z => by cases z)]; exact e2, Paired.mapP e3 fun _ _ q => q.same fun b ys e => ?_⟩
  rw [upd_ne (ne_of e e1 fun z => by cases z)]
  exact e
theorem bt_upd {H : Hp} {S : Addr} {o : HO} : Bt S H (upd H S o) := fun b x e h => by rw [upd_ne h]; exact e
theorem ti_ne : ¬ (("tokens" : Str) = "index_of_token") := by decide +kernel
theorem td_ne : ¬ (("tokens" : Str) = "depth") := by decide +kernel
theorem id_ne : ¬ (("index_of_token" : Str) = "depth") := by decide +kernel
theorem putF_ix (L : Addr) (i j d : Nat) : putF "index_of_token" (.int (j : Nat)) (rdF L i d) = rdF L j d := by
  show (if ("tokens" : Str) = "index_of_token" then _ else (("tokens" : Str), V.ref L) :: (if ("index_of_token" : Str) = "index_of_token" then _ else _)) = _
  rw [if_neg ti_ne, if_pos rfl]
  rfl
theorem putF_rd (L : Addr) : putF "depth" (.int 0) (putF "index_of_token" (.int 0) (putF "tokens" (.ref L) [])) = rdF L 0 0 := by
  show putF "depth" (.int 0) (if ("tokens" : Str) = "index_of_token" then _ else (("tokens" : Str), V.ref L) :: [(("index_of_token" : Str), V.int 0)]) = _
  rw [if_neg ti_ne]
  show (if ("tokens" : Str) = "depth" then _ else (("tokens" : Str), V.ref L) :: (if ("index_of_token" : Str) = "depth" then _ else (("index_of_token" : Str), V.int 0) :: [(("depth" : Str), V.int 0)])) = _
  rw [if_neg td_ne, if_neg id_ne]
  rfl
section
variable {P : Program} {w : World} {K : PySem.W.Frag} {mg : Str → Option Value} {base : Heap} {kw C : Addr}
def spRIni (C : Addr) : Sp := fun vs H Q _ => ∃ (S dx : Addr) (z : Str) (ts : List TK), vs = [.ref S, .str z] ∧ H S = some (.ins C dx []) ∧ z.length ≤ 1000000 ∧ Tkz z.cps.toList 0 ts ∧ ts.length ≤ 1000001 ∧ ∀ (L : Addr) (H' : Hp), Bt S H H' → RdAt C H' S L 0 0 ts → Q .non H'
theorem ok_RIni {f : Addr} {fd : FuncData} (F : Fun K "__init__" "Reader.__init__" sRIni f fd) (TR : TxR K C) (GT : Has P w K mg base CX0 2 "tokens_of" PToksOf spToks) : FnOk P w K mg base CX0 3 f fd PRIni (spRIni C) := by
  refine F.ok scRIni (fun vs H Q E h => ?_) (fun cdv A outer s H vs Q E hr h => ?_)
  · obtain ⟨S, dx, z, ts, rfl, _⟩ := h
    rfl
  · obtain ⟨S, dx, z, ts, rfl, eS, hz, ht, lt, k⟩ := h
    refine ⟨_, (pss_cons (ps_fld (pv 0) (pe_callH GT hr rfl pass0 (pa_cons (pv 1) pa_nil)) rfl)
  (pss_cons (ps_fld (pv 0) pe_int rfl)
  (pss_one (ps_fld (pv 0) pe_int rfl)))), ?_⟩
    refine ⟨_, rfl, z, ts, rfl, hz, ht, lt, fun L xs H1 s1 fL eL hp => ?_⟩
    have eS1 := s1 _ _ eS
    have LS : L ≠ S := ne_of eL eS1 fun z => by cases z
    refine ⟨_, rfl, S, C, dx, [], rfl, eS1, TR.cl, TR.nT, (by show 0 < 1000; decide), ?_⟩
    refine ⟨_, rfl, S, C, dx, _, rfl, upd_same, TR.cl, TR.nI, (by show 1 < 1000; decide), ?_⟩
    refine ⟨_, rfl, S, C, dx, _, rfl, upd_same, TR.cl, TR.nD, (by show 2 < 1000; decide), ?_⟩
    refine k L _ (fun b o e hb => by rw [upd_ne hb, upd_ne hb, upd_ne hb]; exact s1 _ _ e) ⟨dx, xs, by rw [upd_same, putF_rd], by rw [upd_ne LS, upd_ne LS, upd_ne LS]; exact eL, Paired.mapP hp fun _ _ q => q.same fun b ys e => ?_⟩
    have bS : b ≠ S := ne_of e eS1 fun z => by cases z
    rw [upd_ne bS, upd_ne bS, upd_ne bS]
    exact e
def spCurr (C : Addr) : Sp := fun vs H Q _ => ∃ (S L : Addr) (i d : Nat) (ts : List TK) (tk : TK), vs = [.ref S] ∧ RdAt C H S L i d ts ∧ ts[i]? = some tk ∧ ∀ p, H p = some (.tup [.str tk.1, .str tk.2.1, .int (tk.2.2 : Nat)]) → Q (.ref p) H
theorem ok_RCur {f : Addr} {fd : FuncData} (F : Fun K "current" "Reader.current" sRCur f fd) (TR : TxR K C) : FnOk P w K mg base CX0 1 f fd PRCur (spCurr C) := by
  refine F.ok scRCur (fun vs H Q E h => ?_) (fun cdv A outer s H vs Q E hr h => ?_)
  · obtain ⟨S, L, i, d, ts, tk, rfl, _⟩ := h
    rfl
  · obtain ⟨S, L, i, d, ts, tk, rfl, ⟨dx, xs, e1, e2, e3⟩, ht, k⟩ := h
    refine ⟨_, (pss_one (ps_ret (pe_ix (r := rIxL K) ix_list (pe_fld (pv 0) rfl) (pe_fld (pv 0) rfl) (fun _ _ => rfl)))), ?_⟩
    have hi : i < xs.length := by rw [Paired.length e3]; exact (List.getElem?_eq_some_iff.mp ht).1
    obtain ⟨tk', h1, p, h2, h3⟩ := Paired.at e3 (List.getElem?_eq_getElem hi)
    rw [ht] at h1
    cases h1
    refine ⟨_, rfl, S, C, dx, _, _, rfl, e1, TR.cl, TR.nT, rfl, _, rfl, S, C, dx, _, _, rfl, e1, TR.cl, TR.nI, rfl, L, _, _, _, rfl, rfl, SqL.of e2, atI_nat (by rw [List.getElem?_eq_getElem hi, h2]), k p h3⟩
def isMark (tk : TK) (wd : Str) : Bool := decide (tk.1 = "mark") && decide (tk.2.1 = wd)
def spNext (C : Addr) : Sp := fun vs H Q _ => ∃ (S L : Addr) (i d : Nat) (ts : List TK) (tk : TK) (wd : Str), vs = [.ref S, .str wd] ∧ RdAt C H S L i d ts ∧ ts[i]? = some tk ∧ Q (.bl (isMark tk wd)) H
theorem dec_str (a b : Str) : decide (V.str a = V.str b) = decide (a = b) := decide_eq_decide.mpr ⟨fun h => by injection h, fun h => by rw [h]⟩
theorem ok_RNext {f : Addr} {fd : FuncData} (F : Fun K "is_next" "Reader.is_next" sRNext f fd) (TR : TxR K C) (MC : HasM P w K mg base CX0 1 C "current" PRCur (spCurr C)) : FnOk P w K mg base CX0 2 f fd PRNext (spNext C) := by
  refine F.ok scRNext (fun vs H Q E h => ?_) (fun cdv A outer s H vs Q E hr h => ?_)
  · obtain ⟨S, L, i, d, ts, tk, wd, rfl, _⟩ := h
    rfl
  · obtain ⟨S, L, i, d, ts, tk, wd, rfl, ra, ht, k⟩ := h
    obtain ⟨dx, xs, e1, _⟩ := id ra
    refine ⟨_, (pss_one (ps_ret (pe_and (pe_cmpR op_eq (pe_ix (r := rIxT K) ix_tup (pe_methH0 (pv 0) TR.cl MC hr pass0) pe_int (fun _ _ => rfl)) pe_str (nomark _)) (pe_one (pe_cmpR op_eq (pe_ix (r := rIxT K) ix_tup (pe_methH0 (pv 0) TR.cl MC hr pass0) pe_int (fun _ _ => rfl)) (pv 1) (nomark _)))))), ?_⟩
    refine ⟨_, rfl, S, dx, _, rfl, e1, rfl, S, L, i, d, ts, tk, rfl, ra, ht, fun p hp => ⟨p, _, _, _, rfl, rfl, SqT.of hp, rfl, rfl, decide (tk.1 = "mark"), by rw [dec_str], ?_⟩⟩
    unfold isMark at k
    by_cases e : tk.1 = "mark"
    · refine iteS (decide_eq_true e) ?_
      refine ⟨_, rfl, S, dx, _, rfl, e1, rfl, S, L, i, d, ts, tk, rfl, ra, ht, fun p hp => ⟨p, _, _, _, rfl, rfl, SqT.of hp, rfl, _, rfl, rfl, ?_⟩⟩
      rw [decide_eq_true e, Bool.true_and] at k
      rw [dec_str]
      exact k
    · refine iteE (decide_eq_false e) ?_
      rw [decide_eq_false e, Bool.false_and] at k
      exact k
def spAcc (C : Addr) : Sp := fun vs H Q _ => ∃ (S L : Addr) (i d : Nat) (ts : List TK) (tk : TK) (wd : Str), vs = [.ref S, .str wd] ∧ RdAt C H S L i d ts ∧ ts[i]? = some tk ∧
  ((isMark tk wd = false ∧ Q (.bl false) H) ∨ (isMark tk wd = true ∧ ∀ H', Bt S H H' → RdAt C H' S L (i + 1) d ts → Q (.bl true) H'))
theorem ok_RAcc {f : Addr} {fd : FuncData} (F : Fun K "accept" "Reader.accept" sRAcc f fd) (TR : TxR K C) (MN : HasM P w K mg base CX0 2 C "is_next" PRNext (spNext C)) : FnOk P w K mg base CX0 3 f fd PRAcc (spAcc C) := by
  refine F.ok scRAcc (fun vs H Q E h => ?_) (fun cdv A outer s H vs Q E hr h => ?_)
  · obtain ⟨S, L, i, d, ts, tk, wd, rfl, _⟩ := h
    rfl
  · obtain ⟨S, L, i, d, ts, tk, wd, rfl, ra, ht, h⟩ := h
    obtain ⟨dx, xs, e1, _⟩ := id ra
    refine ⟨_, (pss_cons (ps_if (pt_not (pt_val (pe_methH (pv 0) TR.cl MN hr pass0 (pa_cons (pv 1) pa_nil))))
  (pss_one (ps_ret pe_bl))
  pss_nil)
  (pss_cons (ps_fldaug (pv 0) pe_int in_add)
  (pss_one (ps_ret pe_bl)))), ?_⟩
    refine ⟨_, rfl, S, dx, _, rfl, e1, rfl, _, rfl, S, L, i, d, ts, tk, wd, rfl, ra, ht, isMark tk wd, rfl, ?_⟩
    rcases h with ⟨hm, k⟩ | ⟨hm, k⟩
    · refine iteS (by rw [hm]; rfl) ?_
      exact k
    · refine iteE (by rw [hm]; rfl) ?_
      refine ⟨_, rfl, S, C, dx, _, _, rfl, e1, TR.cl, TR.nI, rfl, _, _, rfl, rfl, dx, _, e1, (by show 3 < 1000; decide), ?_⟩
      have e : putF "index_of_token" (.int (((i : Nat) : Int) + 1)) (rdF L i d) = rdF L (i + 1) d := putF_ix L i (i + 1) d
      rw [e]
      exact k _ bt_upd ra.step
def spRName (C : Addr) : Sp := fun vs H Q _ => ∃ (S L : Addr) (i d : Nat) (ts : List TK) (tk : TK), vs = [.ref S] ∧ RdAt C H S L i d ts ∧ ts[i]? = some tk ∧ tk.1 = "name" ∧ ∀ H', Bt S H H' → RdAt C H' S L (i + 1) d ts → Q (.str tk.2.1) H'
theorem ok_RName {f : Addr} {fd : FuncData} (F : Fun K "read_name" "Reader.read_name" sRName f fd) (TR : TxR K C) (MC : HasM P w K mg base CX0 1 C "current" PRCur (spCurr C)) : FnOk P w K mg base CX0 2 f fd PRName (spRName C) := by
  refine F.ok scRName (fun vs H Q E h => ?_) (fun cdv A outer s H vs Q E hr h => ?_)
  · obtain ⟨S, L, i, d, ts, tk, rfl, _⟩ := h
    rfl
  · obtain ⟨S, L, i, d, ts, tk, rfl, ra, ht, hn, k⟩ := h
    obtain ⟨dx, xs, e1, _⟩ := id ra
    refine ⟨_, (pss_cons (ps_set (i := 1) scRName.nd rfl (Or.inl rfl) (pe_methH0 (pv 0) TR.cl MC hr pass0))
  (pss_cons (ps_if (pt_cmpR op_ne (pe_ix (r := rIxT K) ix_tup (pv 1) pe_int (fun _ _ => rfl)) pe_str (nomark _))
  (pss_one ps_never)
  pss_nil)
  (pss_cons (ps_fldaug (pv 0) pe_int in_add)
  (pss_one (ps_ret (pe_ix (r := rIxT K) ix_tup (pv 1) pe_int (fun _ _ => rfl))))))), ?_⟩
    refine ⟨_, rfl, S, dx, _, rfl, e1, rfl, S, L, i, d, ts, tk, rfl, ra, ht, fun p hp => ?_⟩
    refine ⟨_, rfl, p, _, _, _, rfl, rfl, SqT.of hp, rfl, rfl, _, rfl, iteE (by rw [dec_str, decide_eq_true hn]; rfl) ?_⟩
    refine ⟨_, rfl, S, C, dx, _, _, rfl, e1, TR.cl, TR.nI, rfl, _, _, rfl, rfl, dx, _, e1, (by show 3 < 1000; decide), ?_⟩
    have e : putF "index_of_token" (.int (((i : Nat) : Int) + 1)) (rdF L i d) = rdF L (i + 1) d := putF_ix L i (i + 1) d
    rw [e]
    exact ⟨_, rfl, p, _, _, _, rfl, rfl, SqT.of (by rw [upd_ne (ne_of hp e1 fun z => by cases z)]; exact hp), rfl, k _ bt_upd ra.step⟩
end


/-! ### errors of own classes over any of the built-in ones: made with their one field -/
namespace XC
open PySem.W PySem.Calls PyProof.Rows
/-- which built-in makes the class: the tail of its mro, its maker -/
structure Bas (bmB : List Value) (newId : String) : Prop where
  ex : ∃ (B initId : String) (bm0 : List Value), ExcBaseFacts B newId initId bm0 ∧ bmB.contains (.type B) = true
  noA : bmB.contains (.type "AttributeError") = false
  noN : bmB.contains (.type "NameError") = false
  ob : bmB.contains (.type "object") = true
  pass : ∀ self, PySem.refuseLoop self "__setattr__" bmB = pure ()
abbrev tlV : List Value := [.type "ValueError", .type "Exception", .type "BaseException", .type "object"]
abbrev tlR : List Value := [.type "RuntimeError", .type "Exception", .type "BaseException", .type "object"]
abbrev tlK : List Value := [.type "KeyError", .type "LookupError", .type "Exception", .type "BaseException", .type "object"]
theorem basV : Bas tlV "ValueError.__new__" := ⟨⟨_, _, _, F.excBase_ValueError, by decide +kernel⟩, by decide +kernel, by decide +kernel, by decide +kernel, fun _ => by kernel_rfl⟩
theorem basR : Bas tlR "RuntimeError.__new__" := ⟨⟨_, _, _, F.excBase_RuntimeError, by decide +kernel⟩, by decide +kernel, by decide +kernel, by decide +kernel, fun _ => by kernel_rfl⟩
theorem basK : Bas tlK "LookupError.__new__" := ⟨⟨_, _, _, F.excBase_LookupError, by decide +kernel⟩, by decide +kernel, by decide +kernel, by decide +kernel, fun _ => by kernel_rfl⟩

abbrev xObj (C t : Addr) : Obj := { cls := .ref C, data := .fields #[.ref t, .none, .none, .none, .bool false, .none] }
section
variable {prog : Program} {w : World} {A : Around} {R : Result → Shared → Prop} {h : Heap} {g : Array GenState} {d : Drawn} {t : Nat} {os : OsState}
variable {nm q : Str} {C N : Addr} {bs bm bm0 : List Value} {hdct : Bool} {sn : List Str} {sub : List Value} {ab : Bool} {col : Option Bool} {dd : Option Addr} {k0 k1 k2 k3 k5 : Option Value} {B newId initId : String}
/-- C(..): the maker, then C's own __init__ -/
theorem call_x (F : ExcBaseFacts B newId initId bm0) (hB : bm.contains (.type B) = true) (hA : bm.contains (.type "AttributeError") = false) (hN : bm.contains (.type "NameError") = false) {us : List Value} {fI : Addr}
    (hC : h.get? C = some (excClassObj nm q C N bs bm hdct sn sub ab col dd k0 k1 k2 k3 k5 newId)) (hi : Looks (model prog w) h (typeLookup (.ref C) "__init__") (some (.ref fI)))
    (hb : ∀ self, Looks (model prog w) h (bindSpecial (.ref fI) self) (.ref fI, [self])) (hz : us.length ≤ sizeLine)
    (go : codeAny (model prog w) (A.under (.builtin "type.__call__" ⟨.ref C :: us, []⟩)) (.call (.ref fI) ⟨.ref (h.objs.size + 1) :: us, []⟩) (InitBack (h.objs.size + 1) R) ⟨(h.push (kdv_tup us)).push (xObj C h.objs.size), g, d, t, os⟩) :
    codeAny (model prog w) A (.call (.ref C) ⟨us, []⟩) R ⟨h, g, d, t, os⟩ := by
  have cB : (Value.ref C :: bm).contains (.type B) = true := by rw [List.contains_cons, hB, Bool.or_true]
  have cA : (Value.ref C :: bm).contains (.type "AttributeError") = false := by rw [List.contains_cons, hA]; rfl
  have cN : (Value.ref C :: bm).contains (.type "NameError") = false := by rw [List.contains_cons, hN]; rfl
  have lk := tc_lookup; have bd := tc_bind (.ref C); have st := F.noStar; have en := F.ends
  have ty : (⟨h, g, d, t, os⟩ : Shared).TypeIs (.ref C) "type" := ⟨_, hC, rfl⟩
  -- what the maker is asked
  have ask : ∀ {A' : Around} {Q : Unit → Shared → Prop} {E : Value → Shared → Prop}, Q () ⟨h, g, d, t, os⟩ → wpAny (model prog w) A' (checkBuiltinCall newId ⟨.ref C :: us, []⟩) Q E ⟨h, g, d, t, os⟩ := fun {A' Q E} y => by
    simp only [checkBuiltinCall, F.newSplit, F.newKind, F.newRow]
    repeat (first | refine wpAny_loadPart_at hC ?_ | (refine wpAny_isSubtype_exc hC ?_; rw [cB]) | refine wpAny_madeBy_exc hC ?_ | refine wpAny_staticBase_exc hC ?_ | simp only [bne_self_eq_false, Bool.false_eq_true, if_false] | wp_step)
    exact y
  -- the maker
  have make : ∀ {A' : Around} {S : Result → Shared → Prop}, S (.ok (.ret (.ref (h.objs.size + 1)))) ⟨(h.push (kdv_tup us)).push (xObj C h.objs.size), g, d, t, os⟩ → codeAny (model prog w) A' (.builtin newId ⟨.ref C :: us, []⟩) S ⟨h, g, d, t, os⟩ := fun {A' S} y => by
    refine PySem.codeAny_builtinAt F.entry ?_; unfold Builtin.«BaseException.__new__»
    refine PySem.wpAt_bind ?_; show PySem.wpAt _ _ _ (stack >>= _) _ _ _
    refine PySem.wpAt_bind (PySem.wpAt_stack fun p below => PySem.wpAt_of_wpAny ?_); wp_walk
    refine PySem.wpAt_of_wpAny ?_; rw [F.owner]
    repeat (first | with_reducible refine wpAny_madeHere_exc F.canon hC ?_ | with_reducible refine wpAny_loadPart_at hC ?_ | (with_reducible refine wpAny_isSubtype_exc hC ?_; first | rw [cB] | rw [cA] | rw [cN]) | wp_step)
    show S _ _; rw [Heap.size_push]; exact y
  have k : ∀ b o, h.get? b = some o → ((h.push (kdv_tup us)).push (xObj C h.objs.size)).get? b = some o := fun b o e => Heap.get?_push_of_some _ (Heap.get?_push_of_some _ e)
  have hC1 := k _ _ hC
  have hx : ((h.push (kdv_tup us)).push (xObj C h.objs.size)).get? (h.objs.size + 1) = some (xObj C h.objs.size) := by heap_get
  have cC : (Value.ref C :: bm).contains (.ref C) = true := by simp
  have i1 := hi.keeps k; have b1 := (hb (.ref (h.objs.size + 1))).keeps k
  refine codeAny_of_tree ?_; show wpAny _ _ (callAny (.ref C) _) _ _ _
  repeat (any_goals (first | assumption | with_reducible refine wpAny_loadPart_at hC ?_ | wp_step))
  refine ⟨rfl, codeAny_call_builtin_at (Code.quiet_builtin _ (by decide +kernel)) entry_typeCall (wpAny_check_type_call_sub hC ?_)⟩
  repeat (first | with_reducible refine wpAny_loadPart_at hC ?_ | with_reducible refine wpAny_madeBy_exc hC ?_ | wp_step)
  refine codeAny_call_builtin_code (Code.quiet_builtin _ F.quiet) (ask (make ?_))
  show wpAny _ _ _ _ _ _
  unfold isInstance
  repeat (first | with_reducible refine wpAny_loadPart_at hx ?_ | (with_reducible refine wpAny_isSubtype_exc hC1 ?_; rw [cC]) | wp_step)
  show wpAny _ _ (typeLookup (.ref C) _) _ _ _
  refine i1.at (wpAny_holding (wpAny_bind (b1.at (wpAny_bind (wpAny_call (codeAny_mono go fun r s' z => ?_))))))
  rcases r with e | (v | _ | _ | _) <;> first | exact z | exact z.elim | skip
  obtain ⟨rfl, z⟩ := z
  first
    | exact wpAny_pure (wpAny_pure z)
    | (wp_walk; exact z)
end
end XC
namespace XC
open PySem.W PySem.Calls PyProof.Rows Builtin Builtin.ObjectAttr
section
variable {prog : Program} {w : World} {A : Around} {R : Result → Shared → Prop} {hp : Heap} {g : Array GenState} {d : Drawn} {t : Nat} {os : OsState}
/-- self.f = v on an error that has no dict as yet -/
theorem osa_x {K : Frag} {f : Str} {tk : Tok} {v : Value} {x C : Addr} {fv : Array Value} {bmB : List Value} {newId : String} (B : Bas bmB newId) (X : K.In hp) (hx : hp.get? x = some { cls := .ref C, data := .fields fv }) (ho : excOver K C bmB = true) (hh : hasDictIn K C = true)
    (ha : findIn K (.ref C) f = some none)
    (go : ∀ h' tk' dx, (∀ b o, b ≠ x → hp.get? b = some o → h'.get? b = some o) → hp.objs.size ≤ dx → dx ≠ x → h'.get? x = some { cls := .ref C, dict := some dx, data := .fields fv } → h'.Ns1 dx (fun y => if y = f then some v else none) → R (.ok (.ret .none)) ⟨h', g, d, tk', os⟩) :
    codeAny (model prog w) A (.call (.builtin "object.__setattr__") ⟨[.ref x, .str f tk, v], []⟩) R ⟨hp, g, d, t, os⟩ := by
  obtain ⟨cd, hcd, hdct⟩ := any_some hh
  obtain ⟨bm, hm, ht⟩ : ∃ bm, cd.mro = .ref C :: bm ∧ excTail bmB bm = true := by
    unfold excOver at ho
    rw [hcd] at ho
    have ho : (match cd.mro with | .ref C' :: bm => C' == C && excTail bmB bm | _ => false) = true := ho
    split at ho
    · rename_i C' bm e
      obtain ⟨h1, h2⟩ := Bool.and_eq_true_iff.mp ho
      rw [beq_iff_eq.mp h1] at e
      exact ⟨bm, e, h2⟩
    · cases ho
  have ob : cd.mro.contains (.type "object") = true := by rw [hm, List.contains_cons, excTail_contains _ _ ht, B.ob, Bool.or_true]
  have ne : cd.mro.isEmpty = false := by rw [hm]; rfl
  have ps : ∀ self, PySem.refuseLoop self "__setattr__" cd.mro = pure () := fun self => excTail_pass self (B.pass self) _ (by rw [hm]; exact ht)
  have I : InstAt hp x { cls := .ref C, data := .fields fv } C none := ⟨hx, rfl, rfl, trivial⟩
  have xs : x ≠ hp.objs.size := Nat.ne_of_lt (Heap.lt_size hx)
  have SF := F.store_object
  have su : Looks (model prog w) hp (isInstance (.ref x) (.type "object")) true := I.type.andThen (looks_mroIn X (by unfold mroIn; rw [hcd, Option.bind_some, if_neg (by rw [ne]; decide), ob]))
  have lm : Looks (model prog w) hp (mroOf (.ref C)) cd.mro := (looks_clsIn X hcd).andThen .now
  have ls : Looks (model prog w) hp (storeTaker? none) none := .now
  have lc : Looks (model prog w) hp (classData C) cd := looks_clsIn X hcd
  refine codeAny_call_builtin SF.slot.plain SF.entry (@check_slot (model prog w) _ _ ⟨hp, g, d, t, os⟩ "object.__setattr__" "object" "__setattr__" (.ref x) [.str f tk, v] [] _ SF.kind SF.split su (SF.args (.ref x) (.str f tk) v) ?_)
  rw [osa_eq, refuse_eq]
  refine wpAny_bind (wpAny_bind (I.type.at (wpAny_bind (lm.at ?_)))); rw [ps]
  refine wpAny_pure (wpAny_bind (I.type.at (wpAny_bind ((looks_findIn X ha).at (wpAny_bind (ls.at ?_)))))); show wpAny _ _ (storeInOwnDict (.ref x) (.ref C) (.str f tk) f v false) _ _ _
  obtain ⟨nm, bs, mro, ns, qn, hd, sn, sb, ab, col, del⟩ := cd
  have hdct : hd = true := hdct
  subst hdct
  unfold storeInOwnDict ownDictForStores
  repeat (first | with_reducible refine HandSPX.store_in_new ?_ ?_ | with_reducible refine wpAny_loadPart_at hx ?_ | with_reducible refine lc.at ?_ | wp_step)
  · exact ⟨_, #[], _, (Heap.get?_update_ne _ _ _ _ xs.symm).trans (Heap.get?_push_at rfl rfl), rfl, fun e he => absurd he (by simp), fun _ => rfl⟩
  · intro h' tk' hn' hs
    have hx1 : (hp.push { cls := .type "dict", data := .dict #[] }).get? x = some { cls := .ref C, data := .fields fv } := Heap.get?_push_of_some _ hx
    exact go h' tk' hp.objs.size (fun b o hb ho => (hs.2 b (Nat.ne_of_lt (Heap.lt_size ho))).trans ((Heap.get?_update_ne _ _ _ _ hb).trans (Heap.get?_push_of_some _ ho))) (Nat.le_refl _) xs.symm ((hs.2 x xs).trans (Heap.get?_update_self _ hx1 rfl)) hn'
end
end XC
/-- what the written part says of an error class -/
structure OexG (K : PySem.W.Frag) (C : Addr) : Prop where
  ex : ∃ (bmB : List Value) (newId : String), XC.Bas bmB newId ∧ PySem.W.excInitIn K C bmB newId = true ∧ PySem.W.excOver K C bmB = true
  hd : PySem.W.hasDictIn K C = true
  sa : PySem.W.findIn K (.ref C) "__setattr__" = some (some (.builtin "object.__setattr__"))
  exC : PySem.W.subIn K (.ref C) (.type "BaseException") = some true
  tyC : PySem.W.typeIn K (.ref C) = some (.type "type")
  kC : PySem.W.keepIn K (.ref C) = true
section
variable {X : Cx} {pins : List (Addr × Obj)} {σ : L2.St} {H : Hp} {s : Shared} {a C : Addr} {f : Str} {y : V} {u : Value} {Q : Unit → Shared → Prop} {E : Value → Shared → Prop} {A : Around}
/-- self.f = y, the first one -/
theorem ostG (T : OexG X.K C) (I : Inv X pins σ H s) (e : H a = some (exo a C none)) (hno : PySem.W.findIn X.K (.ref C) f = some none) (ry : RelV y u)
    (go : ∀ dx s', H dx = none → dx ≠ a → Inv X pins σ (upd (upd H dx (exd dx [(f, y)])) a (exo a C (some dx))) s' → Q () s') : wpAny (model X.prog X.w) A (setAttr (.ref a) f u) Q E s := by
  obtain ⟨bmB, newId, B, _, ov⟩ := T.ex
  obtain ⟨t1, ho⟩ := exo_at I.hok e
  obtain ⟨hp, g, d, t, os⟩ := s
  refine PySem.W.set_plain I.kIn (ox := { cls := .ref C, dict := none, data := .fields #[.ref t1, .none, .none, .none, .bool false, .none] }) (od := none) ⟨ho, rfl, rfl, trivial⟩ T.sa (XC.osa_x B I.kIn ho ov T.hd hno fun h' tk' dx k dn dne hx hn => ?_)
  have hnd : H dx = none := I.hok.fresh dn
  have ndx : ∀ {b : Addr} {o : Obj}, hp.get? b = some o → b ≠ dx := fun {b o} q => Nat.ne_of_lt (Nat.lt_of_lt_of_le (Heap.lt_size q) dn)
  have nea : ∀ {b : Addr}, H b = none → b ≠ a := fun {b} n z => by rw [z, e] at n; cases n
  have U : Un X.fs [] H (upd (upd H dx (exd dx [(f, y)])) a (exo a C (some dx))) hp h' := {
    keep := fun b o q n _ _ => k b o (nea n) q
    slot := fun b o q n _ _ => ⟨o.slots, k b o (nea n) q⟩
    free := fun b o q n _ => (upd_ne (nea n)).trans ((upd_ne (ndx q)).trans n)
    there := fun b o q _ => by
      by_cases hb : b = a
      · exact ⟨_, hb ▸ hx⟩
      · exact ⟨o, k b o hb q⟩
    tups := fun b xs q => (upd_ne (at_ne e q exo_tup)).trans ((upd_ne (ne_of_none q hnd)).trans q)
    frzs := fun b o v q => (upd_ne (at_ne e q exo_frz)).trans ((upd_ne (ne_of_none q hnd)).trans q)
    tbls := fun b ps q => ⟨#[], by rw [upd_ne (at_ne e q exo_tbl), upd_ne (ne_of_none q hnd), q]; simp⟩ }
  refine go dx _ hnd dne (I.un (t' := tk') U fun b o q => ?_)
  by_cases hb : b = a
  · subst hb
    rw [upd_same] at q
    cases q
    exact exo_ok hx
  · rw [upd_ne hb] at q
    by_cases hbd : b = dx
    · subst hbd
      rw [upd_same] at q
      cases q
      refine exd_ok hn fun g => ?_
      rw [lookup_put]
      by_cases hg : g = f
      · rw [if_pos hg, if_pos hg]; exact ry
      · rw [if_neg hg, if_neg hg]; exact trivial
    · rw [upd_ne hbd] at q
      refine (I.hok b o q).stay (fun c v hc z => k c v ?_ z) (fun c hc => (upd_ne (at_ne e hc exo_own)).trans ((upd_ne (ne_of_none hc hnd)).trans hc)) (fun c xs hc => (upd_ne (at_ne e hc exo_tup)).trans ((upd_ne (ne_of_none hc hnd)).trans hc))
      rcases hc with hc | hc
      · rw [hc]; exact hb
      · exact at_ne e hc exo_own
end
/-- self.f = e in an error's __init__ -/
def tOstG (K : PySem.W.Frag) (f : Str) (to te : TE) : TS := fun D σ H => te σ H fun y H1 => to σ H1 fun x H2 => ∃ a C : Addr, x = .ref a ∧ OexG K C ∧ PySem.W.findIn K (.ref C) f = some none ∧ H2 a = some (exo a C none) ∧
  ∀ dx, H2 dx = none → dx ≠ a → D.nx σ (upd (upd H2 dx (exd dx [(f, y)])) a (exo a C (some dx)))
theorem ps_ostG {X : Cx} {o e : Expr} {to te : TE} {f : Str} {p' pos : Pos} (ho : PE X o to) (he : PE X e te) (hs : swapsWith e (some (.Attribute o f p')) pos.line X.env = pure false := by rfl) : PS X (.Assign [.Attribute o f p'] e pos) (tOstG X.K f to te) := by
  refine ⟨fun pins s σ H D I h => plainObj_wpAny_Assign_Attribute (thn (he.run pins s σ H _ I h) fun v s1 ⟨y, H1, I1, r1, q1⟩ => thn (ho.run pins s1 σ H1 _ I1 q1) fun u s2 ⟨x, H2, I2, r2, a, C, ex, T, hno, ea, q⟩ => ?_) hs⟩
  subst ex
  obtain rfl : u = Value.ref a := r2
  exact ostG T I2 ea hno r1 fun dx s' n ne J => ⟨σ, _, J, q dx n ne⟩
/-- what the __init__ of an error class with one field does -/
def spX (C : Addr) (f : Str) : Sp := fun vs H Q _ => ∃ (a : Addr) (v : V), vs = [.ref a, v] ∧ H a = some (exo a C none) ∧ ∀ dx, H dx = none → dx ≠ a → Q .non (upd (upd H dx (exd dx [(f, v)])) a (exo a C (some dx)))
/-- an error class under its name -/
structure HasX (P : Program) (w : World) (K : PySem.W.Frag) (mg : Str → Option Value) (base : Heap) (k : Nat) (x : Str) (C : Addr) (f : Str) : Prop where
  ex : ∃ (fI : Addr) (fd : FuncData) (ps : List Str), OexG K C ∧ PySem.W.findIn K (.ref C) "__init__" = some (some (.ref fI)) ∧ PySem.W.typeIn K (.ref fI) = some (.type "function") ∧ FnOk P w K mg base CX0 k fI fd ps (spX C f) ∧ mg x = some (.ref C) ∧ Binds K fd ps []
/-- C(e), to be raised -/
def tMkX (C : Addr) (f : Str) (ta : TA) : L2.St → Hp → XK → Prop := fun σ H Q => ta σ H fun vs H1 => ∃ v, vs = [v] ∧ ∀ d, H1 d = none → Q (.ref C) (some d) (upd H1 d (.xd [(f, v)]))
theorem pmk_x {X : Cx} {x : Str} {C : Addr} {f : Str} {k : Nat} {e : Expr} {ta : TA} {p pos : Pos} (T : HasX X.prog X.w X.K X.mg X.base k x C f) (hr : Room (k + 1) X.A) (hg : Gl X x) (ha : PA X [e] ta)
    (hdb : (x == ("__debug__" : Str)) = false := by decide) (he : starEach [e] X.env = (false, eval e X.env) :: starEach [] X.env := by rfl) : L2N.PMk X (.Call (.Name x p) [e] [] pos) (tMkX C f ta) := by
  intro pins s σ H Q I h
  obtain ⟨fI, fd, ps, T, iC, tI, F1, hm, hb⟩ := T.ex
  obtain ⟨bmB, newId, B, hini, ov⟩ := T.ex
  refine wpAny_Call_Name_kw (ld_glob I hg hm ?_ hdb)
  refine PySem.W.callWith_K (h₀ := X.base) I.ok.mod.kin T.kC (thn (ha.run pos pins s σ H _ I h) fun us s1 ⟨vs, H1, I1, r1, v, ev, q1⟩ => ⟨I1.kIn, ?_⟩) he rfl
  subst ev
  cases r1 with
  | @cons _ u _ ur ru rn =>
    cases rn
    show wpAny _ _ (call (.ref C) [u]) _ _ _
    obtain ⟨hp, g, dr, tk, os⟩ := s1
    obtain ⟨nm, N, qn, bs, bm, hdct, sn, sub, ab, col, dd, k0, k1, k2, k3, k5, hC, hT⟩ := PySem.W.excInit_of I1.kIn hini
    obtain ⟨B0, i0, bm0, FB, cB⟩ := B.ex
    have hn : H1 (hp.objs.size + 1) = none := I1.hok.fresh (Nat.le_succ _)
    have kk : ∀ b o, hp.get? b = some o → ((hp.push (PySem.W.kdv_tup [u])).push (XC.xObj C hp.objs.size)).get? b = some o := fun b o z => Heap.get?_push_of_some _ (Heap.get?_push_of_some _ z)
    have hget : ((hp.push (PySem.W.kdv_tup [u])).push (XC.xObj C hp.objs.size)).get? (hp.objs.size + 1) = some (XC.xObj C hp.objs.size) := by heap_get
    have I2 : Inv X pins σ (upd H1 (hp.objs.size + 1) (exo (hp.objs.size + 1) C none)) ⟨(hp.push (PySem.W.kdv_tup [u])).push (XC.xObj C hp.objs.size), g, dr, tk, os⟩ :=
      I1.laid (t' := tk) (a := hp.objs.size + 1) (o := exo (hp.objs.size + 1) C none) kk (Nat.le_succ _) (exo_ok hget)
    have r2 : Vals [V.ref (hp.objs.size + 1), v] [Value.ref (hp.objs.size + 1), u] := .cons rfl (.cons ru .nil)
    have hq : spX C f [.ref (hp.objs.size + 1), v] (upd H1 (hp.objs.size + 1) (exo (hp.objs.size + 1) C none)) (fun r H2 => r = .non ∧ ∃ d, H1 d = none ∧ d ≠ hp.objs.size + 1 ∧ H2 = upd (upd (upd H1 (hp.objs.size + 1) (exo (hp.objs.size + 1) C none)) d (exd d [(f, v)])) (hp.objs.size + 1) (exo (hp.objs.size + 1) C (some d))) (fun _ _ _ => False) :=
      ⟨_, _, rfl, upd_same, fun dx z ne => ⟨rfl, dx, by rw [upd_ne ne] at z; exact z, ne, rfl⟩⟩
    have hl : ([Value.ref (hp.objs.size + 1), u] ++ []).length = ps.length := by
      rw [List.append_nil, ← F1.len _ _ _ _ hq, ← r2.length]
    have b2 := hb _ [Value.ref (hp.objs.size + 1), u] I2.kIn hl
    rw [List.append_nil] at b2
    refine wpAny_call (XC.call_x FB (by rw [hT]; exact cB) (by rw [hT]; exact B.noA) (by rw [hT]; exact B.noN) hC (PySem.W.looks_findIn I1.kIn iC) (fun self => PySem.W.bind_fn I1.kIn self tI) (by show 1 ≤ sizeLine; rw [sizeLine_eq]; omega)
      (codeAny_mono (F1.run _ X.stack _ _ ⟨[Value.ref (hp.objs.size + 1), u], []⟩ [Value.ref (hp.objs.size + 1), u] _ _ (fun _ _ _ => False) (hr.make C [u] []) (I2.env0.make C [u] []) b2 r2 hq) fun r s' hq' => ?_))
    cases r with
    | error er => exact hq'.elim
    | ok fl =>
      cases fl with
      | ret y =>
        obtain ⟨v2, H2, os2, bare2, un2, hok2, rv, ev, d, hd1, dne, eH⟩ := hq'
        subst ev
        obtain ⟨h2, g2, d2, t2, os'⟩ := s'
        obtain ⟨t0, G, J, kG, ge, hoe, na⟩ := mk_end0 (d2 := d2) (t2 := t2) (fs := [(f, v)]) I1 (Nat.le_succ _) kk un2 hok2 os2 bare2 (by rw [eH, upd_same]) (by rw [eH, upd_ne dne, upd_same]) hd1
        have eq : upd (del H2 (hp.objs.size + 1)) d (.xd [(f, v)]) = upd H1 d (.xd [(f, v)]) := by
          funext b
          by_cases hbd : b = d
          · rw [hbd, upd_same, upd_same]
          · rw [upd_ne hbd, upd_ne hbd]
            by_cases hba : b = hp.objs.size + 1
            · rw [hba, del_same, hn]
            · rw [del_ne hba, eH, upd_ne hba, upd_ne hbd, upd_ne hba]
        rw [eq] at J na
        exact ⟨rv, ⟨hp.objs.size + 1, _, _, ⟨G, g2, d2, t2, os'⟩, _, .ref C, some d, rfl, J, kG, ge, hoe, ⟨rfl, rfl, fun vs hv => by cases hv; rfl⟩, rfl, rfl, na, rfl, bare2, raises_own T.exC T.tyC, q1 d hd1⟩⟩
      | next => exact hq'.elim
      | brk => exact hq'.elim
      | cont => exact hq'.elim

/-! ### try with several clauses, each with a class or a tuple of classes, with or without a name -/
namespace TX
open PySem.W PySem.Calls PyProof.Rows
section
variable {M : Model} {h : Heap} {K : Frag}
theorem look_each {α : Type} {f : α → PUnit → Sem (ForInStep PUnit)} : ∀ {cs : List α}, (∀ c ∈ cs, Looks M h (f c ⟨⟩) (.yield ⟨⟩)) → Looks M h (forIn cs PUnit.unit f) ⟨⟩
  | [], _ => fun A Q E s k q => wpAny_pure q
  | c :: r, hf => by
    rw [List.forIn_cons]
    exact (hf c List.mem_cons_self).andThen (look_each fun d hd => hf d (List.mem_cons_of_mem _ hd))
theorem look_first {α β : Type} {f : α → β → Sem (ForInStep β)} {b0 bd : β} {p : α → Bool} : ∀ {cs : List α}, (∀ c ∈ cs, Looks M h (f c b0) (if p c = true then .done bd else .yield b0)) → Looks M h (forIn cs b0 f) (if cs.any p = true then bd else b0)
  | [], _ => fun A Q E s k q => wpAny_pure q
  | c :: r, hf => by
    rw [List.forIn_cons, List.any_cons]
    have h1 := hf c List.mem_cons_self
    cases hp : p c with
    | true =>
      rw [hp, if_pos rfl] at h1
      rw [Bool.true_or, if_pos rfl]
      exact h1.andThen fun A Q E s k q => wpAny_pure q
    | false =>
      rw [hp, if_neg Bool.false_ne_true] at h1
      rw [Bool.false_or]
      exact h1.andThen (look_first fun d hd => hf d (List.mem_cons_of_mem _ hd))
theorem exmAny_all {cls : Value} : ∀ {cs : List Value} {b : Bool}, exmAny K cls cs = some b → (∀ c ∈ cs, exmOne K cls c = some ((exmOne K cls c).getD false)) ∧ b = cs.any fun c => (exmOne K cls c).getD false
  | [], b, e => ⟨fun c hc => (by cases hc), (Option.some.inj (show some false = some b from e)).symm⟩
  | c :: r, b, e => by
    obtain ⟨b1, d1, x1, y1, z1⟩ := exmAny_cons e
    obtain ⟨i1, i2⟩ := exmAny_all y1
    refine ⟨fun d hd => ?_, ?_⟩
    · rcases List.mem_cons.mp hd with rfl | hd
      · rw [x1]; rfl
      · exact i1 d hd
    · rw [List.any_cons, x1, ← i2]; exact z1
/-- the clause's tuple of classes -/
theorem exm_tupN {cls : Value} {tp e : Addr} {cs : List Value} {b : Bool} (X : K.In h) (LT : Looks M h (typeOf (.ref e)) cls) (hp : h.get? tp = some { cls := .type "tuple", data := .seq cs.toArray }) (hx : exmAny K cls cs = some b) : Looks M h (excMatches (.ref e) (.ref tp)) b := by
  obtain ⟨h1, h2⟩ := exmAny_all hx
  have tt : Looks M h (isInstance (.ref tp) (.type "tuple")) true := ((Looks.ld hp).andThen .now).andThen (Looks.of_pure isSubtype_tuple_tuple)
  intro A Q E s k q
  unfold excMatches
  refine wpAny_bind ((tt.keeps k).here ?_)
  rw [if_pos rfl]
  first
    | refine wpAny_bind (wpAny_seqItems (k _ _ hp) rfl ?_)
    | refine wpAny_bind (wpAny_bind (wpAny_seqItems (k _ _ hp) rfl (wpAny_pure ?_)))
  dsimp only [Option.getD_some, Option.getD]
  refine wpAny_bind (wpAny_pure ?_)
  refine wpAny_bind ((look_each (h := h) (cs := cs) fun c hc => ?_) _ _ _ _ k ?_)
  · intro A' Q' E' s' k' q'
    refine wpAny_bind ((((exm_cls (M := M) X (h1 c hc)).1).keeps k').here ?_)
    simp only [Bool.not_true, Bool.false_eq_true, if_false]
    exact wpAny_pure q'
  · refine wpAny_bind ((LT.keeps k).here ?_)
    refine wpAny_bind ((look_first (h := h) (p := fun c => (exmOne K cls c).getD false) (bd := (some true, ())) (cs := cs) fun c hc => ?_) _ _ _ _ k ?_)
    · intro A' Q' E' s' k' q'
      refine wpAny_bind ((((exm_cls (M := M) X (h1 c hc)).2).keeps k').here ?_)
      cases hv : (exmOne K cls c).getD false with
      | true => rw [hv, if_pos rfl] at q'; rw [if_pos rfl]; exact wpAny_pure q'
      | false => rw [hv, if_neg Bool.false_ne_true] at q'; rw [if_neg Bool.false_ne_true]; exact wpAny_pure q'
    · rw [← h2]
      cases b with
      | true => rw [if_pos rfl]; exact wpAny_pure q
      | false => rw [if_neg Bool.false_ne_true]; exact wpAny_pure q
end
end TX
/-- own classes under these names -/
inductive NamesAll (X : Cx) : List Expr → List Value → Prop
  | nil : NamesAll X [] []
  | cons {x : Str} {p : Pos} {c : Value} {es : List Expr} {cs : List Value} (h : Names X x c) (r : NamesAll X es cs) : NamesAll X (.Name x p :: es) (c :: cs)
/-- what an except clause tests -/
inductive Tst (X : Cx) : Expr → List Value → Prop
  | one {x : Str} {p : Pos} {c : Value} (h : Names X x c) : Tst X (.Name x p) [c]
  | tup {es : List Expr} {cs : List Value} {k : Nat} {p : Pos} (h : NamesAll X es cs) (hl : cs.length ≤ 100) : Tst X (.Tuple es k p) cs
section
variable {X : Cx} {a : Addr} {pn : List (Addr × Obj)} {σ : L2.St} {H : Hp} {s : Shared}
theorem name_test {x : Str} {c : Value} {p : Pos} (h : Names X x c) (I : Inv (X.suite a pn) [] σ H s) {Q : Value → Shared → Prop} {E : Value → Shared → Prop} (q : Q c s) : wpAny (model X.prog X.w) (X.A.mark (some (.ref a))) (eval (.Name x p) X.env) Q E s := by
  obtain ⟨hg, hd, hm | ⟨hm, hv, hn⟩⟩ := h
  · exact ld_glob (X := X.suite a pn) I hg hm q hd
  · exact ld_blt (X := X.suite a pn) I hg hm hv q hn hd
theorem names_test {es : List Expr} {cs : List Value} {pos : Pos} (h : NamesAll X es cs) (I : Inv (X.suite a pn) [] σ H s) : ∀ {Q : List Value → Shared → Prop} {E : Value → Shared → Prop}, Q cs s → wpAny (model X.prog X.w) (X.A.mark (some (.ref a))) (spliced (backTo pos (starEach es X.env))) Q E s := by
  induction h with
  | nil => exact fun q => wpAny_pure q
  | cons h r ih => exact fun q => wpAny_items_cons (name_test h I (ih q))
theorem Tst.run {t : Expr} {cs : List Value} {cls : Value} {b : Bool} (T : Tst X t cs) (I : Inv (X.suite a pn) [] σ H s) (LT : PySem.W.Looks (model X.prog X.w) s.heap (typeOf (.ref a)) cls) (hx : PySem.W.exmAny X.K cls cs = some b) {Q : Bool → Shared → Prop} {E : Value → Shared → Prop}
    (q : ∀ h', (∀ b o, s.heap.get? b = some o → h'.get? b = some o) → Q b { s with heap := h' }) :
    wpAny (model X.prog X.w) (X.A.mark (some (.ref a))) (eval t X.env) (fun c s1 => wpAny (model X.prog X.w) (X.A.mark (some (.ref a))) (excMatches (.ref a) c) Q E s1) E s := by
  cases T with
  | one h =>
    obtain ⟨b1, d1, x1, y1, z1⟩ := PySem.W.exmAny_cons hx
    have e : d1 = false := (Option.some.inj (show some false = some d1 from y1)).symm
    subst e
    rw [Bool.or_false] at z1
    subst z1
    exact name_test h I ((PySem.W.exm_one (M := model X.prog X.w) I.kIn LT x1).here (q _ fun _ _ z => z))
  | tup h hl =>
    refine wpAny_Tuple_spliced (names_test h I ⟨by rw [sizeLine_eq]; omega, ?_⟩)
    have k : ∀ b o, s.heap.get? b = some o → (s.heap.push { cls := .type "tuple", data := .seq cs.toArray }).get? b = some o := fun b o z => Heap.get?_push_of_some _ z
    exact (TX.exm_tupN (I.kIn.keeps k) (LT.keeps k) (Heap.get?_push_size _ rfl) hx).here (q _ k)
end
/-- the suite of a clause, for any error that it takes -/
abbrev SuOk (X : Cx) (suite : List Stmt) (ts : Addr → Value → Option Addr → TS) : Prop :=
  ∀ (a : Addr) (oe : Obj) (cls : Value) (d : Option Addr) (pn : List (Addr × Obj)), L2N.Zn cls d oe → (∃ vs, oe.data = .fields vs) → PSs (X.suite a ((a, oe) :: pn)) suite (ts a cls d)
inductive HdX (X : Cx) : List ExceptHandler → List (List Value × Option Nat × (Addr → Value → Option Addr → TS)) → Prop
  | nil : HdX X [] []
  | only {t : Expr} {cs : List Value} {ts : Addr → Value → Option Addr → TS} {b₀ : Stmt} {suite : List Stmt} {pos' : Pos} {hds : List ExceptHandler} {l : List (List Value × Option Nat × (Addr → Value → Option Addr → TS))} (ht : Tst X t cs) (hsu : SuOk X (b₀ :: suite) ts) (r : HdX X hds l) :
      HdX X (.ExceptHandler (some t) none (b₀ :: suite) pos' :: hds) ((cs, none, ts) :: l)
  | named {t : Expr} {n : Str} {i : Nat} {cs : List Value} {ts : Addr → Value → Option Addr → TS} {b₀ : Stmt} {suite : List Stmt} {pos' : Pos} {hds : List ExceptHandler} {l : List (List Value × Option Nat × (Addr → Value → Option Addr → TS))} (ht : Tst X t cs)
      (hi : X.N[i]? = some n) (hln : X.env.kindOf n = some .local) (hsu : SuOk X (b₀ :: suite) ts) (r : HdX X hds l) : HdX X (.ExceptHandler (some t) (some n) (b₀ :: suite) pos' :: hds) ((cs, some i, ts) :: l)
/-- a slot that is emptied behind the suite -/
def Ends.less (D : Ends) (i : Nat) : Ends := { nx := fun σ H => D.nx (σ.set i none) H, rt := D.rt, bk := fun σ H => D.bk (σ.set i none) H, ct := fun σ H => D.ct (σ.set i none) H }
/-- what the clauses wish of an error of the body -/
def wX (K : PySem.W.Frag) (Wout : WX) (D : Ends) : List (List Value × Option Nat × (Addr → Value → Option Addr → TS)) → WX
  | [] => Wout
  | (cs, none, ts) :: r => fun cls d σ H => ∃ b, PySem.W.exmAny K cls cs = some b ∧ (b = true → ∀ a, H a = none → ts a cls d D σ H) ∧ (b = false → wX K Wout D r cls d σ H)
  | (cs, some i, ts) :: r => fun cls d σ H => ∃ b, PySem.W.exmAny K cls cs = some b ∧ (b = true → ∀ a, H a = none → ts a cls d (Ends.less D i) (σ.set i (some (.ref a))) H) ∧ (b = false → wX K Wout D r cls d σ H)
theorem flying_keeps {B h h' : Heap} {l : List Env} {a : Addr} {Z : Obj → Prop} (k : ∀ b o, h.get? b = some o → h'.get? b = some o) (x : HandSPX.FlyingZ B l a Z h) : HandSPX.FlyingZ B l a Z h' := by
  obtain ⟨k1, k2, k3, oe, vs, T, oT, ts, he, hz, hd, h1, hT0, hne, hT, hdT, h3⟩ := x
  exact ⟨fun b o z => k b o (k1 b o z), k2, k3.of_keeps fun b o z _ => ⟨o, k b o z, rfl⟩, oe, vs, T, oT, ts, k _ _ he, hz, hd, h1, hT0, hne, k _ _ hT, hdT, h3⟩
theorem up_keeps {h h' : Heap} (k : ∀ b o, h.get? b = some o → h'.get? b = some o) : h.UpToSlots h' := fun b o z _ => ⟨o.slots, k b o z⟩
section
variable {X : Cx} {body : List Stmt} {h₀ : ExceptHandler} {hds : List ExceptHandler} {l : List (List Value × Option Nat × (Addr → Value → Option Addr → TS))} {pos : Pos} {tb : WX → TS} {Wout : WX}
/-- the clauses, one after the other, at an error that has landed -/
theorem clauses (hs : X.stack = X.env :: X.outer) (hf : X.env.frame = some X.env.locals) (hN : X.N.Nodup) (tk : L2N.Takes X Wout) {pins : List (Addr × Obj)} {σ : L2.St} {H : Hp} {sI : Shared} {a : Addr} {B : Heap} {cls : Value} {d : Option Addr} {D : Ends}
    (J : Inv X pins σ H sI) (nb : ∀ b o, sI.heap.get? b = some o → b ∉ frs X.stack → B.get? b = some o) (na : H a = none) (hh : HdX X hds l) : wX X.K Wout D l cls d σ H →
    ∀ s : Shared, HandSPX.FlyingZ B (X.env :: X.outer) a (L2N.Zn cls d) s.heap → sI.heap.UpToSlots s.heap → s.os = sI.os → PyProof.Rows.AllBare s.gens → wpAny (model X.prog X.w) X.A (handleBy (.ref a) X.env hds) (SP X pins D) X.xe s := by
  have ok := J.ok
  have land : ∀ {h : Heap} {s : Shared}, HandSPX.FlyingZ B (X.env :: X.outer) a (L2N.Zn cls d) h → sI.heap.UpToSlots h → s.os = sI.os → PyProof.Rows.AllBare s.gens → Inv X pins σ H { s with heap := h } := fun {h s} fl up os ag => J.landed (s' := { s with heap := h }) nb fl.1 up os ag
  have suit : ∀ {h : Heap} {s : Shared}, HandSPX.FlyingZ B (X.env :: X.outer) a (L2N.Zn cls d) h → sI.heap.UpToSlots h → s.os = sI.os → PyProof.Rows.AllBare s.gens →
      ∃ oe, L2N.Zn cls d oe ∧ (∃ vs, oe.data = .fields vs) ∧ h.get? a = some oe ∧ Inv (X.suite a ((a, oe) :: (X.pn ++ pins))) [] σ H { s with heap := h } := fun {h s} fl up os ag => by
    obtain ⟨oe, vs, he, hz, hd⟩ := fl.there
    have nfr : a ∉ frs (X.env :: X.outer) := fun hm => by
      obtain ⟨_, o', e', hnf⟩ := fl.2.2.1.mem hm
      rw [he] at e'; cases e'
      exact hnf _ hd
    have nL : a ≠ X.env.locals := fun z => nfr (List.mem_filterMap.mpr ⟨X.env, List.mem_cons_self, by rw [hf, z]⟩)
    have nF : a ∉ X.fs := fun hm => by
      obtain ⟨e, he, q⟩ := List.mem_filterMap.mp hm
      exact nfr (List.mem_filterMap.mpr ⟨e, List.mem_cons_of_mem _ he, q⟩)
    exact ⟨oe, hz, ⟨vs, hd⟩, he, (land fl up os ag).suite he hd na nL nF⟩
  induction hh with
  | nil =>
    intro w s fl up os ag
    refine wpAny_handleBy_nil ?_
    obtain ⟨k1, k2, k3, oe, vs, T, oT, ts', he, hz, hd, h1, hr⟩ := id fl
    unfold PySem.passOn
    refine wpAny_bind (wpAny_field he hd h1 ?_); rw [if_neg (show ¬ ((Value.ref T == Value.none) = true) from by simp)]
    have last : wpAny (model X.prog X.w) X.A (setFlight (.ref a) X.env.frame) (fun _ s4 => wpAny (model X.prog X.w) X.A (throw (.ref a) : Sem Flow) (SP X pins D) X.xe s4) X.xe s := by
      rw [hf]
      exact HandSPX.setFlight_upZ fl fun h4 hh4 up4 => wpAny_throw (tk _ _ ⟨a, B, sI, pins, σ, H, cls, d, rfl, J, nb, up.trans up4, .inr (.inr (by rw [hs]; exact hh4)), na, os, ag, w⟩)
    first
      | exact wpAny_bind (wpAny_pure (wpAny_bind last))
      | exact wpAny_bind last
  | @only t cs ts b₀ suite pos' hds2 l2 ht hsu r ih =>
    rintro ⟨b, hb1, yes, no⟩ s fl up os ag
    obtain ⟨oe, hz, hd, he, S⟩ := suit (s := s) fl up os ag
    have LT : PySem.W.Looks (model X.prog X.w) s.heap (typeOf (.ref a)) cls := fun A Q E s' k q => wpAny_typeOf_ref (k _ _ he) (by rw [hz.1]; exact q)
    refine wpAny_handleBy_cons (codeAny_handlers_test (ht.run S LT hb1 fun h1 k => ?_)) (by intro q; cases q)
    have fl1 := flying_keeps k fl; have up1 := up.trans (up_keeps k)
    cases b with
    | false => exact ih (no rfl) { s with heap := h1 } fl1 up1 os ag
    | true =>
      refine codeAny_handlers_suite (HandSPX.lands_againZ (s := { s with heap := h1 }) fl1 fun h4 fl4 up4 => ?_)
      obtain ⟨oe4, hz4, hd4, he4, S4⟩ := suit (s := s) fl4 (up1.trans up4) os ag
      refine wpAny_mono ((hsu a oe4 cls d (X.pn ++ pins) hz4 hd4).run [] _ _ H _ S4 (yes rfl a na)) (fun f s6 hsp => ?_) (fun _ _ z => False.elim z)
      cases f with
      | ret u => obtain ⟨v6, σ6, H6, S6, r6, q6⟩ := hsp; exact ⟨_, _, _, S6.unsuite ok, r6, q6⟩
      | next => obtain ⟨σ6, H6, S6, q6⟩ := hsp; exact ⟨_, _, S6.unsuite ok, q6⟩
      | brk => obtain ⟨σ6, H6, S6, q6⟩ := hsp; exact ⟨_, _, S6.unsuite ok, q6⟩
      | cont => obtain ⟨σ6, H6, S6, q6⟩ := hsp; exact ⟨_, _, S6.unsuite ok, q6⟩
  | @named t n i cs ts b₀ suite pos' hds2 l2 ht hi hln hsu r ih =>
    rintro ⟨b, hb1, yes, no⟩ s fl up os ag
    obtain ⟨oe, hz, hd, he, S⟩ := suit (s := s) fl up os ag
    have LT : PySem.W.Looks (model X.prog X.w) s.heap (typeOf (.ref a)) cls := fun A Q E s' k q => wpAny_typeOf_ref (k _ _ he) (by rw [hz.1]; exact q)
    refine wpAny_handleBy_cons (codeAny_handlers_test (ht.run S LT hb1 fun h1 k => ?_)) (by intro q; cases q)
    have fl1 := flying_keeps k fl; have up1 := up.trans (up_keeps k)
    cases b with
    | false => exact ih (no rfl) { s with heap := h1 } fl1 up1 os ag
    | true =>
      refine codeAny_handlers_suite_as (HandSPX.lands_againZ (s := { s with heap := h1 }) fl1 fun h4 fl4 up4 => ?_)
      obtain ⟨oe4, hz4, hd4, he4, S4⟩ := suit (s := s) fl4 (up1.trans up4) os ag
      refine store_ok (X := X.suite a ((a, oe4) :: (X.pn ++ pins))) (v := .ref a) S4 hN hi (.inl hln) rfl (fun s5 S5 => ?_) (.inr hln)
      refine wpAny_mono ((hsu a oe4 cls d (X.pn ++ pins) hz4 hd4).run [] s5 _ H _ S5 (yes rfl a na)) (fun f s6 hsp => ?_) (fun _ _ z => False.elim z)
      have back : ∀ {σ6 : L2.St} {H6 : Hp} {Q : Shared → Prop}, Inv (X.suite a ((a, oe4) :: (X.pn ++ pins))) [] σ6 H6 s6 → (∀ s7, Inv X pins (σ6.set i none) H6 s7 → Q s7) → wpAny (model X.prog X.w) X.A (do bindName X.env n .none; unbindBehindTheSuite X.env n pos') (fun _ s7 => Q s7) X.xe s6 :=
        fun {σ6 H6 Q} S6 hq => gone_ok (S6.unsuite ok) hN hi hln hq
      cases f with
      | ret u => obtain ⟨v6, σ6, H6, S6, r6, q6⟩ := hsp; exact back S6 fun s7 J7 => ⟨_, _, _, J7, r6, q6⟩
      | next => obtain ⟨σ6, H6, S6, q6⟩ := hsp; exact back S6 fun s7 J7 => ⟨_, _, J7, q6⟩
      | brk => obtain ⟨σ6, H6, S6, q6⟩ := hsp; exact back S6 fun s7 J7 => ⟨_, _, J7, q6⟩
      | cont => obtain ⟨σ6, H6, S6, q6⟩ := hsp; exact back S6 fun s7 J7 => ⟨_, _, J7, q6⟩
theorem ps_tryX (hs : X.stack = X.env :: X.outer) (hf : X.env.frame = some X.env.locals) (hN : X.N.Nodup) (tk : L2N.Takes X Wout)
    (hb : ∀ (W : WX) (pn : List (Addr × Obj)) (xe : Value → Shared → Prop), L2N.Takes (X.tr pn xe) W → PassesOwn (model X.prog X.w) X.A X.env xe → PSs (X.tr pn xe) body (tb W))
    (hh : HdX X (h₀ :: hds) l) : PS X (.Try body (h₀ :: hds) [] [] pos) (fun D σ H => tb (wX X.K Wout D l) D σ H) := by
  refine ⟨fun pins s σ H D I h => wpAny_Try_except ?_⟩
  have ok := I.ok
  have hfr : X.A.frames = some (X.env :: X.outer) := by rw [ok.frames, hs]
  refine wpAny_mono ((hb (wX X.K Wout D l) (X.pn ++ pins) (fun e s1 => wpAny (model X.prog X.w) X.A (noteFrame e X.env) (fun _ s2 => wpAny (model X.prog X.w) X.A (setFlight e none) (fun _ s3 =>
    wpAny (model X.prog X.w) X.A (handleBy e X.env (h₀ :: hds)) (SP X pins D) X.xe s3) X.xe s2) X.xe s1) (fun u s' xx => ?_) PassesOwn.looking).run [] s σ H D (I.toTry _) h) (fun f s1 hsp => ?_) (fun e s1 he => he)
  · obtain ⟨a, B, sI, pins', σ', H', cls, d, rfl, J', nb, up, sky, na, os, ag, w⟩ := xx
    exact L2N.Sky.land L2N.Zn.steady hfr hf (by rw [← hs]; exact sky) fun h3 fl3 up3 => clauses hs hf hN tk (J'.ofTry ok) nb na hh w { s' with heap := h3 } fl3 (up.trans up3) os ag
  · cases f with
    | ret u => obtain ⟨v, σ', H', J', r, q⟩ := hsp; exact ⟨v, σ', H', J'.ofTry ok, r, q⟩
    | next => obtain ⟨σ', H', J', q⟩ := hsp; exact wpAny_execs_nil ⟨σ', H', J'.ofTry ok, q⟩
    | brk => obtain ⟨σ', H', J', q⟩ := hsp; exact ⟨σ', H', J'.ofTry ok, q⟩
    | cont => obtain ⟨σ', H', J', q⟩ := hsp; exact ⟨σ', H', J'.ofTry ok, q⟩
end

/-! ### isinstance of an error that is pinned, its dict tracked -/
namespace TX
open PySem.W PySem.Calls PyProof.Rows
section
variable {prog : Program} {w : World} {A : Around} {E : Value → Shared → Prop} {s : Shared} {K : Frag} {x D : Addr} {ox od : Obj}
theorem class_x {Q : Option Value → Shared → Prop} (C : ExcC K D) (X : K.In s.heap) (I : InstAt s.heap x ox D (some od)) (go : Q (some (.ref D)) { s with toks := s.toks + 1 }) : wpAny (model prog w) A (getAttr? (.ref x) "__class__") Q E s := by
  have hf : findObj K D (some od) "__class__" = some (.bind (.builtin "getset_descriptor.__get__") (.builtin "object.__class__")) := by
    obtain ⟨cd, hc, _⟩ := any_some C.hd
    unfold findObj
    rw [hc, Option.bind_some, C.ha, Option.bind_some]
    simp [C.hn, C.ht]
  obtain ⟨hp, g, d, t, os⟩ := s
  have L0 := I.type (M := model prog w); have L1 := looks_findIn (M := model prog w) X C.hg; have L2 := looks_findIn (M := model prog w) X C.hk; have L3 := looks_find (M := model prog w) X I hf
  have sub : Looks (model prog w) hp (isInstance (.ref x) (.type "BaseException")) true := L0.andThen (looks_subIn X C.hs)
  have n0 : (false && onTheHeap (Value.builtin "BaseException.__getattribute__")) = false := rfl
  have n2 : (Value.builtin "BaseException.__getattribute__" == Value.builtin "object.__getattribute__") = false := by decide +kernel
  have n1 : (onTheHeap (Value.ref D) && Value.builtin "BaseException.__getattribute__" == Value.builtin "object.__getattribute__") = false := by rw [n2]; rfl
  unfold getAttr? getAttrBy? getAttrBy
  refine wpAny_bind (wpAny_mkText (wpAny_bind (wpAny_attempt (wpAny_holding (wpAny_bind (L0.at (wpAny_bind (L1.at ?_)))))))); show wpAny _ _ (if (onTheHeap (Value.ref D) && Value.builtin "BaseException.__getattribute__" == Value.builtin "object.__getattribute__") = true then _ else _) _ _ _
  rw [n1, if_neg Bool.false_ne_true]; unfold getAttrByItsOwn hookBefore
  refine wpAny_bind ?_; rw [if_pos (show onTheHeap (Value.ref D) = true from rfl)]
  refine L2.at (wpAny_bind (wpAny_attempt (wpAny_holding ?_))); unfold callGetattribute
  rw [n0, if_neg Bool.false_ne_true]; unfold boundAndCalled; rw [PySem.F.excAttr_ValueError.ga.bind (.ref x)]
  refine wpAny_bind (wpAny_pure ?_); show wpAny _ _ (call (.builtin "BaseException.__getattribute__") [.ref x, .str "__class__" t]) _ _ _
  refine wpAny_call (codeAny_call_builtin PySem.F.excAttr_ValueError.ga.plain PySem.F.entry_bexc_ga (@check_slot (model prog w) _ _ ⟨hp, g, d, t + 1, os⟩ "BaseException.__getattribute__" "BaseException" "__getattribute__" (.ref x) [.str "__class__" t] [] _ (by decide +kernel) (by decide +kernel) sub (PySem.F.args_bexc_ga (.ref x) (.str "__class__" t)) ?_))
  unfold Builtin.«object.__getattribute__»
  refine wpAny_bind (wpAny_of_eq (a := ((Value.ref x : Value), [Value.str "__class__" t])) (by first | rfl | (simp only [slotArgs]; rfl)) (wpAny_bind (wpAny_pure (wpAny_bind (L0.at (wpAny_bind (L3.at ?_)))))))
  show wpAny _ _ (holding [Value.builtin "object.__class__"] (call (.builtin "getset_descriptor.__get__") [.builtin "object.__class__", .ref x, .ref D]) >>= ret) _ _ _
  refine wpAny_bind (wpAny_holding (wpAny_call (class_get (s := ⟨hp, g, d, t + 1, os⟩) X I C.hm (wpAny_pure ?_)))); show wpAny _ _ (handedOut (.ref D)) _ _ _
  rw [handedOut_of (v := .ref D) rfl]
  first
    | exact wpAny_pure (wpAny_pure go)
    | exact wpAny_pure go
    | exact wpAny_pure (wpAny_bind (wpAny_pure (wpAny_pure go)))
theorem kitx_x (C : ExcC K D) : KitX K (.ref x) (.ref D) (fun h => InstAt h x ox D (some od)) := by
  obtain ⟨cd, hc, _⟩ := any_some C.hd
  have hc2 := hc
  unfold clsIn at hc
  split at hc
  · rename_i c' d' cd' sl' ho
    refine ⟨fun _ _ _ I => I.type, fun _ _ X _ => ?_, fun h tp dd its n sl X htp => Bool.eq_false_iff.mpr fun q => ?_, fun X I k => class_x C X I k⟩
    · intro A' Q' E' s' k q
      unfold isType loadHead
      exact wpAny_bind (wpAny_loadPart (k _ _ (X _ _ ho)) (wpAny_pure q))
    · have e : D = tp := Value.ref.inj (beq_iff_eq.mp q)
      subst e
      have z := (X _ _ ho).symm.trans htp
      cases z
  · cases hc
end
end TX
/-- isinstance(e, c), e a pinned error of the class at D with its dict at dd -/
def rIsX (K : PySem.W.Frag) (D a dd : Addr) : List V → Hp → VK → Prop := fun xs H Q => ∃ (c : V) (cv : Value) (b : Bool) (fs : List (Str × V)), xs = [.ref a, c] ∧ (∀ u, RelV c u → u = cv) ∧ PySem.W.kitOne K (.ref D) cv = some b ∧ H dd = some (.xd fs) ∧ Q (.bl b) H
theorem call_isX {X : Cx} {a D dd : Addr} {oe : Obj} (C : ExcC X.K D) (hz : L2N.Zn (.ref D) (some dd) oe) (hf : ∃ vs, oe.data = .fields vs) (hp : (a, oe) ∈ X.pn) : CallR X (.builtin "isinstance") (rIsX X.K D a dd) := by
  intro pins s σ H xs us Q I r h
  obtain ⟨c, cv, b, fs, rfl, hcv, e, ed, q⟩ := h
  cases r with
  | cons rx rr =>
    cases rr with
    | cons rt rr =>
      cases rr
      cases rx
      have ec := hcv _ rt
      subst ec
      obtain ⟨hget, _⟩ := I.pin (a, oe) (List.mem_append.mpr (.inl hp))
      obtain ⟨vs, hv⟩ := hf
      have hx : ObjOk X.prog X.w H s.heap dd (.xd fs) := I.hok dd _ ed
      obtain ⟨mA, hns, _⟩ := hx
      obtain ⟨od, es, ep, ho, _⟩ := hns
      have J : PySem.W.InstAt s.heap a oe D (some od) := ⟨hget, hz.1, by unfold PySem.W.notCls; rw [hv] <;> rfl, by rw [hz.2.1]; exact ho⟩
      exact PySem.W.kia_one (TX.kitx_x C) I.kIn J e (fun z => nomatch z) fun tk => ⟨.bl b, H, I.kept (t' := tk) fun _ _ z => z, rfl, q⟩
/-! ### a def that is called within an except suite and handed the error -/
open L2H in
/-- its promise may speak of the error p that is handled -/
structure FnP (P : Program) (w : World) (K : PySem.W.Frag) (mg : Str → Option Value) (base : Heap) (k : Nat) (f : Addr) (fd : FuncData) (ps : List Str) (sp : Addr × Obj → Sp) : Prop where
  len : ∀ p vs H Q E, sp p vs H Q E → vs.length = ps.length
  run : ∀ (A : Around) (outer : List Env) (s : Shared) (H : Hp) (us : List Value) (vs : List V) (Q : VK) (E : XK) (p : Addr × Obj), RoomH k A → Hot1 A p → PinOk outer H s p → Env0 P w K mg base A outer s H → BindsTo s fd ⟨us, []⟩ (ps.zip us) → Vals vs us → sp p vs H Q E →
    codeAny (model P w) A (.call (.ref f) ⟨us, []⟩) (CR CX0 outer P w H s Q E) s
open L2H PyProof.Rows in
theorem Fun.okP {P : Program} {w : World} {K : PySem.W.Frag} {mg : Str → Option Value} {base : Heap} {x qual : Str} {st : Stmt} {f : Addr} {fd : FuncData} {N ps : List Str} {k : Nat} {sp : Addr × Obj → Sp} (F : Fun K x qual st f fd) (S : FnScope N ps (defScope st)) (len : ∀ p vs H Q E, sp p vs H Q E → vs.length = ps.length)
    (hbody : ∀ (cdv : Value) (A : Around) (outer : List Env) (s : Shared) (H : Hp) (vs : List V) (Q : VK) (E : XK) (p : Addr × Obj), Hot1 A p → RoomH k (A.deeper (envOfC qual (defScope st) s.heap.objs.size f cdv)) → sp p vs H Q E →
      ∃ t, PSs (cxH CX0 P w K mg base N qual (defScope st) f cdv A outer s H E p).nox (defBody st) t ∧ t { nx := fun _ H' => Q .non H', rt := Q } (start N vs) H) : FnP P w K mg base (k + 1) f fd ps sp := by
  obtain ⟨oc, od, kV, doc, pm, an, cdv, ct, osl, rfl, lk, hcd⟩ := F.ex
  refine ⟨len, fun A outer s H us vs Q E p hr hot hpin e0 hb r hsp => ?_⟩
  have hl := len _ _ _ _ _ hsp
  have KX : K.In s.heap := e0.mod.kin.keeps fun b o e => (e0.bs b o e).1
  have lim : s.heap.NoLimit := e0.mod.nolimit.keeps fun b o e => (e0.bs b o e).1
  refine codeAny_call_function hr.depth (KX _ _ lk) rfl S.co S.gen rfl (PySem.W.codeRec_of KX hcd) (hb _ _ _ _ (wpAny_newFunctionEnv_cells S.kind (fun ⟨n, v⟩ hy => ?_) fun env he s1 x => ?_))
  · rcases S.par n (List.of_mem_zip hy).1 with q | q
    · exact .inl q
    · exact .inr ⟨q, PySem.W.cellsFrom_some _ _ _ (.inl q)⟩
  · subst he
    obtain ⟨t, ht, hq⟩ := hbody cdv A outer s H vs Q E p hot (hr.deeper _) hsp
    have I : Inv (cxH CX0 P w K mg base N qual (defScope st) f cdv A outer s H E p) [] (start N vs) H s1 := inv_startH S hpin e0 hl r x
    refine ⟨lim.keeps x.toInCall.keep, codeAny_func (wpAny_mono (ht.nox.run [] s1 (start N vs) H _ I hq) (fun fl s' hs => ?_) fun e s' hs => hs)⟩
    cases fl with
    | ret u => obtain ⟨v, σ', H', J, rv, q⟩ := hs; exact ⟨v, H', J.os, J.bare, J.base, J.hok, rv, q⟩
    | next => obtain ⟨σ', H', J, q⟩ := hs; exact ⟨.non, H', J.os, J.bare, J.base, J.hok, rfl, q⟩
    | brk => obtain ⟨_, _, _, q⟩ := hs; exact q.elim
    | cont => obtain ⟨_, _, _, q⟩ := hs; exact q.elim
/-- f(e, ..), p the error that is handled here -/
def tCallP (sp : Sp) (t : TA) : TE := fun σ H Q => t σ H fun vs H1 => sp vs H1 Q (fun _ _ _ => False)
open L2H PyProof.Rows in
theorem pe_callP {X : Cx} {k : Nat} {f : Addr} {fd : FuncData} {ps : List Str} {sp : Addr × Obj → Sp} {x : Str} {q pos : Pos} {e : Expr} {es : List Expr} {t : TA} {p : Addr × Obj} (F : FnP X.prog X.w X.K X.mg X.base k f fd ps sp) (hr : RoomH k X.A) (hot : Hot1 X.A p) (hp : p ∈ X.pn) (hg : Gl X x) (hm : X.mg x = some (.ref f))
    (hk : PySem.W.keepIn X.K (.ref f) = true) (hb : Binds X.K fd ps []) (ha : PA X (e :: es) t) (hdb : (x == ("__debug__" : Str)) = false := by decide) (he : starEach (e :: es) X.env = (false, eval e X.env) :: starEach es X.env := by rfl) (hpl : (backTo pos (starEach es X.env)).any (·.1) = false := by rfl) :
    PE X (.Call (.Name x q) (e :: es) [] pos) (tCallP (sp p) t) := by
  refine ⟨fun pins s σ H Q I h => wpAny_Call_Name_kw (ld_glob I hg hm (PySem.W.callWith_K (h₀ := X.base) I.ok.mod.kin hk (thn (ha.run pos pins s σ H _ I h) fun us s1 ⟨vs, H1, I1, r, q⟩ => ⟨I1.kIn, ?_⟩) he hpl) hdb)⟩
  have hl : us.length = ps.length := by rw [← r.length]; exact F.len _ _ _ _ _ q
  have b := hb s1 us I1.kIn (by rw [List.append_nil]; exact hl)
  rw [List.append_nil] at b
  have P1 := I1.pin p (List.mem_append_left _ hp)
  show wpAny _ _ (call (.ref f) us) _ _ _
  refine wpAny_call (codeAny_mono (F.run X.A X.stack s1 H1 us vs Q (fun _ _ _ => False) p hr hot ⟨P1.1, P1.2.1, fun hm => (List.mem_cons.mp (I1.stkSub p.1 hm)).elim P1.2.2.1 P1.2.2.2.1, P1.2.2.2.2⟩ I1.env0 b r q) fun r s' hq => ?_)
  cases r with
  | error e => exact hq.elim
  | ok fl =>
    cases fl with
    | ret u => exact I1.after hq
    | next => exact hq.elim
    | brk => exact hq.elim
    | cont => exact hq.elim
/-- the error that a suite holds is handled there -/
theorem hot_suite {X : Cx} {a : Addr} {oe : Obj} {cls : Value} {d : Option Addr} {pn : List (Addr × Obj)} (hz : L2N.Zn cls d oe) (hf : ∃ vs, oe.data = .fields vs) : L2H.Hot1 (X.suite a ((a, oe) :: pn)).A (a, oe) := by
  obtain ⟨vs, hv⟩ := hf
  exact ⟨rfl, vs, hv, hz.2.2 vs hv⟩
/-! ### [elt for name in range(..)] within an except suite -/
/-- a comprehension's block, the handled error pinned -/
abbrev blkP (X : Cx) (p : Addr × Obj) (s : Shared) (H : Hp) (scope : Scope) (ce : Env) (fp : List Addr) : Cx := { X.blk s H scope ce fp with pn := [p] }
section
open L2H PyProof.Rows
variable {X : Cx} {p : Addr × Obj}
theorem blk_pin {pins : List (Addr × Obj)} {σ : L2.St} {H H0 : Hp} {s s0 : Shared} {scope : Scope} {ce : Env} {fp : List Addr} (I : Inv (X.blk s0 H0 scope ce fp) pins σ H s) (h : s.heap.get? p.1 = some p.2 ∧ H p.1 = none ∧ p.1 ≠ ce.locals ∧ p.1 ∉ frs X.stack ∧ ∀ v, p.2.data ≠ .cell v) : Inv (blkP X p s0 H0 scope ce fp) pins σ H s :=
  ⟨⟨I.ok.mod, I.ok.kind, I.ok.glob, I.ok.blt, I.ok.above, I.ok.inj, I.ok.has, I.ok.cab, I.ok.hd, I.ok.frames, I.ok.stk, I.ok.exf, I.ok.bs, I.ok.bsz, I.ok.noex, I.ok.exfs, I.ok.funs, I.ok.frf⟩, I.os, I.bare, I.base, I.loc, I.cell, I.free, I.freeC, fun q hq => by
    rcases List.mem_append.mp hq with hq | hq
    · rw [List.mem_singleton.mp hq]; exact h
    · exact I.pin q (List.mem_append_right _ hq), I.hok, I.len⟩
theorem pe_lcP {elt tg iter : Expr} {scope : Scope} {own : List (Str × Nat)} {pos : Pos} {wi : TI} {g : TG} {te : TE} (hot : Hot1 X.A p) (hp : p ∈ X.pn) (hN : X.N.Nodup) (hi : PIH X tg iter wi) (ok : BlkOk X.N X.env.scope scope own)
    (hg : ∀ (s : Shared) (H : Hp) (C : Addr) (cl : List (Str × Addr)) (fp : List Addr), PG (blkP X p s H scope (compEnvC scope cl C X.env) fp) tg g)
    (he : ∀ (s : Shared) (H : Hp) (C : Addr) (cl : List (Str × Addr)) (fp : List Addr), PE (blkP X p s H scope (compEnvC scope cl C X.env) fp) elt te) (hs : ∀ x, foldedSetIterable iter X.env x = pure x := by intro _; rfl) :
    PE X (.ListComp elt [⟨tg, iter, [], 0⟩] scope pos) (tLc wi g tYes te (own.map (·.2))) := by
  refine ⟨fun pins s σ H Q I h => ?_⟩
  rw [eval_ListComp]
  refine wpAny_comprehension_free (use := none) rfl hs (closure_ok fun y hy e => ?_) ok.kind (fun y hy e => by rw [ok.uniq y hy, e]) (thn (hi.run pins s σ H _ I h) fun xv s1 hx => thn hx fun itv s2 h2 => ?_)
  · rcases ok.free y hy e with k | k
    · exact I.ok.has _ (.inl k)
    · exact I.ok.has _ (.inr k)
  obtain ⟨it, fp, tn, J, H2, e, I2, T, st2, f2, q⟩ := h2
  subst e
  refine wpAny_newObj_type (newEnv_comp ?_) (by show 0 ≤ sizeLine; decide)
  generalize hD : s2.heap.objs.size = D
  obtain ⟨W, ⟨m0, w0⟩, turn⟩ := q D (I2.hok.fresh (Nat.le_of_eq hD))
  generalize hs3 : ({ s2 with heap := s2.heap.push { cls := .type "list", data := .seq ([] : List Value).toArray } } : Shared) = s3
  have h3 : s3.heap = s2.heap.push { cls := .type "list", data := .seq ([] : List Value).toArray } := by rw [← hs3]
  have I3 : Inv X pins σ (upd H2 D (.lst [])) s3 := by
    rw [← hs3]
    exact I2.laid (t' := s2.toks) (fun b o e => Heap.get?_push_of_some _ e) (Nat.le_of_eq hD) ⟨Nat.zero_le _, [], 0, .nil, by rw [← hD]; exact Heap.get?_push_size _ rfl⟩
  have f3 : ∀ b ∈ fp, FpOk X pins (upd H2 D (.lst [])) b ∧ b < s3.heap.objs.size := fun b hb => by
    obtain ⟨o, e, _⟩ := T.obj _ _ st2 b hb
    have lt := Heap.lt_size e
    exact ⟨⟨by rw [upd_ne (by rw [← hD]; exact Nat.ne_of_lt lt)]; exact (f2 b hb).1, (f2 b hb).2⟩, by rw [h3, Heap.size_push]; exact Nat.lt_succ_of_lt lt⟩
  have P3 := I3.pin p (List.mem_append_left _ hp)
  have I4 := block_start I3 ok hN f3
  have pg := hg s3 (upd H2 D (.lst [])) s3.heap.objs.size (cellsFrom (s3.heap.objs.size + 1) scope.names (cloFrom X.env.cells scope.names [])) fp
  have pe := he s3 (upd H2 D (.lst [])) s3.heap.objs.size (cellsFrom (s3.heap.objs.size + 1) scope.names (cloFrom X.env.cells scope.names [])) fp
  have nfp : ∀ b ∈ fp, (upd H2 D (.lst [])) b = none := fun b hb => (f3 b hb).1.1
  show codeAny _ _ (.compStart (.ListComp elt [⟨tg, iter, [], 0⟩] scope pos) 0 (.ref it) (.ref D) (compEnvC scope (cellsFrom (s3.heap.objs.size + 1) scope.names (cloFrom X.env.cells scope.names [])) s3.heap.objs.size X.env)) (compPost (model X.prog X.w) X.A X.xe none (EP X pins σ Q) (.ref D) s3.heap.objs.size) { s3 with heap := pushCells (s3.heap.push { cls := .type "dict", data := .dict #[] }) scope.names }
  generalize hce : compEnvC scope (cellsFrom (s3.heap.objs.size + 1) scope.names (cloFrom X.env.cells scope.names [])) s3.heap.objs.size X.env = ce at I4 pg pe ⊢
  have cL : ce.locals = s3.heap.objs.size := by subst hce; rfl
  generalize hH3 : upd H2 D (.lst []) = H3 at I3 I4 pg pe w0 nfp f3 P3
  generalize hs4 : ({ s3 with heap := pushCells (s3.heap.push { cls := .type "dict", data := .dict #[] }) scope.names } : Shared) = s4 at I4 ⊢
  have kp4 : ∀ b o, s3.heap.get? b = some o → s4.heap.get? b = some o := fun b o e => by rw [← hs4]; exact pushCells_keeps _ _ _ _ (Heap.get?_push_of_some _ e)
  have st4 : tn 0 s4.heap := T.keep _ _ _ st2 fun b _ o e => kp4 b o (by rw [h3]; exact Heap.get?_push_of_some _ e)
  have I5 : Inv (blkP X p s3 H3 scope ce fp) [] (wipe σ (own.map (·.2))) H3 s4 := blk_pin I4 ⟨kp4 _ _ P3.1, P3.2.1, by rw [cL]; exact Nat.ne_of_lt (Heap.lt_size P3.1), fun hm => (List.mem_cons.mp (I3.stkSub p.1 hm)).elim P3.2.2.1 P3.2.2.2.1, P3.2.2.2.2⟩
  have hotB : HotC (blkP X p s3 H3 scope ce fp) := ⟨p, hot, List.mem_singleton.mpr rfl⟩
  have stat : ∀ {σ' : L2.St} {H' : Hp} {s' : Shared}, Inv (blkP X p s3 H3 scope ce fp) [] σ' H' s' → (∀ b ∈ fp, H' b = none) → ∀ b ∈ fp, FpOk (blkP X p s3 H3 scope ce fp) [] H' b := fun {σ' H' s'} I' hn b hb =>
    ⟨hn b hb, (I'.ok.exf b hb).1, I'.ok.exfs b hb, .inl hb, fun x c e => (I'.ok.exf b hb).2 x c e, fun r hr => by
      have er : r = p := by simpa using (show r ∈ [p] ++ ([] : List (Addr × Obj)) from hr)
      rw [er]
      exact (f3 b hb).1.2.2.2.2.2 p (List.mem_append_left _ hp)⟩
  have loop : codeAny (model X.prog X.w) X.A (.compLoop (.ListComp elt [⟨tg, iter, [], 0⟩] scope pos) 0 (.ref it) (.ref D) ce) (compPost (model X.prog X.w) X.A X.xe none (EP X pins σ Q) (.ref D) s3.heap.objs.size) s4 := by
    refine compLoop_any (fun n s' => ∃ i H', Inv (blkP X p s3 H3 scope ce fp) [] (wipe σ (own.map (·.2))) H' s' ∧ tn i s'.heap ∧ (∀ b ∈ fp, H' b = none) ∧ W i n H') ?_ m0 ⟨0, H3, I5, st4, nfp, w0⟩
    rintro n s5 ⟨i, H5, I5, st5, n5, w5⟩
    rcases turn i n H5 w5 with ⟨stop, qq⟩ | ⟨go, Nx, hNx, step⟩
    · refine thnF (T.done (blkP X p s3 H3 scope ce fp) rfl rfl rfl hotB i [] s5 _ H5 (fun _ _ => False) I5 (stat I5 n5) st5 stop) fun r s6 ⟨hr, I6⟩ => ?_
      subst hr
      have I7 : Inv X pins σ H5 s6 := I3.call' (ch := fp) I6.os I6.base I6.hok I6.bare fun b hb => ⟨(f3 b hb).1.2.2.2.1, (f3 b hb).1.2.1, (f3 b hb).1.2.2.2.2.1, (f3 b hb).1.2.2.2.2.2⟩
      have nC : H5 s3.heap.objs.size = none := cL ▸ (show H5 ce.locals = none from I6.free)
      obtain ⟨m, hn, _⟩ := I6.loc
      have hn : s6.heap.Ns s3.heap.objs.size m := cL ▸ (show s6.heap.Ns ce.locals m from hn)
      obtain ⟨f0, f1, f2', f3', f4, f5⟩ := I3.fpOk (Nat.le_refl _) nC
      exact ⟨m, hn, fun h'' sb => ⟨.ref D, H5, I7.turned (t' := s6.toks) (fun b o hb e => (sb.2 b hb).trans e) f0 f1 f3' f4 f5, rfl, qq⟩⟩
    · refine thnF (T.item (blkP X p s3 H3 scope ce fp) rfl rfl rfl hotB i [] s5 _ H5 (fun _ _ => False) I5 (stat I5 n5) st5 go) fun r s6 ⟨u, hr, h6⟩ => ?_
      subst hr
      refine thnF h6 fun _ s7 ⟨x, H7, I7, r7, y7, st7, n7⟩ => thnF (pg.run _ s7 _ H7 x u _ (I7.pinned (stat I7 n7) (T.obj _ _ st7)) r7 (step x H7 y7)) fun _ s8 ⟨σ8, H8, I8, hw8, q8⟩ => thnF ((pts_nil (X := blkP X p s3 H3 scope ce fp)).run _ s8 σ8 H8 _ I8 q8) fun b s9 ⟨H9, I9, q9⟩ => ?_
      have fin : ∀ {s' : Shared} {H' : Hp}, Inv (blkP X p s3 H3 scope ce fp) ([] ++ pinsAt fp s7.heap) σ8 H' s' → Nx H' → ∃ m, m < n ∧ ∃ i H', Inv (blkP X p s3 H3 scope ce fp) [] (wipe σ (own.map (·.2))) H' s' ∧ tn i s'.heap ∧ (∀ b ∈ fp, H' b = none) ∧ W i m H' := fun {s' H'} I' nx => by
        obtain ⟨m', hm, w'⟩ := hNx H' nx
        have pin' : ∀ b ∈ fp, ∀ o, s7.heap.get? b = some o → s'.heap.get? b = some o ∧ H' b = none := fun b hb o e => ⟨(I'.pin (b, o) (List.mem_append_right _ (List.mem_append_right _ (mem_pinsAt hb e)))).1, (I'.pin (b, o) (List.mem_append_right _ (List.mem_append_right _ (mem_pinsAt hb e)))).2.1⟩
        refine ⟨m', hm, i + 1, H', (I'.unpinned (pins := [])).weak (by rw [← hw8, wipe_length]) (fun j v e => (wipe_some (by rw [← hw8] at e; exact e)).1), T.keep _ _ _ st7 fun b hb o e => (pin' b hb o e).1, fun b hb => ?_, w'⟩
        obtain ⟨o, e, _⟩ := T.obj _ _ st7 b hb
        exact (pin' b hb o e).2
      cases b with
      | false =>
        simp only [Bool.false_eq_true, if_false] at q9 ⊢
        exact fin I9 q9
      | true =>
        simp only [if_true] at q9 ⊢
        exact thnF (pe.run _ s9 σ8 H9 _ I9 q9) fun z s10 ⟨yv, H10, I10, r10, acc, hD10, hz10, nx⟩ => app_ok (X := blkP X p s3 H3 scope ce fp) I10 hD10 hz10 r10 fun s11 I11 => fin I11 nx
  exact codeAny_compStart_list loop (T.self X.A 0 _ _ _ st4 loop)
end

/-! ### the errors -/
abbrev sXI0 : Stmt := inClass (topS 2) 0
abbrev NXI0 : List Str := ["self", "value"]
abbrev PXI0 : List Str := ["self", "value"]
theorem scXI0 : FnScope NXI0 PXI0 (defScope sXI0) := ⟨rfl, rfl, rfl, by decide +kernel, rfl, by decide +kernel, by decide +kernel⟩
theorem ok_XI0 {P : Program} {w : World} {K : PySem.W.Frag} {mg : Str → Option Value} {base : Heap} {f C : Addr} {fd : FuncData} (F : Fun K "__init__" "InvalidText.__init__" sXI0 f fd) (T : OexG K C) (hn : PySem.W.findIn K (.ref C) "value" = some none) : FnOk P w K mg base CX0 1 f fd PXI0 (spX C "value") := by
  refine F.ok scXI0 (fun vs H Q E h => ?_) fun cdv A outer s H vs Q E hr h => ⟨_, pss_one (ps_ostG (pv 0) (pv 1)), ?_⟩
  · obtain ⟨a, v, rfl, _⟩ := h; rfl
  · obtain ⟨a, v, rfl, ea, q⟩ := h; exact ⟨_, rfl, _, rfl, a, C, rfl, T, hn, ea, q⟩
abbrev sXI1 : Stmt := inClass (topS 3) 0
abbrev NXI1 : List Str := ["self", "position"]
abbrev PXI1 : List Str := ["self", "position"]
theorem scXI1 : FnScope NXI1 PXI1 (defScope sXI1) := ⟨rfl, rfl, rfl, by decide +kernel, rfl, by decide +kernel, by decide +kernel⟩
theorem ok_XI1 {P : Program} {w : World} {K : PySem.W.Frag} {mg : Str → Option Value} {base : Heap} {f C : Addr} {fd : FuncData} (F : Fun K "__init__" "InvalidSyntax.__init__" sXI1 f fd) (T : OexG K C) (hn : PySem.W.findIn K (.ref C) "position" = some none) : FnOk P w K mg base CX0 1 f fd PXI1 (spX C "position") := by
  refine F.ok scXI1 (fun vs H Q E h => ?_) fun cdv A outer s H vs Q E hr h => ⟨_, pss_one (ps_ostG (pv 0) (pv 1)), ?_⟩
  · obtain ⟨a, v, rfl, _⟩ := h; rfl
  · obtain ⟨a, v, rfl, ea, q⟩ := h; exact ⟨_, rfl, _, rfl, a, C, rfl, T, hn, ea, q⟩
abbrev sXI2 : Stmt := inClass (topS 4) 0
abbrev NXI2 : List Str := ["self", "word"]
abbrev PXI2 : List Str := ["self", "word"]
theorem scXI2 : FnScope NXI2 PXI2 (defScope sXI2) := ⟨rfl, rfl, rfl, by decide +kernel, rfl, by decide +kernel, by decide +kernel⟩
theorem ok_XI2 {P : Program} {w : World} {K : PySem.W.Frag} {mg : Str → Option Value} {base : Heap} {f C : Addr} {fd : FuncData} (F : Fun K "__init__" "TooLarge.__init__" sXI2 f fd) (T : OexG K C) (hn : PySem.W.findIn K (.ref C) "word" = some none) : FnOk P w K mg base CX0 1 f fd PXI2 (spX C "word") := by
  refine F.ok scXI2 (fun vs H Q E h => ?_) fun cdv A outer s H vs Q E hr h => ⟨_, pss_one (ps_ostG (pv 0) (pv 1)), ?_⟩
  · obtain ⟨a, v, rfl, _⟩ := h; rfl
  · obtain ⟨a, v, rfl, ea, q⟩ := h; exact ⟨_, rfl, _, rfl, a, C, rfl, T, hn, ea, q⟩
structure ErrH (P : Program) (w : World) (K : PySem.W.Frag) (mg : Str → Option Value) (base : Heap) (C : Nat → Addr) : Prop where
  h0 : HasX P w K mg base 1 "InvalidText" (C 0) "value"
  h1 : HasX P w K mg base 1 "InvalidSyntax" (C 1) "position"
  h2 : HasX P w K mg base 1 "TooLarge" (C 2) "word"
open PyProof.Rows in
/-- as Fun.ok, for a def that errors leave -/
theorem Fun.okN {P : Program} {w : World} {K : PySem.W.Frag} {mg : Str → Option Value} {base : Heap} {x qual : Str} {st : Stmt} {f : Addr} {fd : FuncData} {N ps : List Str} {k : Nat} {sp : Sp} (F : Fun K x qual st f fd) (S : FnScope N ps (defScope st)) (len : ∀ vs H Q E, sp vs H Q E → vs.length = ps.length)
    (hbody : ∀ (cdv : Value) (A : Around) (outer : List Env) (s : Shared) (H : Hp) (vs : List V) (Q : VK) (E : XK), Room k (A.deeper (envOfC qual (defScope st) s.heap.objs.size f cdv)) → sp vs H Q E →
      ∃ t, PSs (cxOf (L2N.CX P w) P w K mg base N qual (defScope st) f cdv A outer s H E) (defBody st) t ∧ t { nx := fun _ H' => Q .non H', rt := Q } (start N vs) H) : FnOk P w K mg base (L2N.CX P w) (k + 1) f fd ps sp := by
  obtain ⟨oc, od, kV, doc, pm, an, cdv, ct, osl, rfl, lk, hcd⟩ := F.ex
  exact fn_of lk hcd S len fun A outer s H vs Q E hr hsp => hbody cdv A outer s H vs Q E hr hsp
theorem pe_callSH {X : Cx} {CX : CXT} {k : Nat} {x : Str} {ps : List Str} {sp : Sp} {E : L2.St → XK} {e : Expr} {es : List Expr} {t : TA} {p pos : Pos} (F : Has X.prog X.w X.K X.mg X.base CX k x ps sp) (hr : Room k X.A) (hg : Gl X x) (hx : ∀ σ, PassesAt CX X σ (E σ)) (ha : PA X (e :: es) t)
    (hd : (x == ("__debug__" : Str)) = false := by decide) (he : starEach (e :: es) X.env = (false, eval e X.env) :: starEach es X.env := by rfl) (hpl : (backTo pos (starEach es X.env)).any (·.1) = false := by rfl) :
    PE X (.Call (.Name x p) (e :: es) [] pos) (tCallS sp E t) := by
  obtain ⟨f, fd, F, m, kp, b⟩ := F.ex
  exact pe_callS F hr hg m kp b hx ha hd he hpl
/-- raise C(e) in a def that errors leave -/
theorem ps_raiseX {X : Cx} {W : WX} {x : Str} {C : Addr} {f : Str} {k : Nat} {e : Expr} {ta : TA} {p pos pos' : Pos} (hc : X.calm = true) (tk : L2N.Takes X W) (T : HasX X.prog X.w X.K X.mg X.base k x C f) (hr : Room (k + 1) X.A) (hg : Gl X x) (ha : PA X [e] ta)
    (hdb : (x == ("__debug__" : Str)) = false := by decide) (he : starEach [e] X.env = (false, eval e X.env) :: starEach [] X.env := by rfl) : PS X (.Raise (some (.Call (.Name x p) [e] [] pos)) none pos') (fun _ σ H => tMkX C f ta σ H fun cls d H' => W cls d σ H') :=
  L2N.ps_raise hc tk (pmk_x T hr hg ha hdb he)

/-! ### what the Reader accepts, and where it stops -/
/-- how reading a text ends where it is none -/
inductive RdE where
  | syn (p : Nat) | large (w : Str)
abbrev Tl := List TK
abbrev RdR := Except RdE Tl
def kindH : Tl → Str
  | [] => ""
  | k :: _ => k.1
def textH : Tl → Str
  | [] => ""
  | k :: _ => k.2.1
def posH : Tl → Nat
  | [] => 0
  | k :: _ => k.2.2
def isW (w : Str) (l : Tl) : Bool := decide (kindH l = "mark") && decide (textH l = w)
def isN (l : Tl) : Bool := decide (kindH l = "name")
def synE (l : Tl) : RdR := .error (.syn (posH l))
def andR (r : RdR) (k : Tl → RdR) : RdR := match r with
  | .error e => .error e
  | .ok l => k l
def rExp (w : Str) (l : Tl) : RdR := if isW w l then .ok l.tail else synE l
def rName (l : Tl) : RdR := if isN l then .ok l.tail else synE l
/-- a token and what belongs to it, again and again -/
def rLoop (c : Tl → Bool) (f : Tl → RdR) : Nat → Tl → RdR
  | 0, l => .ok l
  | n + 1, l => if c l then andR (f l.tail) (rLoop c f n) else .ok l
/-- more of the same behind commas -/
abbrev rMore (f : Tl → RdR) : Nat → Tl → RdR := rLoop (isW ",") f
def rNames (l : Tl) : RdR := andR (rName l) fun l1 => rMore rName l1.length l1
def rRow (l : Tl) : RdR := andR (rName l) fun l1 => rLoop isN (fun l => .ok l) l1.length l1
def rTerm (l : Tl) : RdR :=
  if isN l then .ok l.tail
  else if kindH l = "number" then
    (if (textH l).length ≤ 12 then (if isW "*" l.tail then rName l.tail.tail else .ok l.tail) else .error (.large "numbers"))
  else synE l
def rSum : Nat → Tl → RdR
  | 0, l => .ok l
  | n + 1, l => andR (rTerm l) fun l1 => if isW "+" l1 then rSum n l1.tail else if isW "-" l1 then rSum n l1.tail else .ok l1
def rExpr (l : Tl) : RdR := rSum (l.length + 1) (if isW "-" l then l.tail else l)
def rArg (l : Tl) : RdR := if isW "&" l then rName l.tail else rExpr l
def rArgs (l : Tl) : RdR := andR (rExp "(" l) fun l1 => if isW ")" l1 then .ok l1.tail else andR (rArg l1) fun l2 => andR (rMore rArg l2.length l2) (rExp ")")
/-- what is set -/
def rSet (l : Tl) : RdR := if isW "?" l then .ok l.tail else if isN l && decide (textH l.tail = "(") then andR (rName l) rArgs else rExpr l
def rAction (l : Tl) : RdR := andR (rName l) fun l1 => if isW "(" l1 then rArgs l1 else andR (rExp "=" l1) rSet
section
variable (blk : Tl → RdR)
def rHand (l : Tl) : RdR := andR (rNames l) blk
def rTry (l : Tl) : RdR := andR (blk l) fun l1 =>
  if isW "except" l1 then andR (rHand blk l1.tail) fun l2 => andR (rLoop (isW "except") (rHand blk) l2.length l2) fun l3 => if isW "finally" l3 then blk l3.tail else .ok l3
  else andR (rExp "finally" l1) blk
def rWith (l : Tl) : RdR := andR (rName l) fun l1 => andR (rArgs l1) fun l2 => andR (rExp "," l2) fun l3 => andR (rName l3) fun l4 => andR (rArgs l4) fun l5 => andR (if isW "swallow" l5 then rNames l5.tail else .ok l5) blk
def rStmt (l : Tl) : RdR :=
  if isN l then rAction l
  else if isW "if" l then andR (blk l.tail) fun l1 => if isW "else" l1 then blk l1.tail else .ok l1
  else if isW "while" l then blk l.tail
  else if isW "risk" l then rNames l.tail
  else if isW "raise" l then rName l.tail
  else if isW "try" l then rTry blk l.tail
  else if isW "undo" l then andR (rNames l.tail) blk
  else if isW "with" l then rWith blk l.tail
  else andR (rExp "return" l) rExpr
def rStmts : Nat → Tl → RdR
  | 0, l => .ok l
  | n + 1, l => if isW "}" l then .ok l.tail else andR (rStmt blk l) (rStmts n)
end
/-- a block with m more blocks allowed within -/
def rBlock : Nat → Tl → RdR
  | 0, l => if isW "{" l then .error (.large "nesting") else synE l
  | m + 1, l => andR (rExp "{" l) fun l1 => rStmts (rBlock m) (l1.length + 1) l1
def rParam (l : Tl) : RdR := rName (if isW "&" l then l.tail else l)
def rFunction (l : Tl) : RdR := andR (rName l) fun l1 => andR (rExp "(" l1) fun l2 => andR (if isW ")" l2 then .ok l2.tail else andR (rParam l2) fun l3 => andR (rMore rParam l3.length l3) (rExp ")")) (rBlock 30)
def rProgram (l : Tl) : RdR := andR (if isW "globals" l then rRow l.tail else .ok l) fun l1 => andR (if isW "kinds" l1 then rRow l1.tail else .ok l1) fun l2 => andR (rLoop (isW "keep") rExpr l2.length l2) fun l3 => andR (rLoop (isW "def") rFunction l3.length l3) fun l4 => if kindH l4 = "end" then .ok l4 else synE l4
/-! #### a text that is cut -/
/-- the token at which no other begins -/
def badT (p : Nat) : TK := ("bad", "", p)
/-- tokens that are no end -/
def Inn (P : Tl) : Prop := ∀ k ∈ P, k.1 ≠ "end" ∧ k.1 ≠ "bad"
/-- what a reader does with a part P of its tokens, followed by what is none: as with all tokens, as long as it stays within P; or it stops at the cut -/
def Cut (f : Tl → RdR) : Prop := ∀ (P Q : Tl) (p : Nat) (R : Tl), Inn P → f (P ++ Q) = .ok R → (∃ P', R = P' ++ Q ∧ P' <:+ P ∧ f (P ++ [badT p]) = .ok (P' ++ [badT p])) ∨ f (P ++ [badT p]) = .ok [badT p] ∨ f (P ++ [badT p]) = .error (.syn p)

/-! ### a text that is cut: the Reader stops at the cut -/
section
variable {f g : Tl → RdR} {b : TK}
/-- at the cut itself -/
def Stop (f : Tl → RdR) : Prop := ∀ p : Nat, f [badT p] = .ok [badT p] ∨ f [badT p] = .error (.syn p)
/-- what is left is an end part of what was there -/
def Suf (f : Tl → RdR) : Prop := ∀ l R, f l = .ok R → R <:+ l
theorem and_ok {r : RdR} {k : Tl → RdR} {R : Tl} (h : andR r k = .ok R) : ∃ M, r = .ok M ∧ k M = .ok R := by
  cases r with
  | error e => cases h
  | ok M => exact ⟨M, rfl, h⟩
theorem Suf.and (hf : Suf f) (hg : Suf g) : Suf fun l => andR (f l) g := fun l R h => by
  obtain ⟨M, h1, h2⟩ := and_ok h
  exact (hg M R h2).trans (hf l M h1)
theorem Stop.and (hf : Stop f) (hg : Stop g) : Stop fun l => andR (f l) g := fun p => by
  rcases hf p with e | e
  · show andR (f [badT p]) g = _ ∨ andR (f [badT p]) g = _
    rw [e]
    exact hg p
  · show andR (f [badT p]) g = _ ∨ andR (f [badT p]) g = _
    rw [e]
    exact .inr rfl
theorem Inn.suf {P P' : Tl} (h : Inn P) (s : P' <:+ P) : Inn P' := fun k hk => h k (s.subset hk)
/-- one part done, and then another -/
theorem Cut.and (hf : Cut f) (hg : Cut g) (sg : Stop g) : Cut fun l => andR (f l) g := fun P Q p R hP h => by
  obtain ⟨M, h1, h2⟩ := and_ok h
  show (∃ P', R = P' ++ Q ∧ P' <:+ P ∧ andR (f (P ++ [badT p])) g = _) ∨ andR (f (P ++ [badT p])) g = _ ∨ andR (f (P ++ [badT p])) g = _
  rcases hf P Q p M hP h1 with ⟨P', rfl, s, e⟩ | e | e
  · rw [e]
    rcases hg P' Q p R (hP.suf s) h2 with ⟨P2, rfl, s2, e2⟩ | e2 | e2
    · exact .inl ⟨P2, rfl, s2.trans s, e2⟩
    · exact .inr (.inl e2)
    · exact .inr (.inr e2)
  · rw [e]
    rcases sg p with e2 | e2
    · exact .inr (.inl e2)
    · exact .inr (.inr e2)
  · rw [e]
    exact .inr (.inr rfl)
/-- where the part is empty, the cut itself is looked at -/
theorem Cut.of (sf : Stop f) (h : ∀ (x : TK) (P Q : Tl) (p : Nat) (R : Tl), x.1 ≠ "end" → x.1 ≠ "bad" → Inn P → f (x :: (P ++ Q)) = .ok R → (∃ P', R = P' ++ Q ∧ P' <:+ x :: P ∧ f (x :: (P ++ [badT p])) = .ok (P' ++ [badT p])) ∨ f (x :: (P ++ [badT p])) = .ok [badT p] ∨ f (x :: (P ++ [badT p])) = .error (.syn p)) : Cut f := fun P Q p R hP e => by
  cases P with
  | nil =>
    rcases sf p with z | z
    · exact .inr (.inl z)
    · exact .inr (.inr z)
  | cons x P => exact h x P Q p R (hP x List.mem_cons_self).1 (hP x List.mem_cons_self).2 (fun k hk => hP k (List.mem_cons_of_mem _ hk)) e
theorem Cut.ok : Cut fun l => (.ok l : RdR) := fun P Q p R _ h => .inl ⟨P, by cases h; rfl, List.suffix_refl _, rfl⟩
/-- behind one token -/
theorem cut_tail {x : TK} {P Q : Tl} {p : Nat} {R : Tl} {h : Tl → RdR} (hc : Cut h) (hP : Inn P) (e : h (P ++ Q) = .ok R) : (∃ P', R = P' ++ Q ∧ P' <:+ x :: P ∧ h (P ++ [badT p]) = .ok (P' ++ [badT p])) ∨ h (P ++ [badT p]) = .ok [badT p] ∨ h (P ++ [badT p]) = .error (.syn p) := by
  rcases hc P Q p R hP e with ⟨P', h1, h2, h3⟩ | z | z
  · exact .inl ⟨P', h1, h2.trans (List.suffix_cons _ _), h3⟩
  · exact .inr (.inl z)
  · exact .inr (.inr z)
theorem kind_bad (p : Nat) : kindH [badT p] = "bad" := rfl
theorem isW_bad (w : Str) (p : Nat) : isW w [badT p] = false := by
  unfold isW
  rw [kind_bad, decide_eq_false (by decide +kernel), Bool.false_and]
theorem isN_bad (p : Nat) : isN [badT p] = false := by
  unfold isN
  rw [kind_bad]
  decide +kernel
/-- a choice by the first token -/
theorem Cut.ite {c : Tl → Bool} (hc : ∀ (x : TK) (l m : Tl), c (x :: l) = c (x :: m)) (hf : Cut f) (hg : Cut g) (st : Stop fun l => if c l = true then f l else g l) : Cut fun l => if c l = true then f l else g l := Cut.of st fun x P Q p R h1 h2 hP e => by
  have e : (if c (x :: (P ++ Q)) = true then f (x :: (P ++ Q)) else g (x :: (P ++ Q))) = .ok R := e
  show (∃ P', R = P' ++ Q ∧ P' <:+ x :: P ∧ (if c (x :: (P ++ [badT p])) = true then f (x :: (P ++ [badT p])) else g (x :: (P ++ [badT p]))) = _) ∨ (if c (x :: (P ++ [badT p])) = true then f (x :: (P ++ [badT p])) else g (x :: (P ++ [badT p]))) = _ ∨ (if c (x :: (P ++ [badT p])) = true then f (x :: (P ++ [badT p])) else g (x :: (P ++ [badT p]))) = _
  have hx : Inn (x :: P) := fun k hk => by
    rcases List.mem_cons.mp hk with rfl | z
    · exact ⟨h1, h2⟩
    · exact hP k z
  rw [hc x (P ++ [badT p]) (P ++ Q)]
  by_cases z : c (x :: (P ++ Q)) = true
  · rw [if_pos z] at e
    rw [if_pos z]
    exact hf (x :: P) Q p R hx e
  · rw [if_neg z] at e
    rw [if_neg z]
    exact hg (x :: P) Q p R hx e
theorem isW_hd (w : Str) (x : TK) (l m : Tl) : isW w (x :: l) = isW w (x :: m) := rfl
theorem isN_hd (x : TK) (l m : Tl) : isN (x :: l) = isN (x :: m) := rfl
/-- behind the first token, where it is one of those that are no end -/
theorem Cut.tl {c : Tl → Bool} (hc : ∀ (x : TK) (l m : Tl), c (x :: l) = c (x :: m)) (cb : ∀ p, c [badT p] = false) (hf : Cut f) (hg : Cut g) (sg : Stop g) : Cut fun l => if c l = true then f l.tail else g l := by
  have st : Stop fun l => if c l = true then f l.tail else g l := fun p => by
    show (if c [badT p] = true then _ else g [badT p]) = _ ∨ (if c [badT p] = true then _ else g [badT p]) = _
    rw [cb p, if_neg (by decide)]
    exact sg p
  refine Cut.of st fun x P Q p R h1 h2 hP e => ?_
  have e : (if c (x :: (P ++ Q)) = true then f (P ++ Q) else g (x :: (P ++ Q))) = .ok R := e
  show (∃ P', R = P' ++ Q ∧ P' <:+ x :: P ∧ (if c (x :: (P ++ [badT p])) = true then f (P ++ [badT p]) else g (x :: (P ++ [badT p]))) = _) ∨ (if c (x :: (P ++ [badT p])) = true then f (P ++ [badT p]) else g (x :: (P ++ [badT p]))) = _ ∨ (if c (x :: (P ++ [badT p])) = true then f (P ++ [badT p]) else g (x :: (P ++ [badT p]))) = _
  have hx : Inn (x :: P) := fun k hk => by
    rcases List.mem_cons.mp hk with rfl | z
    · exact ⟨h1, h2⟩
    · exact hP k z
  rw [hc x (P ++ [badT p]) (P ++ Q)]
  by_cases z : c (x :: (P ++ Q)) = true
  · rw [if_pos z] at e
    rw [if_pos z]
    exact cut_tail hf hP e
  · rw [if_neg z] at e
    rw [if_neg z]
    exact hg (x :: P) Q p R hx e
theorem Stop.tl {c : Tl → Bool} (cb : ∀ p, c [badT p] = false) (sg : Stop g) : Stop fun l => if c l = true then f l.tail else g l := fun p => by
  show (if c [badT p] = true then _ else g [badT p]) = _ ∨ (if c [badT p] = true then _ else g [badT p]) = _
  rw [cb p, if_neg (by decide)]
  exact sg p
theorem Stop.ok : Stop fun l => (.ok l : RdR) := fun _ => .inl rfl
theorem Stop.syn : Stop synE := fun _ => .inr rfl
theorem Cut.syn : Cut synE := fun _ _ _ _ _ h => nomatch h
theorem cut_exp (w : Str) : Cut (rExp w) := Cut.tl (f := fun l => .ok l) (isW_hd w) (isW_bad w) Cut.ok Cut.syn Stop.syn
theorem stop_exp (w : Str) : Stop (rExp w) := Stop.tl (f := fun l => .ok l) (isW_bad w) Stop.syn
theorem cut_name : Cut rName := Cut.tl (f := fun l => .ok l) isN_hd isN_bad Cut.ok Cut.syn Stop.syn
theorem stop_name : Stop rName := Stop.tl (f := fun l => .ok l) isN_bad Stop.syn
theorem tail_suf (l : Tl) : l.tail <:+ l := List.tail_suffix l
theorem Suf.tl {c : Tl → Bool} (hf : Suf f) (hg : Suf g) : Suf fun l => if c l = true then f l.tail else g l := fun l R h => by
  have h : (if c l = true then f l.tail else g l) = .ok R := h
  split at h
  · exact (hf _ _ h).trans (tail_suf l)
  · exact hg _ _ h
theorem Suf.ok : Suf fun l => (.ok l : RdR) := fun l R h => by cases h; exact List.suffix_refl _
theorem Suf.syn : Suf synE := fun _ _ h => nomatch h
theorem suf_exp (w : Str) : Suf (rExp w) := Suf.tl (f := fun l => .ok l) Suf.ok Suf.syn
theorem suf_name : Suf rName := Suf.tl (f := fun l => .ok l) Suf.ok Suf.syn
end

/-! ### the Reader's parts stop at the cut -/
section
variable {f g blk : Tl → RdR}
/-- what is said of a part and the same part cut -/
abbrev CutE (P Q : Tl) (p : Nat) (R : Tl) (r : RdR) : Prop := (∃ P', R = P' ++ Q ∧ P' <:+ P ∧ r = .ok (P' ++ [badT p])) ∨ r = .ok [badT p] ∨ r = .error (.syn p)
theorem CutE.up {P P1 Q : Tl} {p : Nat} {R : Tl} {r : RdR} (h : CutE P1 Q p R r) (s : P1 <:+ P) : CutE P Q p R r := by
  rcases h with ⟨P', h1, h2, h3⟩ | h | h
  · exact .inl ⟨P', h1, h2.trans s, h3⟩
  · exact .inr (.inl h)
  · exact .inr (.inr h)
theorem CutE.of_stop {P Q : Tl} {p : Nat} {R : Tl} (hf : Stop f) : CutE P Q p R (f [badT p]) := by
  rcases hf p with z | z
  · exact .inr (.inl z)
  · exact .inr (.inr z)
theorem suf_loop {c : Tl → Bool} (hf : Suf f) : ∀ n, Suf (rLoop c f n)
  | 0 => Suf.ok
  | n + 1 => fun l R h => by
    have h : (if c l = true then andR (f l.tail) (rLoop c f n) else .ok l) = .ok R := h
    split at h
    · obtain ⟨M, h1, h2⟩ := and_ok h
      exact (suf_loop hf n M R h2).trans ((hf _ _ h1).trans (tail_suf l))
    · cases h; exact List.suffix_refl _
theorem stop_loop {c : Tl → Bool} (cb : ∀ p, c [badT p] = false) (n p : Nat) : rLoop c f n [badT p] = .ok [badT p] := by
  cases n with
  | zero => rfl
  | succ n =>
    show (if c [badT p] = true then _ else _) = _
    rw [cb, if_neg (by decide)]
theorem cut_loop {c : Tl → Bool} (hc : ∀ (x : TK) (l m : Tl), c (x :: l) = c (x :: m)) (cb : ∀ p, c [badT p] = false) (hf : Cut f) (sf : Suf f) : ∀ (k : Nat) (P Q : Tl) (p : Nat) (R : Tl) (n m : Nat), P.length ≤ k → Inn P → (P ++ Q).length ≤ n → P.length + 1 ≤ m → rLoop c f n (P ++ Q) = .ok R → CutE P Q p R (rLoop c f m (P ++ [badT p]))
  | k, [], Q, p, R, n, m, _, _, _, _, _ => .inr (.inl (stop_loop cb m p))
  | 0, x :: P, Q, p, R, n, m, hk, _, _, _, _ => absurd hk (Nat.not_succ_le_zero _)
  | k + 1, x :: P, Q, p, R, n, m, hk, hP, hn, hm, e => by
    have hk : P.length + 1 ≤ k + 1 := hk
    have hn : (P ++ Q).length + 1 ≤ n := hn
    have hm : P.length + 1 + 1 ≤ m := hm
    obtain ⟨n, rfl⟩ : ∃ n', n = n' + 1 := ⟨n - 1, by omega⟩
    obtain ⟨m, rfl⟩ : ∃ m', m = m' + 1 := ⟨m - 1, by omega⟩
    have hP1 : Inn P := fun k hk => hP k (List.mem_cons_of_mem _ hk)
    have e : (if c (x :: (P ++ Q)) = true then andR (f (P ++ Q)) (rLoop c f n) else .ok (x :: (P ++ Q))) = .ok R := e
    show CutE (x :: P) Q p R (if c (x :: (P ++ [badT p])) = true then andR (f (P ++ [badT p])) (rLoop c f m) else .ok (x :: (P ++ [badT p])))
    rw [hc x (P ++ [badT p]) (P ++ Q)]
    by_cases z : c (x :: (P ++ Q)) = true
    · rw [if_pos z] at e
      rw [if_pos z]
      obtain ⟨M, h1, h2⟩ := and_ok e
      rcases hf P Q p M hP1 h1 with ⟨P', rfl, s, e2⟩ | e2 | e2
      · rw [e2]
        have ls := s.length_le
        refine (cut_loop hc cb hf sf k P' Q p R n m (by omega) (hP1.suf s) (by rw [List.length_append] at hn ⊢; omega) (by omega) h2).up (s.trans (List.suffix_cons _ _))
      · rw [e2]
        exact .inr (.inl (stop_loop cb m p))
      · rw [e2]
        exact .inr (.inr rfl)
    · rw [if_neg z] at e
      rw [if_neg z]
      cases e
      exact .inl ⟨x :: P, rfl, List.suffix_refl _, rfl⟩
theorem cut_more {c : Tl → Bool} (hc : ∀ (x : TK) (l m : Tl), c (x :: l) = c (x :: m)) (cb : ∀ p, c [badT p] = false) (hf : Cut f) (sf : Suf f) : Cut fun l => rLoop c f l.length l := fun P Q p R hP e => cut_loop hc cb hf sf P.length P Q p R _ _ (Nat.le_refl _) hP (Nat.le_refl _) (by rw [List.length_append]; exact Nat.le_refl _) e
theorem stop_more {c : Tl → Bool} (cb : ∀ p, c [badT p] = false) : Stop fun l => rLoop c f l.length l := fun p => .inl (stop_loop cb _ p)
theorem suf_more {c : Tl → Bool} (sf : Suf f) : Suf fun l => rLoop c f l.length l := fun l R h => suf_loop sf _ l R h
theorem cut_names : Cut rNames := cut_name.and (cut_more (isW_hd _) (isW_bad _) cut_name suf_name) (stop_more (isW_bad _))
theorem stop_names : Stop rNames := stop_name.and (stop_more (isW_bad _))
theorem suf_names : Suf rNames := suf_name.and (suf_more suf_name)
theorem cut_row : Cut rRow := cut_name.and (cut_more isN_hd isN_bad Cut.ok Suf.ok) (stop_more isN_bad)
theorem stop_row : Stop rRow := stop_name.and (stop_more isN_bad)
theorem suf_row : Suf rRow := suf_name.and (suf_more Suf.ok)
theorem suf_ite {c : Tl → Bool} (hf : Suf f) (hg : Suf g) : Suf fun l => if c l = true then f l else g l := fun l R h => by
  have h : (if c l = true then f l else g l) = .ok R := h
  split at h
  · exact hf _ _ h
  · exact hg _ _ h
theorem suf_tail (hf : Suf f) : Suf fun l => f l.tail := fun l R h => (hf _ _ h).trans (tail_suf l)
/-- a number, and a name behind a star -/
def rNum (l : Tl) : RdR := if (textH l).length ≤ 12 then (if isW "*" l.tail then rName l.tail.tail else .ok l.tail) else .error (.large "numbers")
theorem rTerm_eq (l : Tl) : rTerm l = if isN l = true then .ok l.tail else if decide (kindH l = "number") = true then rNum l else synE l := by
  unfold rTerm rNum
  by_cases h : kindH l = "number"
  · rw [if_pos h, if_pos (decide_eq_true h)]
  · rw [if_neg h, if_neg (fun z => h (of_decide_eq_true z))]
theorem stop_term : Stop rTerm := fun p => by
  rw [rTerm_eq, isN_bad, if_neg (by decide), kind_bad, if_neg (by decide +kernel)]
  exact .inr rfl
theorem suf_term : Suf rTerm := fun l R h => by
  rw [rTerm_eq] at h
  split at h
  · cases h; exact tail_suf l
  · split at h
    · unfold rNum at h
      split at h
      · split at h
        · exact (suf_name _ _ h).trans ((tail_suf _).trans (tail_suf _))
        · cases h; exact tail_suf l
      · cases h
    · cases h
theorem star_cut : Cut fun l => if isW "*" l = true then rName l.tail else .ok l := Cut.tl (isW_hd _) (isW_bad _) cut_name Cut.ok Stop.ok
theorem cut_term : Cut rTerm := Cut.of stop_term fun x P Q p R h1 h2 hP e => by
  rw [rTerm_eq] at e
  show CutE (x :: P) Q p R (rTerm (x :: (P ++ [badT p])))
  rw [rTerm_eq, isN_hd x (P ++ [badT p]) (P ++ Q)]
  by_cases z : isN (x :: (P ++ Q)) = true
  · rw [if_pos z] at e
    rw [if_pos z]
    cases e
    exact .inl ⟨P, rfl, List.suffix_cons _ _, rfl⟩
  · rw [if_neg z] at e
    rw [if_neg z]
    by_cases y : x.1 = "number"
    · have e : (if decide (x.1 = "number") = true then rNum (x :: (P ++ Q)) else synE (x :: (P ++ Q))) = .ok R := e
      show CutE (x :: P) Q p R (if decide (x.1 = "number") = true then rNum (x :: (P ++ [badT p])) else synE (x :: (P ++ [badT p])))
      rw [if_pos (decide_eq_true y)] at e
      rw [if_pos (decide_eq_true y)]
      have e : (if x.2.1.length ≤ 12 then (if isW "*" (P ++ Q) = true then rName (P ++ Q).tail else .ok (P ++ Q)) else .error (.large "numbers")) = .ok R := e
      show CutE (x :: P) Q p R (if x.2.1.length ≤ 12 then (if isW "*" (P ++ [badT p]) = true then rName (P ++ [badT p]).tail else .ok (P ++ [badT p])) else .error (.large "numbers"))
      by_cases u : x.2.1.length ≤ 12
      · rw [if_pos u] at e
        rw [if_pos u]
        exact cut_tail star_cut hP e
      · rw [if_neg u] at e
        cases e
    · have e : (if decide (x.1 = "number") = true then rNum (x :: (P ++ Q)) else synE (x :: (P ++ Q))) = .ok R := e
      rw [if_neg (fun z => y (of_decide_eq_true z))] at e
      cases e
theorem suf_sum : ∀ n, Suf (rSum n)
  | 0 => Suf.ok
  | n + 1 => fun l R h => by
    have h : andR (rTerm l) (fun l1 => if isW "+" l1 = true then rSum n l1.tail else if isW "-" l1 = true then rSum n l1.tail else .ok l1) = .ok R := h
    obtain ⟨M, h1, h2⟩ := and_ok h
    refine List.IsSuffix.trans ?_ (suf_term _ _ h1)
    split at h2
    · exact (suf_sum n _ _ h2).trans (tail_suf _)
    · split at h2
      · exact (suf_sum n _ _ h2).trans (tail_suf _)
      · cases h2; exact List.suffix_refl _
theorem cut_sum : ∀ (k : Nat) (P Q : Tl) (p : Nat) (R : Tl) (n m : Nat), P.length ≤ k → Inn P → (P ++ Q).length + 1 ≤ n → P.length + 1 ≤ m → rSum n (P ++ Q) = .ok R → CutE P Q p R (rSum m (P ++ [badT p]))
  | k, P, Q, p, R, n, m, hk, hP, hn, hm, e => by
    obtain ⟨n, rfl⟩ : ∃ n', n = n' + 1 := ⟨n - 1, by omega⟩
    obtain ⟨m, rfl⟩ : ∃ m', m = m' + 1 := ⟨m - 1, by omega⟩
    have e : andR (rTerm (P ++ Q)) (fun l1 => if isW "+" l1 = true then rSum n l1.tail else if isW "-" l1 = true then rSum n l1.tail else .ok l1) = .ok R := e
    obtain ⟨M, h1, h2⟩ := and_ok e
    show CutE P Q p R (andR (rTerm (P ++ [badT p])) (fun l1 => if isW "+" l1 = true then rSum m l1.tail else if isW "-" l1 = true then rSum m l1.tail else .ok l1))
    have at_bad : (if isW "+" [badT p] = true then rSum m [badT p].tail else if isW "-" [badT p] = true then rSum m [badT p].tail else .ok [badT p]) = (.ok [badT p] : RdR) := by
      rw [isW_bad, isW_bad, if_neg (by decide), if_neg (by decide)]
    rcases cut_term P Q p M hP h1 with ⟨P', rfl, s, e2⟩ | e2 | e2
    · rw [e2]
      show CutE P Q p R (if isW "+" (P' ++ [badT p]) = true then rSum m (P' ++ [badT p]).tail else if isW "-" (P' ++ [badT p]) = true then rSum m (P' ++ [badT p]).tail else .ok (P' ++ [badT p]))
      cases P' with
      | nil => exact .inr (.inl at_bad)
      | cons y P2 =>
        have ls := s.length_le
        have ls : P2.length + 1 ≤ P.length := ls
        obtain ⟨k, rfl⟩ : ∃ k', k = k' + 1 := ⟨k - 1, by omega⟩
        have s2 : P2 <:+ P := (List.suffix_cons _ _).trans s
        have h2 : (if isW "+" (y :: (P2 ++ Q)) = true then rSum n (P2 ++ Q) else if isW "-" (y :: (P2 ++ Q)) = true then rSum n (P2 ++ Q) else .ok (y :: (P2 ++ Q))) = .ok R := h2
        show CutE P Q p R (if isW "+" (y :: (P2 ++ [badT p])) = true then rSum m (P2 ++ [badT p]) else if isW "-" (y :: (P2 ++ [badT p])) = true then rSum m (P2 ++ [badT p]) else .ok (y :: (P2 ++ [badT p])))
        rw [isW_hd "+" y (P2 ++ [badT p]) (P2 ++ Q), isW_hd "-" y (P2 ++ [badT p]) (P2 ++ Q)]
        have go := fun h => (cut_sum k P2 Q p R n m (by omega) (hP.suf s2) (by rw [List.length_append] at hn ⊢; omega) (by omega) h).up s2
        by_cases z : isW "+" (y :: (P2 ++ Q)) = true
        · rw [if_pos z] at h2
          rw [if_pos z]
          exact go h2
        · rw [if_neg z] at h2
          rw [if_neg z]
          by_cases z2 : isW "-" (y :: (P2 ++ Q)) = true
          · rw [if_pos z2] at h2
            rw [if_pos z2]
            exact go h2
          · rw [if_neg z2] at h2
            rw [if_neg z2]
            cases h2
            exact .inl ⟨y :: P2, rfl, s, rfl⟩
    · rw [e2]
      exact .inr (.inl at_bad)
    · rw [e2]
      exact .inr (.inr rfl)
end

/-! ### statements, blocks and the whole text stop at the cut -/
section
variable {f g blk : Tl → RdR}
def Dec (f : Tl → RdR) : Prop := ∀ l R, f l = .ok R → R.length < l.length
theorem nonnil_W {w : Str} {l : Tl} (h : isW w l = true) : l ≠ [] := fun e => by
  subst e
  have := (Bool.and_eq_true_iff.mp h).1
  exact absurd (of_decide_eq_true this) (by decide +kernel)
theorem nonnil_N {l : Tl} (h : isN l = true) : l ≠ [] := fun e => by
  subst e
  exact absurd (of_decide_eq_true h) (by decide +kernel)
theorem tail_lt {l : Tl} (h : l ≠ []) : l.tail.length < l.length := by
  cases l with
  | nil => exact absurd rfl h
  | cons x l => exact Nat.lt_succ_self _
theorem dec_name : Dec rName := fun l R h => by
  unfold rName at h
  split at h
  · rename_i z
    cases h
    exact tail_lt (nonnil_N z)
  · cases h
theorem dec_exp (w : Str) : Dec (rExp w) := fun l R h => by
  unfold rExp at h
  split at h
  · rename_i z
    cases h
    exact tail_lt (nonnil_W z)
  · cases h
theorem Dec.and (hf : Dec f) (hg : Suf g) : Dec fun l => andR (f l) g := fun l R h => by
  obtain ⟨M, h1, h2⟩ := and_ok h
  exact Nat.lt_of_le_of_lt (hg _ _ h2).length_le (hf _ _ h1)
theorem suf_expr : Suf rExpr := fun l R h => by
  have h : rSum (l.length + 1) (if isW "-" l = true then l.tail else l) = .ok R := h
  split at h
  · exact (suf_sum _ _ _ h).trans (tail_suf l)
  · exact suf_sum _ _ _ h
theorem stop_expr : Stop rExpr := fun p => by
  have e : rExpr [badT p] = rSum 2 [badT p] := by
    show rSum 2 (if isW "-" [badT p] = true then _ else [badT p]) = _
    rw [isW_bad, if_neg (by decide)]
  rw [e]
  show andR (rTerm [badT p]) _ = _ ∨ andR (rTerm [badT p]) _ = _
  have e2 : rTerm [badT p] = .error (.syn p) := by
    rw [rTerm_eq, isN_bad, if_neg (by decide), kind_bad, if_neg (by decide +kernel)]
    rfl
  rw [e2]
  exact .inr rfl
theorem cut_expr : Cut rExpr := Cut.of stop_expr fun x P Q p R h1 h2 hP e => by
  have hx : Inn (x :: P) := fun k hk => by
    rcases List.mem_cons.mp hk with rfl | z
    · exact ⟨h1, h2⟩
    · exact hP k z
  have e : rSum ((P ++ Q).length + 1 + 1) (if isW "-" (x :: (P ++ Q)) = true then P ++ Q else x :: (P ++ Q)) = .ok R := e
  show CutE (x :: P) Q p R (rSum ((P ++ [badT p]).length + 1 + 1) (if isW "-" (x :: (P ++ [badT p])) = true then P ++ [badT p] else x :: (P ++ [badT p])))
  rw [isW_hd "-" x (P ++ [badT p]) (P ++ Q)]
  by_cases z : isW "-" (x :: (P ++ Q)) = true
  · rw [if_pos z] at e
    rw [if_pos z]
    exact (cut_sum P.length P Q p R _ _ (Nat.le_refl _) hP (by omega) (by rw [List.length_append]; omega) e).up (List.suffix_cons _ _)
  · rw [if_neg z] at e
    rw [if_neg z]
    exact cut_sum (P.length + 1) (x :: P) Q p R _ _ (Nat.le_refl _) hx (by show (P ++ Q).length + 1 + 1 ≤ _; omega) (by rw [List.length_append]; show P.length + 1 + 1 ≤ _; omega) e
theorem cut_arg : Cut rArg := Cut.tl (isW_hd _) (isW_bad _) cut_name cut_expr stop_expr
theorem stop_arg : Stop rArg := Stop.tl (isW_bad _) stop_expr
theorem suf_arg : Suf rArg := Suf.tl suf_name suf_expr
/-- a list in parentheses -/
theorem cut_list (hf : Cut f) (sf : Stop f) (uf : Suf f) : Cut fun l => if isW ")" l = true then (.ok l.tail : RdR) else andR (f l) fun l2 => andR (rMore f l2.length l2) (rExp ")") :=
  Cut.tl (f := fun l => .ok l) (isW_hd _) (isW_bad _) Cut.ok (hf.and ((cut_more (isW_hd _) (isW_bad _) hf uf).and (cut_exp _) (stop_exp _)) ((stop_more (isW_bad _)).and (stop_exp _))) (sf.and ((stop_more (isW_bad _)).and (stop_exp _)))
theorem stop_list (sf : Stop f) : Stop fun l => if isW ")" l = true then (.ok l.tail : RdR) else andR (f l) fun l2 => andR (rMore f l2.length l2) (rExp ")") := Stop.tl (f := fun l => .ok l) (isW_bad _) (sf.and ((stop_more (isW_bad _)).and (stop_exp _)))
theorem suf_list (uf : Suf f) : Suf fun l => if isW ")" l = true then (.ok l.tail : RdR) else andR (f l) fun l2 => andR (rMore f l2.length l2) (rExp ")") := Suf.tl (f := fun l => .ok l) Suf.ok (uf.and ((suf_more uf).and (suf_exp _)))
theorem cut_args : Cut rArgs := (cut_exp _).and (cut_list cut_arg stop_arg suf_arg) (stop_list stop_arg)
theorem stop_args : Stop rArgs := (stop_exp _).and (stop_list stop_arg)
theorem suf_args : Suf rArgs := (suf_exp _).and (suf_list suf_arg)
theorem stop_set : Stop rSet := fun p => by
  have e : rSet [badT p] = rExpr [badT p] := by
    show (if isW "?" [badT p] = true then _ else if (isN [badT p] && _) = true then _ else rExpr [badT p]) = _
    rw [isW_bad, if_neg (by decide), isN_bad, Bool.false_and, if_neg (by decide)]
  rw [e]
  exact stop_expr p
theorem suf_set : Suf rSet := fun l R h => by
  have h : (if isW "?" l = true then .ok l.tail else if (isN l && decide (textH l.tail = "(")) = true then andR (rName l) rArgs else rExpr l) = .ok R := h
  split at h
  · cases h; exact tail_suf l
  · split at h
    · exact (suf_name.and suf_args) _ _ h
    · exact suf_expr _ _ h
/-- a name alone ahead of the cut -/
theorem name_cut {x : TK} (h : x.1 = "name") (p : Nat) : rExpr [x, badT p] = .ok [badT p] := by
  have hw : isW "-" [x, badT p] = false := by
    show (decide (x.1 = "mark") && _) = false
    rw [h, decide_eq_false (by decide +kernel), Bool.false_and]
  have hn : isN [x, badT p] = true := decide_eq_true h
  show rSum 3 (if isW "-" [x, badT p] = true then _ else [x, badT p]) = _
  rw [hw, if_neg (by decide)]
  show andR (rTerm [x, badT p]) _ = _
  have e : rTerm [x, badT p] = .ok [badT p] := by
    rw [rTerm_eq, if_pos hn]
    rfl
  rw [e]
  show (if isW "+" [badT p] = true then rSum 2 [badT p].tail else if isW "-" [badT p] = true then rSum 2 [badT p].tail else (.ok [badT p] : RdR)) = _
  rw [isW_bad, isW_bad, if_neg (by decide), if_neg (by decide)]
theorem cut_set : Cut rSet := Cut.of stop_set fun x P Q p R h1 h2 hP e => by
  have hx : Inn (x :: P) := fun k hk => by
    rcases List.mem_cons.mp hk with rfl | z
    · exact ⟨h1, h2⟩
    · exact hP k z
  have e : (if isW "?" (x :: (P ++ Q)) = true then .ok (P ++ Q) else if (isN (x :: (P ++ Q)) && decide (textH (P ++ Q) = "(")) = true then andR (rName (x :: (P ++ Q))) rArgs else rExpr (x :: (P ++ Q))) = .ok R := e
  show CutE (x :: P) Q p R (if isW "?" (x :: (P ++ [badT p])) = true then .ok (P ++ [badT p]) else if (isN (x :: (P ++ [badT p])) && decide (textH (P ++ [badT p]) = "(")) = true then andR (rName (x :: (P ++ [badT p]))) rArgs else rExpr (x :: (P ++ [badT p])))
  rw [isW_hd "?" x (P ++ [badT p]) (P ++ Q), isN_hd x (P ++ [badT p]) (P ++ Q)]
  by_cases z : isW "?" (x :: (P ++ Q)) = true
  · rw [if_pos z] at e
    rw [if_pos z]
    cases e
    exact .inl ⟨P, rfl, List.suffix_cons _ _, rfl⟩
  · rw [if_neg z] at e
    rw [if_neg z]
    cases P with
    | nil =>
      have e0 : textH ([] ++ [badT p]) = "" := rfl
      rw [e0, decide_eq_false (show ¬ ("" : Str) = "(" by decide +kernel), Bool.and_false, if_neg (by decide)]
      by_cases hn : x.1 = "name"
      · rw [show rExpr (x :: ([] ++ [badT p])) = .ok [badT p] from name_cut hn p]
        exact .inr (.inl rfl)
      · have hn2 : isN (x :: ([] ++ Q)) = false := decide_eq_false hn
        rw [hn2, Bool.false_and, if_neg (by decide)] at e
        exact cut_expr [x] Q p R hx e
    | cons y P2 =>
      have et : textH (y :: P2 ++ [badT p]) = textH (y :: P2 ++ Q) := rfl
      rw [et]
      by_cases y2 : (isN (x :: (y :: P2 ++ Q)) && decide (textH (y :: P2 ++ Q) = "(")) = true
      · rw [if_pos y2] at e
        rw [if_pos y2]
        exact (cut_name.and cut_args stop_args) (x :: y :: P2) Q p R hx e
      · rw [if_neg y2] at e
        rw [if_neg y2]
        exact cut_expr (x :: y :: P2) Q p R hx e
theorem stop_ite {c : Tl → Bool} (cb : ∀ p, c [badT p] = false) (sg : Stop g) : Stop fun l => if c l = true then f l else g l := fun p => by
  show (if c [badT p] = true then _ else g [badT p]) = _ ∨ (if c [badT p] = true then _ else g [badT p]) = _
  rw [cb p, if_neg (by decide)]
  exact sg p
theorem cut_action : Cut rAction := cut_name.and (Cut.ite (isW_hd _) cut_args ((cut_exp _).and cut_set stop_set) (stop_ite (isW_bad _) ((stop_exp _).and stop_set))) (stop_ite (isW_bad _) ((stop_exp _).and stop_set))
theorem stop_action : Stop rAction := stop_name.and (stop_ite (isW_bad _) ((stop_exp _).and stop_set))
theorem suf_action2 : Suf fun l1 => if isW "(" l1 = true then rArgs l1 else andR (rExp "=" l1) rSet := suf_ite suf_args ((suf_exp _).and suf_set)
theorem suf_action : Suf rAction := suf_name.and suf_action2
theorem dec_action : Dec rAction := dec_name.and suf_action2
/-- all that is known of a part of the Reader -/
structure Rd3 (f : Tl → RdR) : Prop where
  c : Cut f
  s : Stop f
  u : Suf f
theorem hand3 (h : Rd3 blk) : Rd3 (rHand blk) := ⟨cut_names.and h.c h.s, stop_names.and h.s, suf_names.and h.u⟩
theorem Rd3.opt {w : Str} (h : Rd3 f) : Rd3 fun l => if isW w l = true then f l.tail else .ok l := ⟨Cut.tl (isW_hd _) (isW_bad _) h.c Cut.ok Stop.ok, Stop.tl (isW_bad _) Stop.ok, Suf.tl h.u Suf.ok⟩
theorem Rd3.and (h : Rd3 f) (k : Rd3 g) : Rd3 fun l => andR (f l) g := ⟨h.c.and k.c k.s, h.s.and k.s, h.u.and k.u⟩
theorem Rd3.tl {w : Str} (h : Rd3 f) (k : Rd3 g) : Rd3 fun l => if isW w l = true then f l.tail else g l := ⟨Cut.tl (isW_hd _) (isW_bad _) h.c k.c k.s, Stop.tl (isW_bad _) k.s, Suf.tl h.u k.u⟩
theorem exp3 (w : Str) : Rd3 (rExp w) := ⟨cut_exp w, stop_exp w, suf_exp w⟩
theorem name3 : Rd3 rName := ⟨cut_name, stop_name, suf_name⟩
theorem names3 : Rd3 rNames := ⟨cut_names, stop_names, suf_names⟩
theorem args3 : Rd3 rArgs := ⟨cut_args, stop_args, suf_args⟩
theorem expr3 : Rd3 rExpr := ⟨cut_expr, stop_expr, suf_expr⟩
theorem row3 : Rd3 rRow := ⟨cut_row, stop_row, suf_row⟩
theorem more3 {w : Str} (h : Rd3 f) : Rd3 fun l => rLoop (isW w) f l.length l := ⟨cut_more (isW_hd _) (isW_bad _) h.c h.u, stop_more (isW_bad _), suf_more h.u⟩
theorem try3 (h : Rd3 blk) : Rd3 (rTry blk) := h.and (Rd3.tl ((hand3 h).and ((more3 (hand3 h)).and (Rd3.opt h))) ((exp3 _).and h))
theorem with3 (h : Rd3 blk) : Rd3 (rWith blk) := name3.and (args3.and ((exp3 _).and (name3.and (args3.and ((Rd3.opt names3).and h)))))
theorem stmt3 (h : Rd3 blk) : Rd3 (rStmt blk) := by
  have k : Rd3 fun l => if isW "if" l = true then andR (blk l.tail) (fun l1 => if isW "else" l1 = true then blk l1.tail else .ok l1) else if isW "while" l = true then blk l.tail else if isW "risk" l = true then rNames l.tail else if isW "raise" l = true then rName l.tail else if isW "try" l = true then rTry blk l.tail else if isW "undo" l = true then andR (rNames l.tail) blk else if isW "with" l = true then rWith blk l.tail else andR (rExp "return" l) rExpr :=
    Rd3.tl (f := fun l => andR (blk l) fun l1 => if isW "else" l1 = true then blk l1.tail else .ok l1) (h.and (Rd3.opt h)) (Rd3.tl h (Rd3.tl names3 (Rd3.tl name3 (Rd3.tl (try3 h) (Rd3.tl (f := fun l => andR (rNames l) blk) (names3.and h) (Rd3.tl (with3 h) ((exp3 _).and expr3)))))))
  exact ⟨Cut.ite isN_hd cut_action k.c (stop_ite isN_bad k.s), stop_ite isN_bad k.s, suf_ite suf_action k.u⟩
theorem stmt_bad (p : Nat) : rStmt blk [badT p] = .error (.syn p) := by
  unfold rStmt
  simp only [isN_bad, isW_bad, Bool.false_eq_true, if_false]
  show andR (rExp "return" [badT p]) rExpr = _
  unfold rExp
  rw [isW_bad, if_neg (by decide)]
  rfl
theorem dec_tl {w : Str} {l R : Tl} (z : isW w l = true) (s : R <:+ l.tail) : R.length < l.length := Nat.lt_of_le_of_lt s.length_le (tail_lt (nonnil_W z))
theorem dec_stmt (h : Rd3 blk) : Dec (rStmt blk) := fun l R e => by
  unfold rStmt at e
  split at e
  · exact dec_action _ _ e
  · split at e
    · rename_i z; exact dec_tl z ((h.and (Rd3.opt h)).u _ _ e)
    · split at e
      · rename_i z; exact dec_tl z (h.u _ _ e)
      · split at e
        · rename_i z; exact dec_tl z (suf_names _ _ e)
        · split at e
          · rename_i z; exact dec_tl z (suf_name _ _ e)
          · split at e
            · rename_i z; exact dec_tl z ((try3 h).u _ _ e)
            · split at e
              · rename_i z; exact dec_tl z ((names3.and h).u _ _ e)
              · split at e
                · rename_i z; exact dec_tl z ((with3 h).u _ _ e)
                · exact ((dec_exp _).and suf_expr) _ _ e
theorem suf_stmts (h : Rd3 blk) : ∀ n, Suf (rStmts blk n)
  | 0 => Suf.ok
  | n + 1 => fun l R e => by
    have e : (if isW "}" l = true then .ok l.tail else andR (rStmt blk l) (rStmts blk n)) = .ok R := e
    split at e
    · cases e; exact tail_suf l
    · obtain ⟨M, h1, h2⟩ := and_ok e
      exact (suf_stmts h n _ _ h2).trans ((stmt3 h).u _ _ h1)
theorem stop_stmts (n p : Nat) : rStmts blk (n + 1) [badT p] = .error (.syn p) := by
  show (if isW "}" [badT p] = true then _ else andR (rStmt blk [badT p]) (rStmts blk n)) = _
  rw [isW_bad, if_neg (by decide), stmt_bad]
  rfl
theorem cut_stmts (h : Rd3 blk) : ∀ (k : Nat) (P Q : Tl) (p : Nat) (R : Tl) (n m : Nat), P.length ≤ k → Inn P → (P ++ Q).length + 1 ≤ n → P.length + 1 + 1 ≤ m → rStmts blk n (P ++ Q) = .ok R → CutE P Q p R (rStmts blk m (P ++ [badT p]))
  | k, [], Q, p, R, n, m, _, _, _, hm, _ => by
    obtain ⟨m, rfl⟩ : ∃ m', m = m' + 1 := ⟨m - 1, by omega⟩
    exact .inr (.inr (stop_stmts m p))
  | 0, x :: P, Q, p, R, n, m, hk, _, _, _, _ => absurd hk (Nat.not_succ_le_zero _)
  | k + 1, x :: P, Q, p, R, n, m, hk, hP, hn, hm, e => by
    have hk : P.length + 1 ≤ k + 1 := hk
    have hn : (P ++ Q).length + 1 + 1 ≤ n := hn
    have hm : P.length + 1 + 1 + 1 ≤ m := hm
    obtain ⟨n, rfl⟩ : ∃ n', n = n' + 1 := ⟨n - 1, by omega⟩
    obtain ⟨m, rfl⟩ : ∃ m', m = m' + 1 := ⟨m - 1, by omega⟩
    have e : (if isW "}" (x :: (P ++ Q)) = true then .ok (P ++ Q) else andR (rStmt blk (x :: (P ++ Q))) (rStmts blk n)) = .ok R := e
    show CutE (x :: P) Q p R (if isW "}" (x :: (P ++ [badT p])) = true then .ok (P ++ [badT p]) else andR (rStmt blk (x :: (P ++ [badT p]))) (rStmts blk m))
    rw [isW_hd "}" x (P ++ [badT p]) (P ++ Q)]
    by_cases z : isW "}" (x :: (P ++ Q)) = true
    · rw [if_pos z] at e
      rw [if_pos z]
      cases e
      exact .inl ⟨P, rfl, List.suffix_cons _ _, rfl⟩
    · rw [if_neg z] at e
      rw [if_neg z]
      obtain ⟨M, h1, h2⟩ := and_ok e
      have hd := dec_stmt h _ _ h1
      have hd : M.length < (P ++ Q).length + 1 := hd
      have key := (stmt3 h).c (x :: P) Q p M hP h1
      have hl : ∀ R', rStmt blk (x :: (P ++ [badT p])) = .ok R' → R'.length < (P ++ [badT p]).length + 1 := fun R' e => dec_stmt h _ _ e
      have key : CutE (x :: P) Q p M (rStmt blk (x :: (P ++ [badT p]))) := key
      rcases key with ⟨P', rfl, s, e2⟩ | e2 | e2
      · have hl2 := hl _ e2
        rw [e2]
        rw [List.length_append, List.length_append] at hl2
        rw [List.length_append] at hd
        refine (cut_stmts h k P' Q p R n m (by omega) (hP.suf s) (by rw [List.length_append] at hn ⊢; omega) (by omega) h2).up s
      · rw [e2]
        obtain ⟨m, rfl⟩ : ∃ m', m = m' + 1 := ⟨m - 1, by omega⟩
        exact .inr (.inr (stop_stmts m p))
      · rw [e2]
        exact .inr (.inr rfl)
theorem block3 : ∀ m, Rd3 (rBlock m)
  | 0 => by
    refine ⟨fun P Q p R _ e => ?_, fun p => ?_, fun l R e => ?_⟩
    · have e : (if isW "{" (P ++ Q) = true then .error (.large "nesting") else synE (P ++ Q)) = .ok R := e
      split at e <;> cases e
    · show (if isW "{" [badT p] = true then .error (.large "nesting") else synE [badT p]) = _ ∨ (if isW "{" [badT p] = true then .error (.large "nesting") else synE [badT p]) = _
      rw [isW_bad, if_neg (by decide)]
      exact .inr rfl
    · have e : (if isW "{" l = true then .error (.large "nesting") else synE l) = .ok R := e
      split at e <;> cases e
  | m + 1 => (exp3 "{").and (g := fun l1 => rStmts (rBlock m) (l1.length + 1) l1) ⟨fun P Q p R hP e => cut_stmts (block3 m) P.length P Q p R _ _ (Nat.le_refl _) hP (Nat.le_refl _) (by rw [List.length_append]; exact Nat.le_refl _) e, fun p => .inr (stop_stmts _ p), fun l R e => suf_stmts (block3 m) _ l R e⟩
theorem param3 : Rd3 rParam := by
  have h : Rd3 fun l => if isW "&" l = true then rName l.tail else rName l := Rd3.tl name3 name3
  have e : rParam = fun l => if isW "&" l = true then rName l.tail else rName l := funext fun l => by
    unfold rParam
    split <;> rfl
  rw [e]
  exact h
theorem function3 : Rd3 rFunction := name3.and ((exp3 _).and (Rd3.and (f := fun l2 => if isW ")" l2 = true then (.ok l2.tail : RdR) else andR (rParam l2) fun l3 => andR (rMore rParam l3.length l3) (rExp ")")) ⟨cut_list param3.c param3.s param3.u, stop_list param3.s, suf_list param3.u⟩ (block3 30)))
/-- the end of a text -/
theorem end_cut : Cut fun l4 => if kindH l4 = "end" then (.ok l4 : RdR) else synE l4 := fun P Q p R hP e => by
  cases P with
  | nil => exact .inr (.inr rfl)
  | cons x P =>
    have e : (if x.1 = "end" then (.ok (x :: (P ++ Q)) : RdR) else synE (x :: (P ++ Q))) = .ok R := e
    rw [if_neg (hP x List.mem_cons_self).1] at e
    cases e
theorem end_bad (p : Nat) : (if kindH [badT p] = "end" then (.ok [badT p] : RdR) else synE [badT p]) = .error (.syn p) := rfl
/-- a text that is cut is read up to the cut -/
theorem prog_cut {P Q : Tl} {R : Tl} (hP : Inn P) (h : rProgram (P ++ Q) = .ok R) (p : Nat) : rProgram (P ++ [badT p]) = .error (.syn p) := by
  have e3 : Rd3 fun l4 => if kindH l4 = "end" then (.ok l4 : RdR) else synE l4 := ⟨end_cut, fun p => .inr (end_bad p), fun l R e => by
    have e : (if kindH l = "end" then (.ok l : RdR) else synE l) = .ok R := e
    split at e
    · cases e; exact List.suffix_refl _
    · cases e⟩
  have c := ((Rd3.opt (w := "globals") row3).and ((Rd3.opt (w := "kinds") row3).and ((more3 (w := "keep") expr3).and ((more3 (w := "def") function3).and e3)))).c P Q p R hP h
  have fin : ∀ l, rProgram l = .ok l → False ∨ kindH l = "end" := fun l e => .inr (by
    obtain ⟨M, _, h2⟩ := and_ok e
    obtain ⟨M2, _, h3⟩ := and_ok h2
    obtain ⟨M3, _, h4⟩ := and_ok h3
    obtain ⟨M4, _, h5⟩ := and_ok h4
    split at h5
    · rename_i z
      cases h5
      exact z
    · cases h5)
  have kend : ∀ l R, rProgram l = .ok R → kindH R = "end" := fun l R e => by
    obtain ⟨M, _, h2⟩ := and_ok e
    obtain ⟨M2, _, h3⟩ := and_ok h2
    obtain ⟨M3, _, h4⟩ := and_ok h3
    obtain ⟨M4, _, h5⟩ := and_ok h4
    split at h5
    · rename_i z
      cases h5
      exact z
    · cases h5
  rcases c with ⟨P', _, s, e⟩ | e | e
  · have := kend _ _ e
    cases P' with
    | nil => exact absurd this (by rw [List.nil_append, kind_bad]; decide +kernel)
    | cons y P2 => exact absurd this ((hP.suf s) y List.mem_cons_self).1
  · exact absurd (kend _ _ e) (by rw [kind_bad]; decide +kernel)
  · exact e
end

/-! ### k05: the Reader with its errors -/
abbrev sRExp : Stmt := inClass (topS 16) 4
abbrev NRExp : List Str := ["self", "word"]
abbrev PRExp : List Str := ["self", "word"]
theorem scRExp : FnScope NRExp PRExp (defScope sRExp) := ⟨rfl, rfl, rfl, by decide +kernel, rfl, by decide +kernel, by decide +kernel⟩
/-- the last token alone is an end -/
def EndT (l : Tl) : Prop := ∃ (P : Tl) (k : TK), l = P ++ [k] ∧ Inn P ∧ (k.1 = "end" ∨ k.1 = "bad")
theorem EndT.ne {l : Tl} (h : EndT l) : ∃ x r, l = x :: r := by
  obtain ⟨P, k, rfl, _⟩ := h
  cases P with
  | nil => exact ⟨k, [], rfl⟩
  | cons x P => exact ⟨x, P ++ [k], rfl⟩
theorem EndT.tl {x : TK} {r : Tl} (h : EndT (x :: r)) (h1 : x.1 ≠ "end") (h2 : x.1 ≠ "bad") : EndT r := by
  obtain ⟨P, k, e, hP, hk⟩ := h
  cases P with
  | nil =>
    injection e with e1 e2
    rw [e1] at h1 h2
    rcases hk with z | z
    · exact absurd z h1
    · exact absurd z h2
  | cons y P =>
    injection e with e1 e2
    exact ⟨P, k, e2, fun z hz => hP z (List.mem_cons_of_mem _ hz), hk⟩
theorem EndT.w {l : Tl} {w : Str} (h : EndT l) (z : isW w l = true) : EndT l.tail := by
  obtain ⟨x, r, rfl⟩ := h.ne
  have e : x.1 = "mark" := of_decide_eq_true (Bool.and_eq_true_iff.mp z).1
  exact h.tl (by rw [e]; decide +kernel) (by rw [e]; decide +kernel)
theorem EndT.n {l : Tl} (h : EndT l) (z : isN l = true) : EndT l.tail := by
  obtain ⟨x, r, rfl⟩ := h.ne
  have e : x.1 = "name" := of_decide_eq_true z
  exact h.tl (by rw [e]; decide +kernel) (by rw [e]; decide +kernel)
/-- a name among the tokens -/
def NmIn (ts : Tl) (x : Str) : Prop := ∃ k ∈ ts, k.1 = "name" ∧ k.2.1 = x
/-- tokens that the Reader takes: few names, numbers that int reads -/
structure TsOk (ts : Tl) : Prop where
  len : ts.length ≤ 1000001
  nm : ∃ W : List Str, W.length < 50 ∧ ∀ x, NmIn ts x → x ∈ W
  nb : ∀ k ∈ ts, k.1 = "number" → k.2.1.length ≤ 1000000 ∧ (k.2.1.length ≤ 12 → ∃ n, PySem.intText? k.2.1 = some n)
/-- a reader ahead of the tokens l -/
def RdG (C : Addr) (H : Hp) (S L : Addr) (d : Nat) (ts l : Tl) : Prop := ∃ i : Nat, RdAt C H S L i d ts ∧ ts.drop i = l ∧ EndT l ∧ TsOk ts
/-- an error is raised -/
def ErK (CS CT S : Addr) (H : Hp) (E : XK) : RdE → Prop
  | .syn p => ∀ d' H', Bt S H H' → H' d' = none → E (.ref CS) (some d') (upd H' d' (.xd [("position", .int (p : Nat))]))
  | .large w => ∀ d' H', Bt S H H' → H' d' = none → E (.ref CT) (some d') (upd H' d' (.xd [("word", .str w)]))
theorem ErK.bt {CS CT S : Addr} {H H' : Hp} {E : XK} {e : RdE} (b : Bt S H H') (h : ErK CS CT S H E e) : ErK CS CT S H' E e := by
  cases e with
  | syn p => exact fun d' H2 b2 n => h d' H2 (b.trans b2) n
  | large w => exact fun d' H2 b2 n => h d' H2 (b.trans b2) n
section
variable {C S L : Addr} {H H' : Hp} {d : Nat} {ts l : Tl}
theorem RdG.same (h : RdG C H S L d ts l) (s : Same H H') : RdG C H' S L d ts l := let ⟨i, a, b⟩ := h; ⟨i, a.same s, b⟩
theorem RdG.tok (h : RdG C H S L d ts l) : ∃ (i : Nat) (x : TK) (r : Tl), l = x :: r ∧ RdAt C H S L i d ts ∧ ts[i]? = some x ∧ ts.drop (i + 1) = r := by
  obtain ⟨i, h1, h2, h3, _⟩ := h
  obtain ⟨x, r, rfl⟩ := h3.ne
  have hl : i < ts.length := by
    rcases Nat.lt_or_ge i ts.length with z | z
    · exact z
    · rw [List.drop_of_length_le z] at h2; cases h2
  rw [List.drop_eq_getElem_cons hl] at h2
  injection h2 with e1 e2
  exact ⟨i, x, r, rfl, h1, by rw [List.getElem?_eq_getElem hl, e1], e2⟩
theorem RdG.len (h : RdG C H S L d ts l) : l.length ≤ 1000001 := by
  obtain ⟨i, _, rfl, _, h4⟩ := h
  rw [List.length_drop]
  have := h4.len
  omega
theorem RdG.ins (h : RdG C H S L d ts l) : ∃ dx i, H S = some (.ins C dx (rdF L i d)) := by
  obtain ⟨i, ⟨dx, xs, e, _⟩, _⟩ := h
  exact ⟨dx, i, e⟩
end
def spCurG (C : Addr) : Sp := fun vs H Q _ => ∃ (S L : Addr) (d : Nat) (ts l : Tl), vs = [.ref S] ∧ RdG C H S L d ts l ∧ ∀ p, H p = some (.tup [.str (kindH l), .str (textH l), .int (posH l : Nat)]) → Q (.ref p) H
def spNxtG (C : Addr) : Sp := fun vs H Q _ => ∃ (S L : Addr) (d : Nat) (ts l : Tl) (wd : Str), vs = [.ref S, .str wd] ∧ RdG C H S L d ts l ∧ Q (.bl (isW wd l)) H
def spAccG (C : Addr) : Sp := fun vs H Q _ => ∃ (S L : Addr) (d : Nat) (ts l : Tl) (wd : Str), vs = [.ref S, .str wd] ∧ RdG C H S L d ts l ∧ (isW wd l = false → Q (.bl false) H) ∧ (isW wd l = true → ∀ H', Bt S H H' → RdG C H' S L d ts l.tail → Q (.bl true) H')
/-- what a part of the Reader does: it reads on, or raises -/
def spRd (CS CT C : Addr) (r : Tl → RdR) : Sp := fun vs H Q E => ∃ (S L : Addr) (d : Nat) (ts l : Tl), vs = [.ref S] ∧ RdG C H S L d ts l ∧ (∀ l', r l = .ok l' → ∀ (v : V) (H' : Hp), Bt S H H' → RdG C H' S L d ts l' → Q v H') ∧ ∀ e, r l = .error e → ErK CS CT S H E e
def spRdN (CS CT C : Addr) (r : Tl → RdR) : Sp := fun vs H Q E => ∃ (S L : Addr) (d : Nat) (ts l : Tl), vs = [.ref S] ∧ RdG C H S L d ts l ∧ (∀ l', r l = .ok l' → ∀ (H' : Hp), Bt S H H' → RdG C H' S L d ts l' → Q (.str (textH l)) H') ∧ ∀ e, r l = .error e → ErK CS CT S H E e
def spExpG (CS CT C : Addr) : Sp := fun vs H Q E => ∃ (S L : Addr) (d : Nat) (ts l : Tl) (wd : Str), vs = [.ref S, .str wd] ∧ RdG C H S L d ts l ∧ (∀ l', rExp wd l = .ok l' → ∀ (H' : Hp), Bt S H H' → RdG C H' S L d ts l' → Q .non H') ∧ ∀ e, rExp wd l = .error e → ErK CS CT S H E e
section
variable {P : Program} {w : World} {K : PySem.W.Frag} {mg : Str → Option Value} {base : Heap} {C CS CT : Addr} {C' : Nat → Addr}
theorem HasM.imp {CX : CXT} {k : Nat} {m : Str} {ps : List Str} {sp sp' : Sp} (M : HasM P w K mg base CX k C m ps sp) (h : ∀ vs H Q E, sp' vs H Q E → sp vs H Q E) : HasM P w K mg base CX k C m ps sp' :=
  let ⟨f, fd, a, F, b⟩ := M.ex
  ⟨f, fd, a, ⟨fun vs H Q E q => F.len vs H Q E (h _ _ _ _ q), fun A outer s H a us vs Q E hr e0 b r q => F.run A outer s H a us vs Q E hr e0 b r (h _ _ _ _ q)⟩, b⟩
theorem cur_G (M : HasM P w K mg base CX0 1 C "current" PRCur (spCurr C)) : HasM P w K mg base CX0 1 C "current" PRCur (spCurG C) := M.imp fun vs H Q E h => by
  obtain ⟨S, L, d, ts, l, rfl, h, k⟩ := h
  obtain ⟨i, x, r, rfl, ra, ht, _⟩ := h.tok
  exact ⟨S, L, i, d, ts, x, rfl, ra, ht, k⟩
theorem nxt_G (M : HasM P w K mg base CX0 2 C "is_next" PRNext (spNext C)) : HasM P w K mg base CX0 2 C "is_next" PRNext (spNxtG C) := M.imp fun vs H Q E h => by
  obtain ⟨S, L, d, ts, l, wd, rfl, h, k⟩ := h
  obtain ⟨i, x, r, rfl, ra, ht, _⟩ := h.tok
  exact ⟨S, L, i, d, ts, x, wd, rfl, ra, ht, k⟩
theorem acc_G (M : HasM P w K mg base CX0 3 C "accept" PRAcc (spAcc C)) : HasM P w K mg base CX0 3 C "accept" PRAcc (spAccG C) := M.imp fun vs H Q E h => by
  obtain ⟨S, L, d, ts, l, wd, rfl, h, k1, k2⟩ := h
  have he : EndT l ∧ TsOk ts := let ⟨_, _, _, e⟩ := h; e
  obtain ⟨i, x, r, rfl, ra, ht, hd⟩ := h.tok
  refine ⟨S, L, i, d, ts, x, wd, rfl, ra, ht, ?_⟩
  have e : isMark x wd = isW wd (x :: r) := rfl
  rw [e]
  cases hz : isW wd (x :: r) with
  | false => exact .inl ⟨rfl, k1 hz⟩
  | true => exact .inr ⟨rfl, fun H' b ra' => k2 hz H' b ⟨_, ra', hd, he.1.w hz, he.2⟩⟩
theorem ok_RExpG {f : Addr} {fd : FuncData} (F : Fun K "expect" "Reader.expect" sRExp f fd) (TR : TxR K C) (X : ErrH P w K mg base C') (MC : HasM P w K mg base CX0 1 C "current" PRCur (spCurG C)) (MA : HasM P w K mg base CX0 3 C "accept" PRAcc (spAccG C)) : FnOk P w K mg base (L2N.CX P w) 4 f fd PRExp (spExpG (C' 1) CT C) := by
  refine Fun.okN F scRExp (fun vs H Q E h => ?_) (fun cdv A outer s H vs Q E hr h => ?_)
  · obtain ⟨S, L, d, ts, l, wd, rfl, _⟩ := h
    rfl
  · obtain ⟨S, L, d, ts, l, wd, rfl, rg, k1, k2⟩ := h
    have hr1 := hr.mono (j := 1) (by decide)
    have hr3 := hr.mono (j := 3) (by decide)
    obtain ⟨dx, i, eS⟩ := rg.ins
    have tk := L2N.takes_of (X := cxOf (L2N.CX P w) P w K mg base NRExp "Reader.expect" (defScope sRExp) f cdv A outer s H E) (E := E) rfl rfl rfl rfl
    refine ⟨_, (pss_one (ps_if (pt_not (pt_val (pe_methH (pv 0) TR.cl MA hr3 pass0 (pa_cons (pv 1) pa_nil))))
  (pss_one (ps_raiseX rfl tk X.h1 (hr.mono (by decide)) rfl (pa_cons (pe_ix (r := rIxT K) ix_tup (pe_methH0 (pv 0) TR.cl MC hr1 pass0) pe_int (fun _ _ => rfl)) pa_nil)))
  pss_nil)), ?_⟩
    refine ⟨_, rfl, S, dx, _, rfl, eS, rfl, _, rfl, S, L, d, ts, l, wd, rfl, rg, fun hz => ⟨false, rfl, iteT ?_⟩, fun hz H1 b1 rg1 => ⟨true, rfl, iteF ?_⟩⟩
    · refine ⟨_, rfl, S, dx, _, rfl, eS, rfl, S, L, d, ts, l, rfl, rg, fun p hp => ⟨p, _, _, _, rfl, rfl, SqT.of hp, rfl, ?_⟩⟩
      exact ⟨_, rfl, fun d' hd => k2 (.syn (posH l)) (if_neg (by rw [hz]; decide)) d' H Bt.refl hd⟩
    · exact k1 l.tail (if_pos hz) H1 b1 rg1
theorem ok_RNameG {f : Addr} {fd : FuncData} (F : Fun K "read_name" "Reader.read_name" sRName f fd) (TR : TxR K C) (X : ErrH P w K mg base C') (MC : HasM P w K mg base CX0 1 C "current" PRCur (spCurG C)) : FnOk P w K mg base (L2N.CX P w) 3 f fd PRName (spRdN (C' 1) CT C rName) := by
  refine Fun.okN F scRName (fun vs H Q E h => ?_) (fun cdv A outer s H vs Q E hr h => ?_)
  · obtain ⟨S, L, d, ts, l, rfl, _⟩ := h
    rfl
  · obtain ⟨S, L, d, ts, l, rfl, rg, k1, k2⟩ := h
    have hr1 := hr.mono (j := 1) (by decide)
    obtain ⟨dx, i, eS⟩ := rg.ins
    have tk := L2N.takes_of (X := cxOf (L2N.CX P w) P w K mg base NRName "Reader.read_name" (defScope sRName) f cdv A outer s H E) (E := E) rfl rfl rfl rfl
    refine ⟨_, (pss_cons (ps_set (i := 1) scRName.nd rfl (Or.inl rfl) (pe_methH0 (pv 0) TR.cl MC hr1 pass0))
  (pss_cons (ps_if (pt_cmpR op_ne (pe_ix (r := rIxT K) ix_tup (pv 1) pe_int (fun _ _ => rfl)) pe_str (nomark _))
  (pss_one (ps_raiseX rfl tk X.h1 (hr.mono (by decide)) rfl (pa_cons (pe_ix (r := rIxT K) ix_tup (pv 1) pe_int (fun _ _ => rfl)) pa_nil)))
  pss_nil)
  (pss_cons (ps_fldaug (pv 0) pe_int in_add)
  (pss_one (ps_ret (pe_ix (r := rIxT K) ix_tup (pv 1) pe_int (fun _ _ => rfl))))))), ?_⟩
    refine ⟨_, rfl, S, dx, _, rfl, eS, rfl, S, L, d, ts, l, rfl, rg, fun p hp => ?_⟩
    have hE : EndT l ∧ TsOk ts := let ⟨_, _, _, e⟩ := rg; e
    obtain ⟨i1, x, r, el, ra, ht, hd⟩ := rg.tok
    obtain ⟨dx1, xs, e1, _⟩ := id ra
    rw [el] at hp
    have hp : H p = some (.tup [.str x.1, .str x.2.1, .int (x.2.2 : Nat)]) := hp
    by_cases hn : x.1 = "name"
    · refine ⟨_, rfl, p, _, _, _, rfl, rfl, SqT.of hp, rfl, rfl, _, rfl, iteE (by rw [dec_str, decide_eq_true hn]; rfl) ?_⟩
      refine ⟨_, rfl, S, C, dx1, _, _, rfl, e1, TR.cl, TR.nI, rfl, _, _, rfl, rfl, dx1, _, e1, (by show 3 < 1000; decide), ?_⟩
      have e : putF "index_of_token" (.int (((i1 : Nat) : Int) + 1)) (rdF L i1 d) = rdF L (i1 + 1) d := putF_ix L i1 (i1 + 1) d
      rw [e]
      have hz : isN l = true := by rw [el]; exact decide_eq_true hn
      have k1 := k1 l.tail (if_pos hz) _ bt_upd ⟨i1 + 1, ra.step (dx := dx1), by rw [hd, el]; rfl, hE.1.n hz, hE.2⟩
      rw [el] at k1
      exact ⟨_, rfl, p, _, _, _, rfl, rfl, SqT.of (by rw [upd_ne (ne_of hp e1 fun z => by cases z)]; exact hp), rfl, k1⟩
    · refine ⟨_, rfl, p, _, _, _, rfl, rfl, SqT.of hp, rfl, rfl, _, rfl, iteS (by rw [dec_str, decide_eq_false hn]; rfl) ?_⟩
      have hz : ¬ isN l = true := by rw [el]; exact fun z => hn (of_decide_eq_true z)
      have k2 := k2 (.syn (posH l)) (if_neg hz)
      rw [el] at k2
      exact ⟨_, rfl, p, _, _, _, rfl, rfl, SqT.of hp, rfl, _, rfl, fun d' hd' => k2 d' H Bt.refl hd'⟩
end

/-! ### k05: names in a list, in a row -/
abbrev sRNms : Stmt := inClass (topS 16) 6
abbrev NRNms : List Str := ["self", "names"]
abbrev PRNms : List Str := ["self"]
theorem scRNms : FnScope NRNms PRNms (defScope sRNms) := ⟨rfl, rfl, rfl, by decide +kernel, rfl, by decide +kernel, by decide +kernel⟩
section
variable {f g : Tl → RdR}
theorem loop_fuel {c : Tl → Bool} (hf : Suf f) (cn : c [] = false) : ∀ (k : Nat) (l : Tl) (n : Nat), l.length ≤ k → l.length ≤ n → rLoop c f n l = rLoop c f l.length l
  | k, [], n, _, _ => by
    cases n with
    | zero => rfl
    | succ n =>
      show (if c [] = true then _ else _) = _
      rw [cn, if_neg (by decide)]
      rfl
  | 0, x :: r, n, hk, _ => absurd hk (Nat.not_succ_le_zero _)
  | k + 1, x :: r, n, hk, hn => by
    have hk : r.length + 1 ≤ k + 1 := hk
    have hn : r.length + 1 ≤ n := hn
    obtain ⟨n, rfl⟩ : ∃ n', n = n' + 1 := ⟨n - 1, by omega⟩
    show (if c (x :: r) = true then andR (f r) (rLoop c f n) else .ok (x :: r)) = (if c (x :: r) = true then andR (f r) (rLoop c f r.length) else .ok (x :: r))
    by_cases z : c (x :: r) = true
    · rw [if_pos z, if_pos z]
      cases hfr : f r with
      | error e => rfl
      | ok M =>
        have := (hf _ _ hfr).length_le
        show rLoop c f n M = rLoop c f r.length M
        rw [loop_fuel hf cn k M n (by omega) (by omega), loop_fuel hf cn k M r.length (by omega) (by omega)]
    · rw [if_neg z, if_neg z]
/-- a loop, unrolled -/
theorem loop_eq {c : Tl → Bool} (hf : Suf f) (cn : c [] = false) (l : Tl) : rLoop c f l.length l = if c l = true then andR (f l.tail) fun l1 => rLoop c f l1.length l1 else .ok l := by
  cases l with
  | nil =>
    show (.ok [] : RdR) = _
    rw [cn, if_neg (by decide)]
  | cons x r =>
    show (if c (x :: r) = true then andR (f r) (rLoop c f r.length) else .ok (x :: r)) = (if c (x :: r) = true then andR (f r) _ else .ok (x :: r))
    by_cases z : c (x :: r) = true
    · rw [if_pos z, if_pos z]
      cases hfr : f r with
      | error e => rfl
      | ok M => exact loop_fuel hf cn M.length M _ (Nat.le_refl _) (hf _ _ hfr).length_le
    · rw [if_neg z, if_neg z]
end
section
variable {C S L X : Addr} {H H' H1 : Hp} {d : Nat} {ts l : Tl}
/-- a list of the reader's own -/
theorem RdG.ne (h : RdG C H S L d ts l) (n : H X = none) : X ≠ S ∧ X ≠ L := by
  obtain ⟨i, ⟨dx, xs, e1, e2, _⟩, _⟩ := h
  exact ⟨(ne_of_none e1 n).symm, (ne_of_none e2 n).symm⟩
theorem RdG.own {xs : List V} {o : HO} (h : RdG C H S L d ts l) (e : H X = some (.lst xs)) (n1 : X ≠ S) (n2 : X ≠ L) : RdG C (upd H X o) S L d ts l := by
  obtain ⟨i, ⟨dy, ys, y1, y2, y3⟩, z⟩ := h
  exact ⟨i, ⟨dy, ys, by rw [upd_ne n1.symm]; exact y1, by rw [upd_ne n2.symm]; exact y2, Paired.mapP y3 fun _ _ q => q.same fun b zs eb => by rw [upd_ne (ne_of eb e (by intro z; cases z))]; exact eb⟩, z⟩
end
structure TxTup (mg : Str → Option Value) : Prop where
  n_tuple : mg "tuple" = none
section
variable {P : Program} {w : World} {K : PySem.W.Frag} {mg : Str → Option Value} {base : Heap} {C CS CT : Addr}
theorem ok_RNmsG {f : Addr} {fd : FuncData} (F : Fun K "read_names" "Reader.read_names" sRNms f fd) (T : mg "tuple" = none) (TR : TxR K C) (MA : HasM P w K mg base CX0 3 C "accept" PRAcc (spAccG C)) (MN : HasM P w K mg base (L2N.CX P w) 3 C "read_name" PRName (spRdN CS CT C rName)) : FnOk P w K mg base (L2N.CX P w) 4 f fd PRNms (spRd CS CT C rNames) := by
  refine Fun.okN F scRNms (fun vs H Q E h => ?_) (fun cdv A outer s H vs Q E hr h => ?_)
  · obtain ⟨S, L, d, ts, l, rfl, _⟩ := h
    rfl
  · obtain ⟨S, L, d, ts, l, rfl, rg, k1, k2⟩ := h
    obtain ⟨dx, i, eS⟩ := rg.ins
    have tk := L2N.takes_of (X := cxOf (L2N.CX P w) P w K mg base NRNms "Reader.read_names" (defScope sRNms) f cdv A outer s H E) (E := E) rfl rfl rfl rfl
    have T : TxTup mg := ⟨T⟩
    refine ⟨_, (pss_cons (ps_set (i := 1) scRNms.nd rfl (Or.inl rfl) (pe_lst (pa_cons (pe_methH0 (pv 0) TR.cl MN hr (fun pins σ H1 s1 e s' I c => L2N.passAt tk σ pins H1 s1 e s' I c)) pa_nil)))
  (pss_cons (ps_while (passes_of rfl) (pt_val (pe_methH (pv 0) TR.cl MA hr pass0 (pa_cons pe_str pa_nil)))
  (pss_one (ps_expr (pe_bm PySem.F.plainAttrs_list PySem.F.slot_list_append PySem.F.type_list_append mt_append (pv 1) (pa_cons (pe_methH0 (pv 0) TR.cl MN hr (fun pins σ H1 s1 e s' I c => L2N.passAt tk σ pins H1 s1 e s' I c)) pa_nil)))))
  (pss_one (ps_ret (pe_callTy call_tuple_of (by rfl) T.n_tuple bb_tuple (pa_cons (pv 1) pa_nil)))))), ?_⟩
    have cn : isW "," [] = false := by decide +kernel
    refine ⟨_, rfl, S, dx, _, rfl, eS, rfl, S, L, d, ts, l, rfl, rg, fun l1 h1 H1 b1 rg1 => ⟨(by show 1 ≤ sizeLine; decide), fun X hX => ?_⟩, fun e h1 => k2 e (by unfold rNames; rw [h1]; rfl)⟩
    have e1 : rNames l = rLoop (isW ",") rName l1.length l1 := by unfold rNames; rw [h1]; rfl
    obtain ⟨XS, XL⟩ := rg1.ne hX
    have s2 := same_new (o := .lst [.str (textH l)]) hX
    have newX : ∀ b o, H b = some o → b ≠ S → b ≠ X := fun b o e hb => ne_of_none (b1 _ _ e hb) hX
    refine ⟨fun m σ H' => ∃ (l2 : Tl) (xs : List V), m = l2.length ∧ σ = [some (.ref S), some (.ref X)] ∧ Bt S H H' ∧ RdG C H' S L d ts l2 ∧ H' X = some (.lst xs) ∧ xs.length + l2.length ≤ 1000002 ∧ rNames l = rLoop (isW ",") rName l2.length l2, ⟨_, l1, _, rfl, rfl, b1.trans (.of s2), rg1.same s2, upd_same, by have := rg1.len; show 1 + _ ≤ _; omega, e1⟩, ?_⟩
    rintro m σ H3 ⟨l2, xs, rfl, rfl, b3, rg3, eX, lx, eq⟩
    obtain ⟨dx3, i3, eS3⟩ := rg3.ins
    rw [loop_eq suf_name cn] at eq
    refine ⟨_, rfl, S, dx3, _, rfl, eS3, rfl, S, L, d, ts, l2, ",", rfl, rg3, fun hz => ⟨false, rfl, iteF ?_⟩, fun hz H4 b4 rg4 => ⟨true, rfl, iteT ?_⟩⟩
    · rw [if_neg (by rw [hz]; decide)] at eq
      refine ⟨_, rfl, X, xs, rfl, .inl ⟨SqL.of eX, fun q hq => ?_⟩⟩
      have s4 := same_new (o := .tup xs) hq
      exact k1 l2 eq _ _ (b3.trans (.of s4)) (rg3.same s4)
    · rw [if_pos hz] at eq
      obtain ⟨dx4, i4, eS4⟩ := rg4.ins
      have eX4 := b4 _ _ eX XS
      have lt4 := tail_lt (nonnil_W hz)
      refine ⟨fun σ' H' => ∃ (l5 : Tl) (xs' : List V), l5.length < l2.length ∧ σ' = [some (.ref S), some (.ref X)] ∧ Bt S H H' ∧ RdG C H' S L d ts l5 ∧ H' X = some (.lst xs') ∧ xs'.length + l5.length ≤ 1000002 ∧ rNames l = rLoop (isW ",") rName l5.length l5, fun σ' H' ⟨l5, xs', u0, u1, u2, u3, u4, u5, u6⟩ => ⟨l5.length, u0, l5, xs', rfl, u1, u2, u3, u4, u5, u6⟩, ?_⟩
      refine ⟨_, rfl, .inl ⟨rfl, _, SqL.of eX4⟩, _, rfl, S, dx4, _, rfl, eS4, rfl, S, L, d, ts, l2.tail, rfl, rg4, fun l5 h5 H5 b5 rg5 => ?_, fun e h5 => (k2 e (by rw [eq, h5]; rfl)).bt (b3.trans b4)⟩
      rw [h5] at eq
      have eX5 := b5 _ _ eX4 XS
      have l5t := (suf_name _ _ h5).length_le
      refine ⟨X, xs, _, rfl, rfl, eX5, Nat.lt_of_le_of_lt (show xs.length ≤ 1000002 by omega) (by decide), l5, xs ++ [.str (textH l2.tail)], by omega, rfl, fun c o e hc => ?_, rg5.own eX5 XS XL, upd_same, by rw [List.length_append]; show xs.length + 1 + _ ≤ _; omega, eq⟩
      rw [upd_ne (newX _ _ e hc)]
      exact b5 _ _ (b4 _ _ (b3 _ _ e hc) hc) hc
end

section
variable {P : Program} {w : World} {K : PySem.W.Frag} {mg : Str → Option Value} {base : Heap} {C CS CT : Addr}
theorem ok_RRowG {f : Addr} {fd : FuncData} (F : Fun K "read_row" "Reader.read_row" sRRow f fd) (T : mg "tuple" = none) (TR : TxR K C) (MC : HasM P w K mg base CX0 1 C "current" PRCur (spCurG C)) (MN : HasM P w K mg base (L2N.CX P w) 3 C "read_name" PRName (spRdN CS CT C rName)) : FnOk P w K mg base (L2N.CX P w) 4 f fd PRRow (spRd CS CT C rRow) := by
  refine Fun.okN F scRRow (fun vs H Q E h => ?_) (fun cdv A outer s H vs Q E hr h => ?_)
  · obtain ⟨S, L, d, ts, l, rfl, _⟩ := h
    rfl
  · obtain ⟨S, L, d, ts, l, rfl, rg, k1, k2⟩ := h
    obtain ⟨dx, i, eS⟩ := rg.ins
    have hr1 := hr.mono (j := 1) (by decide)
    have tk := L2N.takes_of (X := cxOf (L2N.CX P w) P w K mg base NRRow "Reader.read_row" (defScope sRRow) f cdv A outer s H E) (E := E) rfl rfl rfl rfl
    have T : TxTup mg := ⟨T⟩
    refine ⟨_, (pss_cons (ps_set (i := 1) scRRow.nd rfl (Or.inl rfl) (pe_lst (pa_cons (pe_methH0 (pv 0) TR.cl MN hr (fun pins σ H1 s1 e s' I c => L2N.passAt tk σ pins H1 s1 e s' I c)) pa_nil)))
  (pss_cons (ps_while (passes_of rfl) (pt_cmpR op_eq (pe_ix (r := rIxT K) ix_tup (pe_methH0 (pv 0) TR.cl MC hr1 pass0) pe_int (fun _ _ => rfl)) pe_str (nomark _))
  (pss_one (ps_expr (pe_bm PySem.F.plainAttrs_list PySem.F.slot_list_append PySem.F.type_list_append mt_append (pv 1) (pa_cons (pe_methH0 (pv 0) TR.cl MN hr (fun pins σ H1 s1 e s' I c => L2N.passAt tk σ pins H1 s1 e s' I c)) pa_nil)))))
  (pss_one (ps_ret (pe_callTy call_tuple_of (by rfl) T.n_tuple bb_tuple (pa_cons (pv 1) pa_nil)))))), ?_⟩
    have cn : isN [] = false := by decide +kernel
    refine ⟨_, rfl, S, dx, _, rfl, eS, rfl, S, L, d, ts, l, rfl, rg, fun l1 h1 H1 b1 rg1 => ⟨(by show 1 ≤ sizeLine; decide), fun X hX => ?_⟩, fun e h1 => k2 e (by unfold rRow; rw [h1]; rfl)⟩
    have e1 : rRow l = rLoop isN (fun l => .ok l) l1.length l1 := by unfold rRow; rw [h1]; rfl
    obtain ⟨XS, XL⟩ := rg1.ne hX
    have s2 := same_new (o := .lst [.str (textH l)]) hX
    have newX : ∀ b o, H b = some o → b ≠ S → b ≠ X := fun b o e hb => ne_of_none (b1 _ _ e hb) hX
    refine ⟨fun m σ H' => ∃ (l2 : Tl) (xs : List V), m = l2.length ∧ σ = [some (.ref S), some (.ref X)] ∧ Bt S H H' ∧ RdG C H' S L d ts l2 ∧ H' X = some (.lst xs) ∧ xs.length + l2.length ≤ 1000002 ∧ rRow l = rLoop isN (fun l => .ok l) l2.length l2, ⟨_, l1, _, rfl, rfl, b1.trans (.of s2), rg1.same s2, upd_same, by have := rg1.len; show 1 + _ ≤ _; omega, e1⟩, ?_⟩
    rintro m σ H3 ⟨l2, xs, rfl, rfl, b3, rg3, eX, lx, eq⟩
    obtain ⟨dx3, i3, eS3⟩ := rg3.ins
    rw [loop_eq Suf.ok cn] at eq
    refine ⟨_, rfl, S, dx3, _, rfl, eS3, rfl, S, L, d, ts, l2, rfl, rg3, fun p hp => ⟨p, _, _, _, rfl, rfl, SqT.of hp, rfl, rfl, _, rfl, ?_⟩⟩
    cases hz : isN l2 with
    | false =>
      have hn : ¬ kindH l2 = "name" := of_decide_eq_false hz
      refine iteE (by rw [dec_str, decide_eq_false hn]) ?_
      rw [if_neg (by rw [hz]; decide)] at eq
      refine ⟨_, rfl, X, xs, rfl, .inl ⟨SqL.of eX, fun q hq => ?_⟩⟩
      have s4 := same_new (o := .tup xs) hq
      exact k1 l2 eq _ _ (b3.trans (.of s4)) (rg3.same s4)
    | true =>
      have hn : kindH l2 = "name" := of_decide_eq_true hz
      refine iteS (by rw [dec_str, decide_eq_true hn]) ?_
      rw [if_pos hz] at eq
      have lt4 := tail_lt (nonnil_N hz)
      refine ⟨fun σ' H' => ∃ (l5 : Tl) (xs' : List V), l5.length < l2.length ∧ σ' = [some (.ref S), some (.ref X)] ∧ Bt S H H' ∧ RdG C H' S L d ts l5 ∧ H' X = some (.lst xs') ∧ xs'.length + l5.length ≤ 1000002 ∧ rRow l = rLoop isN (fun l => .ok l) l5.length l5, fun σ' H' ⟨l5, xs', u0, u1, u2, u3, u4, u5, u6⟩ => ⟨l5.length, u0, l5, xs', rfl, u1, u2, u3, u4, u5, u6⟩, ?_⟩
      refine ⟨_, rfl, .inl ⟨rfl, _, SqL.of eX⟩, _, rfl, S, dx3, _, rfl, eS3, rfl, S, L, d, ts, l2, rfl, rg3, fun l5 h5 H5 b5 rg5 => ?_, fun e h5 => ?_⟩
      · have el5 : l5 = l2.tail := by
          unfold rName at h5
          rw [if_pos hz] at h5
          cases h5
          rfl
        subst el5
        have eX5 := b5 _ _ eX XS
        refine ⟨X, xs, _, rfl, rfl, eX5, Nat.lt_of_le_of_lt (show xs.length ≤ 1000002 by omega) (by decide), l2.tail, xs ++ [.str (textH l2)], lt4, rfl, fun c o e hc => ?_, rg5.own eX5 XS XL, upd_same, by rw [List.length_append]; show xs.length + 1 + _ ≤ _; omega, eq⟩
        rw [upd_ne (newX _ _ e hc)]
        exact b5 _ _ (b3 _ _ e hc) hc
      · unfold rName at h5
        rw [if_pos hz] at h5
        cases h5
end

/-! ### k05: read_term -/
theorem mem_of_at {ts : Tl} {i : Nat} {x : TK} (h : ts[i]? = some x) : x ∈ ts := List.mem_of_getElem? h
theorem RdG.nmIn {C S L : Addr} {H : Hp} {d : Nat} {ts l : Tl} (h : RdG C H S L d ts l) (z : isN l = true) : NmIn ts (textH l) := by
  obtain ⟨i, x, r, rfl, _, ht, _⟩ := h.tok
  exact ⟨x, mem_of_at ht, of_decide_eq_true z, rfl⟩
theorem RdG.ok {C S L : Addr} {H : Hp} {d : Nat} {ts l : Tl} (h : RdG C H S L d ts l) : TsOk ts := let ⟨_, _, _, _, e⟩ := h; e
abbrev sExprOf : Stmt := topS 15
abbrev NExprOf : List Str := ["constant", "factors", "name"]
abbrev PExprOf : List Str := ["constant", "factors"]
theorem scExprOf : FnScope NExprOf PExprOf (defScope sExprOf) := ⟨rfl, rfl, rfl, by decide +kernel, rfl, by decide +kernel, by decide +kernel⟩
abbrev sRExpr : Stmt := inClass (topS 16) 9
abbrev NRExpr : List Str := ["self", "constant", "factors", "sign", "name", "number"]
abbrev PRExpr : List Str := ["self"]
theorem scRExpr : FnScope NRExpr PRExpr (defScope sRExpr) := ⟨rfl, rfl, rfl, by decide +kernel, rfl, by decide +kernel, by decide +kernel⟩
def optS : Option Str → V
  | none => .non
  | some s => .str s
structure TxRd (mg : Str → Option Value) : Prop where
  n_tuple : mg "tuple" = none
  n_len : mg "len" = none
  n_int : mg "int" = none
  n_sorted : mg "sorted" = none
structure TxSum (mg : Str → Option Value) : Prop extends TxRd mg where
  c_LONGEST : ∃ u, mg "LONGEST" = some u ∧ RelV (.int 12) u
theorem nn_ne : ¬ (("number" : Str) = "name") := by decide +kernel
def spTermG (CS CT C : Addr) : Sp := fun vs H Q E => ∃ (S L : Addr) (d : Nat) (ts l : Tl), vs = [.ref S] ∧ RdG C H S L d ts l ∧ (∀ l', rTerm l = .ok l' → ∀ (nm : Option Str) (n : Int) (p : Addr) (H' : Hp), (∀ x, nm = some x → NmIn ts x) → Bt S H H' → RdG C H' S L d ts l' → H' p = some (.tup [optS nm, .int n]) → Q (.ref p) H') ∧ ∀ e, rTerm l = .error e → ErK CS CT S H E e
section
variable {P : Program} {w : World} {K : PySem.W.Frag} {mg : Str → Option Value} {base : Heap} {C CS CT : Addr} {C' : Nat → Addr}
theorem ok_RTermG {f : Addr} {fd : FuncData} (F : Fun K "read_term" "Reader.read_term" sRTerm f fd) (T : TxSum mg) (TR : TxR K C) (X : ErrH P w K mg base C') (MC : HasM P w K mg base CX0 1 C "current" PRCur (spCurG C)) (MA : HasM P w K mg base CX0 3 C "accept" PRAcc (spAccG C)) (MN : HasM P w K mg base (L2N.CX P w) 3 C "read_name" PRName (spRdN (C' 1) (C' 2) C rName)) : FnOk P w K mg base (L2N.CX P w) 4 f fd PRTerm (spTermG (C' 1) (C' 2) C) := by
  refine Fun.okN F scRTerm (fun vs H Q E h => ?_) (fun cdv A outer s H vs Q E hr h => ?_)
  · obtain ⟨S, L, d, ts, l, rfl, _⟩ := h
    rfl
  · obtain ⟨S, L, d, ts, l, rfl, rg, k1, k2⟩ := h
    have hr1 := hr.mono (j := 1) (by decide)
    obtain ⟨dx, i, eS⟩ := rg.ins
    have tk := L2N.takes_of (X := cxOf (L2N.CX P w) P w K mg base NRTerm "Reader.read_term" (defScope sRTerm) f cdv A outer s H E) (E := E) rfl rfl rfl rfl
    refine ⟨_, (pss_cons (ps_set (i := 1) scRTerm.nd rfl (Or.inl rfl) (pe_methH0 (pv 0) TR.cl MC hr1 pass0))
  (pss_cons (ps_if (pt_cmpR op_eq (pe_ix (r := rIxT K) ix_tup (pv 1) pe_int (fun _ _ => rfl)) pe_str (nomark _))
  (pss_one (ps_ret (pe_tup (pa_cons (pe_methH0 (pv 0) TR.cl MN hr (fun pins σ H1 s1 e s' I c => L2N.passAt tk σ pins H1 s1 e s' I c)) (pa_cons pe_int pa_nil)))))
  pss_nil)
  (pss_cons (ps_if (pt_cmpR op_ne (pe_ix (r := rIxT K) ix_tup (pv 1) pe_int (fun _ _ => rfl)) pe_str (nomark _))
  (pss_one (ps_raiseX rfl tk X.h1 (hr.mono (by decide)) rfl (pa_cons (pe_ix (r := rIxT K) ix_tup (pv 1) pe_int (fun _ _ => rfl)) pa_nil)))
  pss_nil)
  (pss_cons (ps_if (pt_cmpR op_gt (pe_callB call_len_str (by rfl) T.n_len bb_len (pa_cons (pe_ix (r := rIxT K) ix_tup (pv 1) pe_int (fun _ _ => rfl)) pa_nil)) (pe_globE rfl T.c_LONGEST) (nomark _))
  (pss_one (ps_raiseX rfl tk X.h2 (hr.mono (by decide)) rfl (pa_cons pe_str pa_nil)))
  pss_nil)
  (pss_cons (ps_fldaug (pv 0) pe_int in_add)
  (pss_cons (ps_if (pt_val (pe_methH (pv 0) TR.cl MA hr pass0 (pa_cons pe_str pa_nil)))
  (pss_one (ps_ret (pe_tup (pa_cons (pe_methH0 (pv 0) TR.cl MN hr (fun pins σ H1 s1 e s' I c => L2N.passAt tk σ pins H1 s1 e s' I c)) (pa_cons (pe_callTy call_int_str (by rfl) T.n_int bb_int (pa_cons (pe_ix (r := rIxT K) ix_tup (pv 1) pe_int (fun _ _ => rfl)) pa_nil)) pa_nil)))))
  pss_nil)
  (pss_one (ps_ret (pe_tup (pa_cons pe_non (pa_cons (pe_callTy call_int_str (by rfl) T.n_int bb_int (pa_cons (pe_ix (r := rIxT K) ix_tup (pv 1) pe_int (fun _ _ => rfl)) pa_nil)) pa_nil))))))))))), ?_⟩
    refine ⟨_, rfl, S, dx, _, rfl, eS, rfl, S, L, d, ts, l, rfl, rg, fun p hp => ?_⟩
    have hE : EndT l ∧ TsOk ts := let ⟨_, _, _, e⟩ := rg; e
    obtain ⟨i1, x, r, el, ra, ht, hd⟩ := rg.tok
    obtain ⟨dx1, xs, e1, _⟩ := id ra
    rw [el] at hp
    have hp : H p = some (.tup [.str x.1, .str x.2.1, .int (x.2.2 : Nat)]) := hp
    have syn : ∀ e, rTerm l = .error e → ErK (C' 1) (C' 2) S H E e := k2
    by_cases hn : x.1 = "name"
    · have hz : isN l = true := by rw [el]; exact decide_eq_true hn
      have ok : rTerm l = .ok l.tail := if_pos hz
      refine ⟨_, rfl, p, _, _, _, rfl, rfl, SqT.of hp, rfl, rfl, _, rfl, iteS (by rw [dec_str, decide_eq_true hn]) ?_⟩
      refine ⟨_, rfl, S, dx, _, rfl, eS, rfl, S, L, d, ts, l, rfl, rg, fun l1 h1 H1 b1 rg1 => ⟨(by show 2 ≤ sizeLine; decide), fun q hq => ?_⟩, fun e h1 => ?_⟩
      · have el1 : l1 = l.tail := by
          unfold rName at h1
          rw [if_pos hz] at h1
          cases h1
          rfl
        subst el1
        have s2 := same_new (o := .tup [.str (textH l), .int 1]) hq
        exact k1 _ ok (some (textH l)) 1 q _ (fun y ey => by cases ey; exact rg.nmIn hz) (b1.trans (.of s2)) (rg1.same s2) upd_same
      · unfold rName at h1
        rw [if_pos hz] at h1
        cases h1
    have hz : ¬ isN l = true := by rw [el]; exact fun z => hn (of_decide_eq_true z)
    refine ⟨_, rfl, p, _, _, _, rfl, rfl, SqT.of hp, rfl, rfl, _, rfl, iteE (by rw [dec_str, decide_eq_false hn]) ?_⟩
    by_cases hb : x.1 = "number"
    case neg =>
      have hk : ¬ kindH l = "number" := by rw [el]; exact hb
      have k2 := k2 (.syn (posH l)) (by unfold rTerm; rw [if_neg hz, if_neg hk]; rfl)
      rw [el] at k2
      refine ⟨_, rfl, p, _, _, _, rfl, rfl, SqT.of hp, rfl, rfl, _, rfl, iteS (by rw [dec_str, decide_eq_false hb]; rfl) ?_⟩
      exact ⟨_, rfl, p, _, _, _, rfl, rfl, SqT.of hp, rfl, _, rfl, fun d' hd' => k2 d' H Bt.refl hd'⟩
    have hk : kindH l = "number" := by rw [el]; exact hb
    obtain ⟨hl, hi⟩ := hE.2.nb x (mem_of_at ht) hb
    have tx : textH l = x.2.1 := by rw [el]; rfl
    refine ⟨_, rfl, p, _, _, _, rfl, rfl, SqT.of hp, rfl, rfl, _, rfl, iteE (by rw [dec_str, decide_eq_true hb]; rfl) ?_⟩
    refine ⟨_, rfl, p, _, _, _, rfl, rfl, SqT.of hp, rfl, _, rfl, Nat.le_trans hl (by decide), _, _, rfl, rfl, ?_⟩
    by_cases h12 : x.2.1.length ≤ 12
    case neg =>
      refine ⟨_, rfl, iteS (decide_eq_true (by omega)) ?_⟩
      exact ⟨_, rfl, fun d' hd' => k2 (.large "numbers") (by unfold rTerm; rw [if_neg hz, if_pos hk, if_neg (by rw [tx]; exact h12)]) d' H Bt.refl hd'⟩
    obtain ⟨n, hn⟩ := hi h12
    have eq : rTerm l = if isW "*" l.tail then rName l.tail.tail else .ok l.tail := by
      unfold rTerm
      rw [if_neg hz, if_pos hk, if_pos (by rw [tx]; exact h12)]
    refine ⟨_, rfl, iteE (decide_eq_false (by omega)) ?_⟩
    refine ⟨_, rfl, S, C, dx1, _, _, rfl, e1, TR.cl, TR.nI, rfl, _, _, rfl, rfl, dx1, _, e1, (by show 3 < 1000; decide), ?_⟩
    have e : putF "index_of_token" (.int (((i1 : Nat) : Int) + 1)) (rdF L i1 d) = rdF L (i1 + 1) d := putF_ix L i1 (i1 + 1) d
    rw [e]
    have xe : x.1 ≠ "end" := by rw [hb]; decide +kernel
    have xb : x.1 ≠ "bad" := by rw [hb]; decide +kernel
    have rg1 : RdG C (upd H S (.ins C dx1 (rdF L (i1 + 1) d))) S L d ts l.tail := ⟨i1 + 1, ra.step (dx := dx1), by rw [hd, el]; rfl, by rw [el]; exact (el ▸ hE.1).tl xe xb, hE.2⟩
    have pS : p ≠ S := ne_of hp e1 fun z => by cases z
    have hp1 := (upd_ne (H := H) (o := .ins C dx1 (rdF L (i1 + 1) d)) pS).trans hp
    have b1 : Bt S H (upd H S (.ins C dx1 (rdF L (i1 + 1) d))) := bt_upd
    have eS1 : upd H S (.ins C dx1 (rdF L (i1 + 1) d)) S = some (.ins C dx1 (rdF L (i1 + 1) d)) := upd_same
    generalize upd H S (.ins C dx1 (rdF L (i1 + 1) d)) = H1 at *
    refine ⟨_, rfl, S, dx1, _, rfl, eS1, rfl, S, L, d, ts, l.tail, "*", rfl, rg1, fun hm => ⟨false, rfl, iteE rfl ?_⟩, fun hm H2 b2 rg2 => ⟨true, rfl, iteS rfl ?_⟩⟩
    · rw [if_neg (by rw [hm]; decide)] at eq
      refine ⟨_, rfl, p, _, _, _, rfl, rfl, SqT.of hp1, rfl, _, _, rfl, hn, Nat.le_trans h12 (by decide), (by show 2 ≤ sizeLine; decide), fun q hq => ?_⟩
      have s2 := same_new (o := .tup [.non, .int n]) hq
      exact k1 _ eq none n q _ (fun y ey => nomatch ey) (b1.trans (.of s2)) (rg1.same s2) upd_same
    · rw [if_pos hm] at eq
      obtain ⟨dx2, i2, eS2⟩ := rg2.ins
      have hp2 := b2 _ _ hp1 pS
      refine ⟨_, rfl, S, dx2, _, rfl, eS2, rfl, S, L, d, ts, l.tail.tail, rfl, rg2, fun l3 h3 H3 b3 rg3 => ?_, fun e h3 => ((k2 e (eq.trans h3)).bt (b1.trans b2))⟩
      have hp3 := b3 _ _ hp2 pS
      refine ⟨_, rfl, p, _, _, _, rfl, rfl, SqT.of hp3, rfl, _, _, rfl, hn, Nat.le_trans h12 (by decide), (by show 2 ≤ sizeLine; decide), fun q hq => ?_⟩
      have s2 := same_new (o := .tup [.str (textH l.tail.tail), .int n]) hq
      have hz2 : isN l.tail.tail = true := by
        unfold rName at h3
        by_cases z : isN l.tail.tail = true
        · exact z
        · rw [if_neg z] at h3; cases h3
      exact k1 _ (eq.trans h3) (some (textH l.tail.tail)) n q _ (fun y ey => by cases ey; exact rg2.nmIn hz2) (((b1.trans b2).trans b3).trans (.of s2)) (rg3.same s2) upd_same
end

/-! expression_of -/
theorem bb_sorted : bootBuiltins "sorted" = some (.builtin "sorted") := by decide +kernel
abbrev Fac := List (Str × Int)
def kvS (fs : Fac) : List (Key × V) := fs.map fun p => (Sum.inr p.1, V.int p.2)
def getF (fs : Fac) (nm : Str) : Int := ((fs.find? fun p => decide (p.1 = nm)).map (·.2)).getD 0
def addF (fs : Fac) (nm : Str) (v : Int) : Fac := if (fs.any fun p => decide (p.1 = nm)) = true then fs.map (fun p => if p.1 = nm then (p.1, p.2 + v) else p) else fs ++ [(nm, v)]
theorem dec_inr (a b : Str) : decide ((Sum.inr a : Key) = Sum.inr b) = decide (a = b) := decide_eq_decide.mpr ⟨fun h => Sum.inr.inj h, fun h => by rw [h]⟩
theorem val_kvS (fs : Fac) (nm : Str) : valV (kvS fs) (Sum.inr nm) = (fs.find? fun p => decide (p.1 = nm)).map fun p => V.int p.2 := by
  unfold valV kvS
  rw [List.find?_map, Option.map_map]
  congr 1
  congr 1
  funext p
  exact dec_inr p.1 nm
theorem val_getD (fs : Fac) (nm : Str) : (valV (kvS fs) (Sum.inr nm)).getD (.int 0) = .int (getF fs nm) := by
  rw [val_kvS]
  unfold getF
  cases fs.find? fun p => decide (p.1 = nm) <;> rfl
theorem any_kvS (fs : Fac) (nm : Str) : ((kvS fs).any fun kv => decide (kv.1 = (Sum.inr nm : Key))) = fs.any fun p => decide (p.1 = nm) := by
  unfold kvS
  rw [List.any_map]
  congr 1
  funext p
  exact dec_inr p.1 nm
def Uniq (fs : Fac) : Prop := (fs.map (·.1)).Nodup
theorem find_uniq {fs : Fac} (u : Uniq fs) {p : Str × Int} (h : p ∈ fs) : (fs.find? fun q => decide (q.1 = p.1)) = some p := by
  induction fs with
  | nil => cases h
  | cons q r ih =>
    have u2 : Uniq r := (List.nodup_cons.mp u).2
    rw [List.find?_cons]
    rcases List.mem_cons.mp h with rfl | h
    · rw [decide_eq_true rfl]
    · have ne : q.1 ≠ p.1 := fun e => (List.nodup_cons.mp u).1 (by show q.1 ∈ _; rw [e]; exact List.mem_map.mpr ⟨p, h, rfl⟩)
      rw [decide_eq_false ne]
      exact ih u2 h
theorem put_kvS {fs : Fac} (u : Uniq fs) (nm : Str) (v : Int) : putK (kvS fs) (Sum.inr nm) (V.int (getF fs nm + v)) = kvS (addF fs nm v) := by
  unfold putK addF
  rw [any_kvS]
  by_cases h : (fs.any fun p => decide (p.1 = nm)) = true
  · rw [if_pos h, if_pos h]
    unfold kvS
    rw [List.map_map, List.map_map]
    refine List.map_congr_left fun p hp => ?_
    show (if (Sum.inr p.1 : Key) = Sum.inr nm then ((Sum.inr p.1 : Key), V.int (getF fs nm + v)) else (Sum.inr p.1, V.int p.2)) = ((Sum.inr (if p.1 = nm then (p.1, p.2 + v) else p).1 : Key), V.int (if p.1 = nm then (p.1, p.2 + v) else p).2)
    by_cases e : p.1 = nm
    · rw [if_pos (by rw [e]), if_pos e]
      have g : getF fs nm = p.2 := by
        unfold getF
        rw [← e, find_uniq u hp]
        rfl
      rw [g]
    · rw [if_neg (fun z => e (Sum.inr.inj z)), if_neg e]
  · rw [if_neg h, if_neg h]
    have g : getF fs nm = 0 := by
      unfold getF
      have : (fs.find? fun p => decide (p.1 = nm)) = none := by
        rw [List.find?_eq_none]
        intro p hp e
        exact h (List.any_eq_true.mpr ⟨p, hp, e⟩)
      rw [this]
      rfl
    unfold kvS
    rw [List.map_append, g, Int.zero_add]
    rfl
theorem names_addF (fs : Fac) (nm : Str) (v : Int) : (addF fs nm v).map (·.1) = if (fs.any fun p => decide (p.1 = nm)) = true then fs.map (·.1) else fs.map (·.1) ++ [nm] := by
  unfold addF
  by_cases h : (fs.any fun p => decide (p.1 = nm)) = true
  · rw [if_pos h, if_pos h, List.map_map]
    refine List.map_congr_left fun p _ => ?_
    show (if p.1 = nm then (p.1, p.2 + v) else p).1 = p.1
    split <;> rfl
  · rw [if_neg h, if_neg h, List.map_append]
    rfl
theorem uniq_addF {fs : Fac} (u : Uniq fs) (nm : Str) (v : Int) : Uniq (addF fs nm v) := by
  unfold Uniq
  rw [names_addF]
  by_cases h : (fs.any fun p => decide (p.1 = nm)) = true
  · rw [if_pos h]
    exact u
  · rw [if_neg h, List.nodup_append]
    refine ⟨u, by simp, fun a ha b hb e => ?_⟩
    rw [List.mem_singleton.mp hb] at e
    obtain ⟨p, hp, rfl⟩ := List.mem_map.mp ha
    exact h (List.any_eq_true.mpr ⟨p, hp, decide_eq_true e⟩)
theorem len_addF (fs : Fac) (nm : Str) (v : Int) : (addF fs nm v).length ≤ fs.length + 1 := by
  unfold addF
  split
  · rw [List.length_map]
    omega
  · rw [List.length_append]
    exact Nat.le_refl _
def PairAt (H : Hp) (v : V) (r : Str × Int) : Prop := ∃ a, v = .ref a ∧ H a = some (.tup [.str r.1, .int r.2])
/-- a sum as a tuple -/
def ExprAt (H : Hp) (v : V) (c : Int) (l : Fac) : Prop := ∃ (p q : Addr) (ys : List V), v = .ref p ∧ H p = some (.tup [.int c, .ref q]) ∧ H q = some (.tup ys) ∧ Paired (PairAt H) ys l
theorem PairAt.same {H H' : Hp} (s : TSame H H') {v : V} {r : Str × Int} (h : PairAt H v r) : PairAt H' v r := let ⟨a, e, q⟩ := h; ⟨a, e, s _ _ q⟩
theorem ExprAt.same {H H' : Hp} (s : TSame H H') {v : V} {c : Int} {l : Fac} (h : ExprAt H v c l) : ExprAt H' v c l := let ⟨p, q, ys, e1, e2, e3, e4⟩ := h; ⟨p, q, ys, e1, s _ _ e2, s _ _ e3, Paired.mapP e4 fun _ _ z => z.same s⟩
/-- the sum with sorted names and without factors 0 -/
def OfF (fs l : Fac) : Prop := ∃ ys : List Str, ys.Perm (fs.map (·.1)) ∧ PyProof.Rows.sortedS ys = true ∧ l = (ys.map fun n => (n, getF fs n)).filter fun p => decide (p.2 ≠ 0)
section
variable {P : Program} {w : World} {K : PySem.W.Frag} {mg : Str → Option Value} {base : Heap} {kw C : Addr}
def spExprOf : Sp := fun vs H Q _ => ∃ (c : Int) (D : Addr) (fs : Fac), vs = [.int c, .ref D] ∧ H D = some (.dK (kvS fs)) ∧ Uniq fs ∧ fs.length < 60 ∧ ∀ (p : Addr) (l : Fac) (H' : Hp), Same H H' → OfF fs l → ExprAt H' (.ref p) c l → Q (.ref p) H'
theorem ok_ExprOf {f : Addr} {fd : FuncData} (F : Fun K "expression_of" "expression_of" sExprOf f fd) (T : TxSum mg) : FnOk P w K mg base CX0 1 f fd PExprOf spExprOf := by
  refine F.ok scExprOf (fun vs H Q E h => ?_) (fun cdv A outer s H vs Q E hr h => ?_)
  · obtain ⟨c, D, fs, rfl, _⟩ := h
    rfl
  · obtain ⟨c, D, fs, rfl, eD, u, lf, k⟩ := h
    have hu := hu_of hr
    refine ⟨_, (pss_one (ps_ret (pe_tup (pa_cons (pv 0) (pa_cons (pe_callTy call_tuple_of (by rfl) T.n_tuple bb_tuple (pa_cons (pe_lc (own := [("name", 2)]) (g := gName 2) rfl scExprOf.nd (pi_list (pe_callB (call_sortedD rfl) (by rfl) T.n_sorted bb_sorted (pa_cons (pv 1) pa_nil))) (blkOk_by (own := [("name", 2)]) (N := NExprOf) (sc := (defScope sExprOf)) (by decide +kernel)) (fun _ _ _ _ _ => (pg_name (i := 2) scExprOf.nd rfl (Or.inl rfl))) (fun _ _ _ _ _ => (pts_one (pt_cmpR op_ne (pe_dget hu (pv 1) (pv 2) (fun _ _ => rfl)) pe_int (nomark _)))) (fun _ _ _ _ _ => (pe_tup (pa_cons (pv 2) (pa_cons (pe_dget hu (pv 1) (pv 2) (fun _ _ => rfl)) pa_nil))))) pa_nil)) pa_nil))))), ?_⟩
    have mem : ∀ {n : Str}, n ∈ fs.map (·.1) → some (V.int (getF fs n)) = valV (kvS fs) (Sum.inr n) := fun {n} h => by
      obtain ⟨p, hp, rfl⟩ := List.mem_map.mp h
      rw [val_kvS]
      unfold getF
      rw [find_uniq u hp]
      rfl
    refine ⟨_, rfl, _, rfl, D, kvS fs, fs.map (·.1), rfl, .inl eD, by unfold kvS; rw [List.map_map, List.map_map]; rfl, by rw [List.length_map]; omega, fun ys p hperm hsort hp => ⟨p, rfl, ⟨_, SqL.of upd_same⟩, fun Z hZ => ?_⟩⟩
    have s1 := same_new (o := .lst (ys.map V.str)) hp
    obtain ⟨H1, eH1⟩ : ∃ H1, H1 = upd H p (.lst (ys.map V.str)) := ⟨_, rfl⟩
    have ep : H1 p = some (.lst (ys.map V.str)) := by rw [eH1, upd_same]
    rw [← eH1] at s1 hZ ⊢
    clear eH1 hp
    have eD1 := s1 _ _ eD
    have lys : ys.length = fs.length := by rw [hperm.length_eq, List.length_map]
    refine lc_it (walk_list (K := K) (a := p) (xs := ys.map V.str)) (fun i H' => Same H1 H' ∧ ∃ zs : List V, H' Z = some (.lst zs) ∧ zs.length ≤ i ∧ Paired (PairAt H') zs (((ys.take i).map fun n => (n, getF fs n)).filter fun p => decide (p.2 ≠ 0))) ⟨same_new hZ, [], upd_same, Nat.le_refl _, .nil⟩ (fun i H' _ h' => SqL.of (h'.1 _ _ ep)) ?_ ?_
    · rintro i x H2 H3 hi ⟨s2, zs, eZ, lz, hz⟩ ⟨rfl, hx⟩
      rw [List.getElem?_map] at hx
      obtain ⟨n, hn, rfl⟩ : ∃ n, ys[i]? = some n ∧ x = V.str n := by
        cases q : ys[i]? with
        | none => rw [q] at hx; cases hx
        | some n => rw [q] at hx; exact ⟨n, rfl, (Option.some.inj hx).symm⟩
      have hm := mem (hperm.mem_iff.mp (List.mem_of_getElem? hn))
      have ft : (((ys.take (i + 1)).map fun n => (n, getF fs n)).filter fun p => decide (p.2 ≠ 0)) = (((ys.take i).map fun n => (n, getF fs n)).filter fun p => decide (p.2 ≠ 0)) ++ (if getF fs n ≠ 0 then [(n, getF fs n)] else []) := by
        rw [take_snoc hn, List.map_append, List.filter_append]
        congr 1
        by_cases q : getF fs n = 0
        · simp [q]
        · simp [q]
      refine ⟨rfl, _, rfl, _, rfl, D, _, rfl, .inl ⟨kvS fs, Sum.inr n, .inl (s2 _ _ eD1), rfl, hm⟩, rfl, _, rfl, ite2 (fun hne => ?_) (fun hne => ?_)⟩
      · have gne : getF fs n ≠ 0 := fun q => by rw [q] at hne; exact absurd hne (by decide)
        refine ⟨_, rfl, _, rfl, _, rfl, D, _, rfl, .inl ⟨kvS fs, Sum.inr n, .inl (s2 _ _ eD1), rfl, hm⟩, (by show 2 ≤ sizeLine; decide), fun t ht => ?_⟩
        have s3 := same_new (o := .tup [.str n, .int (getF fs n)]) ht
        have eZ3 := s3 _ _ eZ
        rw [List.length_map] at hi
        refine ⟨zs, eZ3, small1000 (by omega), fun b o e => by rw [upd_ne (ne_of_none e hZ)]; exact s3 _ _ (s2 _ _ e), zs ++ [.ref t], upd_same, by rw [List.length_append]; show zs.length + 1 ≤ i + 1; omega, ?_⟩
        rw [ft, if_pos gne]
        have ts : TSame H3 (upd (upd H3 t (.tup [.str n, .int (getF fs n)])) Z (.lst (zs ++ [.ref t]))) := fun b xs e => by
          rw [upd_ne (ne_of (s3 _ _ e) eZ3 fun z => by cases z)]
          exact s3 _ _ e
        refine Paired.snocP (Paired.mapP hz fun _ _ q => q.same ts) ⟨t, rfl, ?_⟩
        show upd (upd H3 t _) Z _ t = _
        rw [upd_ne (fun z => by rw [z, eZ] at ht; cases ht), upd_same]
      · have ge : getF fs n = 0 := by
          by_cases q : getF fs n = 0
          · exact q
          · exact absurd (show (!decide (V.int (getF fs n) = V.int 0)) = true by rw [decide_eq_false (fun q' => by injection q' with q'; exact q q')]; rfl) hne
        refine ⟨s2, zs, eZ, by omega, ?_⟩
        rw [ft, if_neg (fun q => q ge), List.append_nil]
        exact hz
    · rintro H2 ⟨s2, zs, eZ, lz, hz⟩
      rw [List.length_map, List.take_length] at hz
      refine ⟨Z, _, rfl, .inl ⟨SqL.of eZ, fun q hq => ⟨(by show 2 ≤ sizeLine; decide), fun r hr' => ?_⟩⟩⟩
      have s3 := same_new (o := .tup zs) hq
      have s4 := same_new (o := .tup [.int c, .ref q]) hr'
      exact k r _ _ (((s1.trans s2).trans s3).trans s4) ⟨ys, hperm, hsort, rfl⟩ ⟨r, q, zs, rfl, upd_same, s4 _ _ upd_same, Paired.mapP hz fun _ _ z => z.same (TSame.of (s3.trans s4))⟩
end

/-! ### k05: read_expression -/
def sgn (b : Bool) : Int := if b = true then -1 else 1
theorem sgn_lt (b : Bool) : -(2 ^ 64) < sgn b ∧ sgn b < 2 ^ 64 := by cases b <;> decide
theorem nd_len {α : Type} [DecidableEq α] : ∀ {l m : List α}, l.Nodup → (∀ x ∈ l, x ∈ m) → l.length ≤ m.length
  | [], _, _, _ => Nat.zero_le _
  | x :: r, m, nd, h => by
    obtain ⟨h1, h2⟩ := List.nodup_cons.mp nd
    have ih := nd_len (l := r) (m := m.erase x) h2 fun y hy => (List.mem_erase_of_ne (fun z : y = x => h1 (by rw [← z]; exact hy))).mpr (h y (List.mem_cons_of_mem _ hy))
    have hx := h x List.mem_cons_self
    rw [List.length_erase_of_mem hx] at ih
    have := List.length_pos_of_mem hx
    rw [List.length_cons]
    omega
theorem isW_lt {w : Str} {l : Tl} (z : isW w l = true) : l.tail.length < l.length := tail_lt (nonnil_W z)
theorem sum_fuel : ∀ (k : Nat) (l : Tl) (n m : Nat), l.length ≤ k → l.length < n → l.length < m → rSum n l = rSum m l := fun k => by
  induction k using Nat.strongRecOn with
  | _ k ih =>
    intro l n m hk hn hm
    obtain ⟨n, rfl⟩ : ∃ n', n = n' + 1 := ⟨n - 1, by omega⟩
    obtain ⟨m, rfl⟩ : ∃ m', m = m' + 1 := ⟨m - 1, by omega⟩
    show andR (rTerm l) _ = andR (rTerm l) _
    cases h : rTerm l with
    | error e => rfl
    | ok l1 =>
      have h1 := (suf_term _ _ h).length_le
      show (if isW "+" l1 = true then rSum n l1.tail else if isW "-" l1 = true then rSum n l1.tail else .ok l1) = if isW "+" l1 = true then rSum m l1.tail else if isW "-" l1 = true then rSum m l1.tail else .ok l1
      by_cases p : isW "+" l1 = true
      · have := isW_lt p
        rw [if_pos p, if_pos p]
        exact ih l1.tail.length (by omega) l1.tail n m (Nat.le_refl _) (by omega) (by omega)
      · rw [if_neg p, if_neg p]
        by_cases q : isW "-" l1 = true
        · have := isW_lt q
          rw [if_pos q, if_pos q]
          exact ih l1.tail.length (by omega) l1.tail n m (Nat.le_refl _) (by omega) (by omega)
        · rw [if_neg q, if_neg q]
/-- a sum, with just enough fuel -/
def rSums (l : Tl) : RdR := rSum (l.length + 1) l
def sumT (l1 : Tl) : RdR := if isW "+" l1 = true then rSums l1.tail else if isW "-" l1 = true then rSums l1.tail else .ok l1
theorem sums_eq (l : Tl) : rSums l = andR (rTerm l) sumT := by
  show andR (rTerm l) _ = _
  cases h : rTerm l with
  | error e => rfl
  | ok l1 =>
    have h1 := (suf_term _ _ h).length_le
    show (if isW "+" l1 = true then rSum l.length l1.tail else if isW "-" l1 = true then rSum l.length l1.tail else .ok l1) = sumT l1
    unfold sumT
    by_cases p : isW "+" l1 = true
    · have := isW_lt p
      rw [if_pos p, if_pos p]
      exact sum_fuel _ _ _ _ (Nat.le_refl _) (by omega) (by omega)
    · rw [if_neg p, if_neg p]
      by_cases q : isW "-" l1 = true
      · have := isW_lt q
        rw [if_pos q, if_pos q]
        exact sum_fuel _ _ _ _ (Nat.le_refl _) (by omega) (by omega)
      · rw [if_neg q, if_neg q]
theorem expr_eq (l : Tl) : rExpr l = rSums (if isW "-" l = true then l.tail else l) := by
  unfold rExpr rSums
  by_cases p : isW "-" l = true
  · have := isW_lt p
    rw [if_pos p]
    exact sum_fuel _ _ _ _ (Nat.le_refl _) (by omega) (by omega)
  · rw [if_neg p]
section
variable {C S L X : Addr} {H H' H1 : Hp} {d : Nat} {ts l : Tl}
theorem RdG.ownK {xs : List (Key × V)} {o : HO} (h : RdG C H S L d ts l) (e : H X = some (.dK xs)) (n1 : X ≠ S) (n2 : X ≠ L) : RdG C (upd H X o) S L d ts l := by
  obtain ⟨i, ⟨dy, ys, y1, y2, y3⟩, z⟩ := h
  exact ⟨i, ⟨dy, ys, by rw [upd_ne n1.symm]; exact y1, by rw [upd_ne n2.symm]; exact y2, Paired.mapP y3 fun _ _ q => q.same fun b zs eb => by rw [upd_ne (ne_of eb e (by intro z; cases z))]; exact eb⟩, z⟩
/-- factors by names of the text -/
def FacIn (ts : Tl) (fs : Fac) : Prop := Uniq fs ∧ ∀ p ∈ fs, NmIn ts p.1
theorem FacIn.len {fs : Fac} (h : FacIn ts fs) (t : TsOk ts) : fs.length < 50 := by
  obtain ⟨W, h1, h2⟩ := t.nm
  have nd : (fs.map (·.1)).Nodup := h.1
  have := nd_len (m := W) nd fun x hx => by
    obtain ⟨p, hp, rfl⟩ := List.mem_map.mp hx
    exact h2 _ (h.2 p hp)
  rw [List.length_map] at this
  omega
theorem FacIn.add {fs : Fac} (h : FacIn ts fs) {x : Str} (hx : NmIn ts x) (v : Int) : FacIn ts (addF fs x v) := by
  refine ⟨uniq_addF h.1 x v, fun p hp => ?_⟩
  have hm : p.1 ∈ (addF fs x v).map (·.1) := List.mem_map.mpr ⟨p, hp, rfl⟩
  rw [names_addF] at hm
  have old : p.1 ∈ fs.map (·.1) → NmIn ts p.1 := fun z => by
    obtain ⟨q, hq, e⟩ := List.mem_map.mp z
    rw [← e]
    exact h.2 q hq
  split at hm
  · exact old hm
  · rcases List.mem_append.mp hm with z | z
    · exact old z
    · rw [List.mem_singleton.mp z]
      exact hx
end
def WExpG (C S L D : Addr) (d : Nat) (ts : Tl) (H : Hp) (R : RdR) (m : Nat) (σ : L2.St) (H' : Hp) : Prop := ∃ (l2 : Tl) (sg : Bool) (fs : Fac) (c : Int) (nv xv : Option V), m = l2.length ∧ σ = [some (.ref S), some (.int c), some (.ref D), some (.int (sgn sg)), nv, xv] ∧ Bt S H H' ∧ RdG C H' S L d ts l2 ∧ H' D = some (.dK (kvS fs)) ∧ FacIn ts fs ∧ R = rSums l2
def tTailG (C : Addr) : TS := tIfS (tB (tMeth C "accept" (spAccG C) [] E0 (tVar 0) (tCons (tC (V.str "+")) tNil))) (tAsg (tC (V.int 1)) (gName 3)) (tIfS (tB (tMeth C "accept" (spAccG C) [] E0 (tVar 0) (tCons (tC (V.str "-")) tNil))) (tAsg (tUn (rU fun i => V.int (-i)) (tC (V.int 1))) (gName 3)) (tRet (tCall spExprOf [] E0 (tCons (tVar 1) (tCons (tVar 2) tNil)))))
theorem tail_okG {C S L D : Addr} {d n : Nat} {ts l1 : Tl} {H H5 : Hp} {R : RdR} {fs : Fac} {c : Int} {sv nv xv : Option V} {DD : Ends} (DS : D ≠ S)
    (b5 : Bt S H H5) (rg : RdG C H5 S L d ts l1) (eD : H5 D = some (.dK (kvS fs))) (eq : R = sumT l1) (u : FacIn ts fs) (ln : l1.length ≤ n)
    (hN : ∀ m σ' H', m < n → WExpG C S L D d ts H R m σ' H' → DD.nx σ' H') (hR : ∀ (v : V) (H' : Hp), Bt S H H' → RdG C H' S L d ts l1 → R = .ok l1 → DD.rt v H') :
    tTailG C DD [some (.ref S), some (.int c), some (.ref D), sv, nv, xv] H5 := by
  obtain ⟨dx, i, e1⟩ := rg.ins
  unfold sumT at eq
  refine ⟨_, rfl, S, dx, _, rfl, e1, rfl, S, L, d, ts, l1, "+", rfl, rg, fun hp => ⟨false, rfl, iteE rfl ?_⟩, fun hp H6 b6 rg6 => ⟨true, rfl, iteS rfl ?_⟩⟩
  · rw [if_neg (by rw [hp]; decide)] at eq
    refine ⟨_, rfl, S, dx, _, rfl, e1, rfl, S, L, d, ts, l1, "-", rfl, rg, fun hm => ⟨false, rfl, iteE rfl ?_⟩, fun hm H6 b6 rg6 => ⟨true, rfl, iteS rfl ?_⟩⟩
    · rw [if_neg (by rw [hm]; decide)] at eq
      refine ⟨_, rfl, _, rfl, c, D, fs, rfl, eD, u.1, Nat.lt_trans (u.len rg.ok) (by decide), fun p l H' s1 ho he => ?_⟩
      exact hR _ H' (b5.trans (.of s1)) (rg.same s1) eq
    · rw [if_pos hm] at eq
      have := isW_lt hm
      exact ⟨_, rfl, hN _ _ _ (by omega) ⟨l1.tail, true, fs, c, nv, xv, rfl, rfl, b5.trans b6, rg6, b6 _ _ eD DS, u, eq⟩⟩
  · rw [if_pos hp] at eq
    have := isW_lt hp
    exact hN _ _ _ (by omega) ⟨l1.tail, false, fs, c, nv, xv, rfl, rfl, b5.trans b6, rg6, b6 _ _ eD DS, u, eq⟩
section
variable {P : Program} {w : World} {K : PySem.W.Frag} {mg : Str → Option Value} {base : Heap} {C CS CT : Addr}
theorem ok_RExprG {f : Addr} {fd : FuncData} (F : Fun K "read_expression" "Reader.read_expression" sRExpr f fd) (T : TxSum mg) (TR : TxR K C) (MT : HasM P w K mg base (L2N.CX P w) 4 C "read_term" PRTerm (spTermG CS CT C)) (MA : HasM P w K mg base CX0 3 C "accept" PRAcc (spAccG C)) (GE : Has P w K mg base CX0 1 "expression_of" PExprOf spExprOf) : FnOk P w K mg base (L2N.CX P w) 5 f fd PRExpr (spRd CS CT C rExpr) := by
  refine Fun.okN F scRExpr (fun vs H Q E h => ?_) (fun cdv A outer s H vs Q E hr h => ?_)
  · obtain ⟨S, L, d, ts, l, rfl, _⟩ := h
    rfl
  · obtain ⟨S, L, d, ts, l, rfl, rg, k1, k2⟩ := h
    have hr3 := hr.mono (j := 3) (by decide)
    have hr1 := hr.mono (j := 1) (by decide)
    have hu := hu_of hr
    have tk := L2N.takes_of (X := cxOf (L2N.CX P w) P w K mg base NRExpr "Reader.read_expression" (defScope sRExpr) f cdv A outer s H E) (E := E) rfl rfl rfl rfl
    refine ⟨_, (pss_cons (ps_set (i := 1) scRExpr.nd rfl (Or.inl rfl) pe_int)
  (pss_cons (ps_set (i := 2) scRExpr.nd rfl (Or.inl rfl) pe_dnewK)
  (pss_cons (ps_set (i := 3) scRExpr.nd rfl (Or.inl rfl) (pe_ifExp (pt_val (pe_methH (pv 0) TR.cl MA hr3 pass0 (pa_cons pe_str pa_nil))) (pe_un un_neg pe_int) pe_int))
  (pss_one (ps_while (passes_of rfl) (pt_val pe_bl)
  (pss_cons (ps_asg (pe_methH0 (pv 0) TR.cl MT hr (fun pins σ H1 s1 e s' I c => L2N.passAt tk σ pins H1 s1 e s' I c)) (pg_tup (by rfl) (pgs_cons (pg_name (i := 4) scRExpr.nd rfl (Or.inl rfl)) (pgs_cons (pg_name (i := 5) scRExpr.nd rfl (Or.inl rfl)) pgs_nil))))
  (pss_cons (ps_if (pt_cmpR op_isN (pv 4) pe_non (nomark _))
  (pss_one (ps_aug (i := 1) scRExpr.nd rfl (Or.inl rfl) (pe_op op_mul (pv 3) (pv 5)) ip_add))
  (pss_one (ps_dput hu (pv 2) (pv 4) (pe_op op_add (pe_dget2 hu (pv 2) (pv 4) pe_int ⟨rfl, rfl, rfl, rfl⟩) (pe_op op_mul (pv 3) (pv 5))) rfl)))
  (pss_one (ps_if (pt_val (pe_methH (pv 0) TR.cl MA hr3 pass0 (pa_cons pe_str pa_nil)))
  (pss_one (ps_set (i := 3) scRExpr.nd rfl (Or.inl rfl) pe_int))
  (pss_one (ps_if (pt_val (pe_methH (pv 0) TR.cl MA hr3 pass0 (pa_cons pe_str pa_nil)))
  (pss_one (ps_set (i := 3) scRExpr.nd rfl (Or.inl rfl) (pe_un un_neg pe_int)))
  (pss_one (ps_ret (pe_callH GE hr1 rfl pass0 (pa_cons (pv 1) (pa_cons (pv 2) pa_nil)))))))))))))))), ?_⟩
    refine fun D hD => ?_
    have sD := same_new (o := .dK []) hD
    obtain ⟨DS, DL⟩ := rg.ne hD
    have rg0 := rg.same sD
    have eD : upd H D (.dK []) D = some (.dK []) := upd_same
    generalize upd H D (.dK []) = H0 at *
    obtain ⟨dx, i, e1⟩ := rg0.ins
    have xeq := expr_eq l
    refine ⟨_, rfl, S, dx, _, rfl, e1, rfl, S, L, d, ts, l, "-", rfl, rg0, ?_⟩
    refine (fun (key : ∀ (sg : Bool) (l1 : Tl) (H1 : Hp), Bt S H H1 → RdG C H1 S L d ts l1 → H1 D = some (.dK []) → rExpr l = rSums l1 → tWhile _ _ _ [some (.ref S), some (.int 0), some (.ref D), some (.int (sgn sg)), none, none] H1) =>
      ⟨fun hz => ⟨false, rfl, iteE rfl (key false l H0 (.of sD) rg0 eD (by rw [xeq, if_neg (by rw [hz]; decide)]))⟩, fun hz H1 b1 rg1 => ⟨true, rfl, iteS rfl ⟨_, rfl, key true l.tail H1 ((Bt.of sD).trans b1) rg1 (b1 _ _ eD DS) (by rw [xeq, if_pos hz])⟩⟩⟩) ?_
    intro sg0 l0 H1 b1 rg1 eD1 eq0
    refine ⟨WExpG C S L D d ts H (rExpr l), ⟨_, l0, sg0, [], 0, none, none, rfl, rfl, b1, rg1, eD1, ⟨List.nodup_nil, fun p hp => nomatch hp⟩, eq0⟩, ?_⟩
    rintro m σ H2 ⟨l2, sg, fs, c, nv, xv, rfl, rfl, b2, rg2, eD2, u, eq⟩
    obtain ⟨dx2, i2, e2⟩ := rg2.ins
    rw [sums_eq] at eq
    refine ⟨true, rfl, iteS rfl ⟨fun σ' H' => ∃ m', m' < l2.length ∧ WExpG C S L D d ts H (rExpr l) m' σ' H', fun _ _ h => h, ?_⟩⟩
    refine ⟨_, rfl, S, dx2, _, rfl, e2, rfl, S, L, d, ts, l2, rfl, rg2, fun l3 h3 nm n p H3 hnm b3 rg3 hp => ⟨p, _, rfl, SqT.of hp, rfl, _, _, rfl, _, _, rfl, rfl, ?_⟩, fun e h3 => (k2 e (eq.trans (by rw [h3]; rfl))).bt b2⟩
    have eD3 := b3 _ _ eD2 DS
    have ln := (suf_term _ _ h3).length_le
    rw [h3] at eq
    have eq : rExpr l = sumT l3 := eq
    cases nm with
    | none =>
      refine ⟨_, rfl, rfl, _, rfl, iteS (decide_eq_true rfl) ?_⟩
      refine ⟨_, rfl, _, rfl, _, rfl, _, _, rfl, rfl, .inl (sgn_lt sg), _, _, rfl, rfl, ?_⟩
      exact tail_okG DS (b2.trans b3) rg3 eD3 eq u ln (fun m σ' H' h1 h2 => ⟨m, h1, h2⟩) (fun v H' b' r' e' => k1 _ e' v H' b' r')
    | some x =>
      refine ⟨_, rfl, rfl, _, rfl, iteE (decide_eq_false fun z => by cases z) ?_⟩
      refine ⟨_, rfl, D, rfl, .inl ⟨_, .inl eD3⟩, _, rfl, valV (kvS fs) (Sum.inr x), .inl ⟨kvS fs, Sum.inr x, .inl eD3, rfl, rfl⟩, ?_⟩
      rw [val_getD]
      have u5 := u.add (hnm x rfl) (sgn sg * n)
      have b5 : Bt S H (upd H3 D (.dK (kvS (addF fs x (sgn sg * n))))) := fun b o e h => by
        have bD : b ≠ D := fun z => by rw [z, hD] at e; cases e
        rw [upd_ne bD]
        exact b3 _ _ (b2 _ _ e h) h
      have rg5 : RdG C (upd H3 D (.dK (kvS (addF fs x (sgn sg * n))))) S L d ts l3 := rg3.ownK eD3 DS DL
      have lf := u.len rg3.ok
      refine ⟨_, rfl, _, rfl, _, _, rfl, rfl, .inl (sgn_lt sg), _, _, rfl, rfl, _, rfl, _, rfl, D, _, rfl, .inl ⟨kvS fs, Sum.inr x, eD3, rfl, small1000 (by unfold kvS; rw [List.length_map]; omega), rfl⟩, ?_⟩
      rw [put_kvS u.1]
      exact tail_okG DS b5 rg5 upd_same eq u5 ln (fun m σ' H' h1 h2 => ⟨m, h1, h2⟩) (fun v H' b' r' e' => k1 _ e' v H' b' r')
end

/-! ### k05: read_arg, read_param, read_args -/
abbrev sRArg : Stmt := inClass (topS 16) 10
abbrev NRArg : List Str := ["self"]
abbrev PRArg : List Str := ["self"]
theorem scRArg : FnScope NRArg PRArg (defScope sRArg) := ⟨rfl, rfl, rfl, by decide +kernel, rfl, by decide +kernel, by decide +kernel⟩
abbrev sRArgs : Stmt := inClass (topS 16) 11
abbrev NRArgs : List Str := ["self", "args"]
abbrev PRArgs : List Str := ["self"]
theorem scRArgs : FnScope NRArgs PRArgs (defScope sRArgs) := ⟨rfl, rfl, rfl, by decide +kernel, rfl, by decide +kernel, by decide +kernel⟩
abbrev sRPar : Stmt := inClass (topS 16) 17
abbrev NRPar : List Str := ["self", "by_place"]
abbrev PRPar : List Str := ["self"]
theorem scRPar : FnScope NRPar PRPar (defScope sRPar) := ⟨rfl, rfl, rfl, by decide +kernel, rfl, by decide +kernel, by decide +kernel⟩
section
variable {C S L X : Addr} {H H' H2 : Hp} {d n : Nat} {ts l2 l3 : Tl} {xs : List V}
/-- a list of the reader's own, with room for n more -/
def LsG (C S L X : Addr) (d : Nat) (ts : Tl) (H H' : Hp) (n : Nat) (l2 : Tl) : Prop := (Bt S H H' ∧ RdG C H' S L d ts l2) ∧ ((∀ b o, H b = some o → b ≠ S → b ≠ X) ∧ X ≠ S ∧ X ≠ L) ∧ ∃ xs, H' X = some (.lst xs) ∧ xs.length + n ≤ 1000002
theorem LsG.new (b : Bt S H H2) (rg : RdG C H2 S L d ts l2) (hX : H2 X = none) (hn : xs.length + n ≤ 1000002) : LsG C S L X d ts H (upd H2 X (.lst xs)) n l2 := by
  have s2 := same_new (o := .lst xs) hX
  exact ⟨⟨b.trans (.of s2), rg.same s2⟩, ⟨fun c o e hc => ne_of_none (b _ _ e hc) hX, rg.ne hX⟩, xs, upd_same, hn⟩
theorem LsG.read (h : LsG C S L X d ts H H' n l2) (b : Bt S H' H2) (rg : RdG C H2 S L d ts l3) : LsG C S L X d ts H H2 n l3 := by
  obtain ⟨⟨h1, _⟩, h3, xs, h4, h5⟩ := h
  exact ⟨⟨h1.trans b, rg⟩, h3, xs, b _ _ h4 h3.2.1, h5⟩
theorem LsG.le {m : Nat} (h : LsG C S L X d ts H H' n l2) (hm : m ≤ n) : LsG C S L X d ts H H' m l2 := by
  obtain ⟨h1, h3, xs, h4, h5⟩ := h
  exact ⟨h1, h3, xs, h4, by omega⟩
theorem LsG.put (h : LsG C S L X d ts H H' (n + 1) l2) (e : H' X = some (.lst xs)) (v : V) : LsG C S L X d ts H (upd H' X (.lst (xs ++ [v]))) n l2 := by
  obtain ⟨⟨h1, h2⟩, h3, ys, h4, h5⟩ := h
  rw [e] at h4
  cases h4
  refine ⟨⟨fun c o e' hc => ?_, h2.own e h3.2.1 h3.2.2⟩, h3, _, upd_same, by rw [List.length_append]; show xs.length + 1 + n ≤ _; omega⟩
  rw [upd_ne (h3.1 c o e' hc)]
  exact h1 c o e' hc
theorem LsG.rg (h : LsG C S L X d ts H H' n l2) : RdG C H' S L d ts l2 := h.1.2
theorem LsG.bt (h : LsG C S L X d ts H H' n l2) : Bt S H H' := h.1.1
theorem LsG.lst (h : LsG C S L X d ts H H' n l2) : ∃ xs, H' X = some (.lst xs) ∧ xs.length + n ≤ 1000002 := h.2.2
end
section
variable {P : Program} {w : World} {K : PySem.W.Frag} {mg : Str → Option Value} {base : Heap} {C CS CT : Addr}
theorem ok_RArgG {f : Addr} {fd : FuncData} (F : Fun K "read_arg" "Reader.read_arg" sRArg f fd) (TR : TxR K C) (MN : HasM P w K mg base (L2N.CX P w) 3 C "read_name" PRName (spRdN CS CT C rName)) (MA : HasM P w K mg base CX0 3 C "accept" PRAcc (spAccG C)) (ME : HasM P w K mg base (L2N.CX P w) 5 C "read_expression" PRExpr (spRd CS CT C rExpr)) : FnOk P w K mg base (L2N.CX P w) 6 f fd PRArg (spRd CS CT C rArg) := by
  refine Fun.okN F scRArg (fun vs H Q E h => ?_) (fun cdv A outer s H vs Q E hr h => ?_)
  · obtain ⟨S, L, d, ts, l, rfl, _⟩ := h
    rfl
  · obtain ⟨S, L, d, ts, l, rfl, rg, k1, k2⟩ := h
    have hr3 := hr.mono (j := 3) (by decide)
    obtain ⟨dx, i, eS⟩ := rg.ins
    have tk := L2N.takes_of (X := cxOf (L2N.CX P w) P w K mg base NRArg "Reader.read_arg" (defScope sRArg) f cdv A outer s H E) (E := E) rfl rfl rfl rfl
    refine ⟨_, (pss_cons (ps_if (pt_val (pe_methH (pv 0) TR.cl MA hr3 pass0 (pa_cons pe_str pa_nil)))
  (pss_one (ps_ret (pe_tup (pa_cons pe_str (pa_cons (pe_methH0 (pv 0) TR.cl MN hr3 (fun pins σ H1 s1 e s' I c => L2N.passAt tk σ pins H1 s1 e s' I c)) pa_nil)))))
  pss_nil)
  (pss_one (ps_ret (pe_tup (pa_cons pe_str (pa_cons (pe_methH0 (pv 0) TR.cl ME hr (fun pins σ H1 s1 e s' I c => L2N.passAt tk σ pins H1 s1 e s' I c)) pa_nil)))))), ?_⟩
    unfold rArg at k1 k2
    refine ⟨_, rfl, S, dx, _, rfl, eS, rfl, S, L, d, ts, l, "&", rfl, rg, fun hz => ⟨false, rfl, iteE rfl ?_⟩, fun hz H1 b1 rg1 => ⟨true, rfl, iteS rfl ?_⟩⟩
    · rw [if_neg (by rw [hz]; decide)] at k1 k2
      refine ⟨_, rfl, S, dx, _, rfl, eS, rfl, S, L, d, ts, l, rfl, rg, fun l' h1 v H2 b2 rg2 => ⟨(by show 2 ≤ sizeLine; decide), fun p hp => ?_⟩, k2⟩
      have s3 := same_new (o := .tup [.str "value", v]) hp
      exact k1 l' h1 _ _ (b2.trans (.of s3)) (rg2.same s3)
    · rw [if_pos hz] at k1 k2
      obtain ⟨dx1, i1, eS1⟩ := rg1.ins
      refine ⟨_, rfl, S, dx1, _, rfl, eS1, rfl, S, L, d, ts, l.tail, rfl, rg1, fun l' h1 H2 b2 rg2 => ⟨(by show 2 ≤ sizeLine; decide), fun p hp => ?_⟩, fun e h1 => (k2 e h1).bt b1⟩
      have s3 := same_new (o := .tup [.str "place", .str (textH l.tail)]) hp
      exact k1 l' h1 _ _ ((b1.trans b2).trans (.of s3)) (rg2.same s3)
theorem ok_RParG {f : Addr} {fd : FuncData} (F : Fun K "read_param" "Reader.read_param" sRPar f fd) (TR : TxR K C) (MN : HasM P w K mg base (L2N.CX P w) 3 C "read_name" PRName (spRdN CS CT C rName)) (MA : HasM P w K mg base CX0 3 C "accept" PRAcc (spAccG C)) : FnOk P w K mg base (L2N.CX P w) 4 f fd PRPar (spRd CS CT C rParam) := by
  refine Fun.okN F scRPar (fun vs H Q E h => ?_) (fun cdv A outer s H vs Q E hr h => ?_)
  · obtain ⟨S, L, d, ts, l, rfl, _⟩ := h
    rfl
  · obtain ⟨S, L, d, ts, l, rfl, rg, k1, k2⟩ := h
    obtain ⟨dx, i, eS⟩ := rg.ins
    have tk := L2N.takes_of (X := cxOf (L2N.CX P w) P w K mg base NRPar "Reader.read_param" (defScope sRPar) f cdv A outer s H E) (E := E) rfl rfl rfl rfl
    refine ⟨_, (pss_cons (ps_set (i := 1) scRPar.nd rfl (Or.inl rfl) (pe_methH (pv 0) TR.cl MA hr pass0 (pa_cons pe_str pa_nil)))
  (pss_one (ps_ret (pe_tup (pa_cons (pe_methH0 (pv 0) TR.cl MN hr (fun pins σ H1 s1 e s' I c => L2N.passAt tk σ pins H1 s1 e s' I c)) (pa_cons (pv 1) pa_nil)))))), ?_⟩
    unfold rParam at k1 k2
    refine ⟨_, rfl, S, dx, _, rfl, eS, rfl, S, L, d, ts, l, "&", rfl, rg, fun hz => ?_, fun hz H1 b1 rg1 => ?_⟩
    · rw [if_neg (by rw [hz]; decide)] at k1 k2
      refine ⟨_, rfl, S, dx, _, rfl, eS, rfl, S, L, d, ts, l, rfl, rg, fun l' h1 H2 b2 rg2 => ⟨_, rfl, (by show 2 ≤ sizeLine; decide), fun p hp => ?_⟩, k2⟩
      have s3 := same_new (o := .tup [.str (textH l), .bl false]) hp
      exact k1 l' h1 _ _ (b2.trans (.of s3)) (rg2.same s3)
    · rw [if_pos hz] at k1 k2
      obtain ⟨dx1, i1, eS1⟩ := rg1.ins
      refine ⟨_, rfl, S, dx1, _, rfl, eS1, rfl, S, L, d, ts, l.tail, rfl, rg1, fun l' h1 H2 b2 rg2 => ⟨_, rfl, (by show 2 ≤ sizeLine; decide), fun p hp => ?_⟩, fun e h1 => (k2 e h1).bt b1⟩
      have s3 := same_new (o := .tup [.str (textH l.tail), .bl true]) hp
      exact k1 l' h1 _ _ ((b1.trans b2).trans (.of s3)) (rg2.same s3)
theorem ok_RArgsG {f : Addr} {fd : FuncData} (F : Fun K "read_args" "Reader.read_args" sRArgs f fd) (T : TxRd mg) (TR : TxR K C) (MG : HasM P w K mg base (L2N.CX P w) 6 C "read_arg" PRArg (spRd CS CT C rArg)) (MA : HasM P w K mg base CX0 3 C "accept" PRAcc (spAccG C)) (MX : HasM P w K mg base (L2N.CX P w) 4 C "expect" PRExp (spExpG CS CT C)) : FnOk P w K mg base (L2N.CX P w) 7 f fd PRArgs (spRd CS CT C rArgs) := by
  refine Fun.okN F scRArgs (fun vs H Q E h => ?_) (fun cdv A outer s H vs Q E hr h => ?_)
  · obtain ⟨S, L, d, ts, l, rfl, _⟩ := h
    rfl
  · obtain ⟨S, L, d, ts, l, rfl, rg, k1, k2⟩ := h
    have hr3 := hr.mono (j := 3) (by decide)
    have hr4 := hr.mono (j := 4) (by decide)
    obtain ⟨dx, i, eS⟩ := rg.ins
    have tk := L2N.takes_of (X := cxOf (L2N.CX P w) P w K mg base NRArgs "Reader.read_args" (defScope sRArgs) f cdv A outer s H E) (E := E) rfl rfl rfl rfl
    refine ⟨_, (pss_cons (ps_expr (pe_methH (pv 0) TR.cl MX hr4 (fun pins σ H1 s1 e s' I c => L2N.passAt tk σ pins H1 s1 e s' I c) (pa_cons pe_str pa_nil)))
  (pss_cons (ps_set (i := 1) scRArgs.nd rfl (Or.inl rfl) (pe_lst pa_nil))
  (pss_cons (ps_if (pt_val (pe_methH (pv 0) TR.cl MA hr3 pass0 (pa_cons pe_str pa_nil)))
  (pss_one (ps_ret (pe_tup pa_nil)))
  pss_nil)
  (pss_cons (ps_expr (pe_bm PySem.F.plainAttrs_list PySem.F.slot_list_append PySem.F.type_list_append mt_append (pv 1) (pa_cons (pe_methH0 (pv 0) TR.cl MG hr (fun pins σ H1 s1 e s' I c => L2N.passAt tk σ pins H1 s1 e s' I c)) pa_nil)))
  (pss_cons (ps_while (passes_of rfl) (pt_val (pe_methH (pv 0) TR.cl MA hr3 pass0 (pa_cons pe_str pa_nil)))
  (pss_one (ps_expr (pe_bm PySem.F.plainAttrs_list PySem.F.slot_list_append PySem.F.type_list_append mt_append (pv 1) (pa_cons (pe_methH0 (pv 0) TR.cl MG hr (fun pins σ H1 s1 e s' I c => L2N.passAt tk σ pins H1 s1 e s' I c)) pa_nil)))))
  (pss_cons (ps_expr (pe_methH (pv 0) TR.cl MX hr4 (fun pins σ H1 s1 e s' I c => L2N.passAt tk σ pins H1 s1 e s' I c) (pa_cons pe_str pa_nil)))
  (pss_one (ps_ret (pe_callTy call_tuple_of (by rfl) T.n_tuple bb_tuple (pa_cons (pv 1) pa_nil)))))))))), ?_⟩
    have cn : isW "," [] = false := by decide +kernel
    have eq0 : rArgs l = andR (rExp "(" l) fun l1 => if isW ")" l1 = true then .ok l1.tail else andR (rArg l1) fun l2 => andR (rMore rArg l2.length l2) (rExp ")") := rfl
    refine ⟨_, rfl, S, dx, _, rfl, eS, rfl, S, L, d, ts, l, "(", rfl, rg, fun l1 h1 H1 b1 rg1 => ⟨(by show 0 ≤ sizeLine; decide), fun X hX => ?_⟩, fun e h1 => k2 e (by rw [eq0, h1]; rfl)⟩
    rw [h1] at eq0
    have eq0 : rArgs l = if isW ")" l1 = true then .ok l1.tail else andR (rArg l1) fun l2 => andR (rMore rArg l2.length l2) (rExp ")") := eq0
    have lg : LsG C S L X d ts H (upd H1 X (.lst [])) (l1.length + 1) l1 := .new b1 rg1 hX (by have := rg1.len; show 0 + _ ≤ _; omega)
    have eX : upd H1 X (.lst []) X = some (.lst []) := upd_same
    generalize upd H1 X (.lst []) = H2 at *
    obtain ⟨dx2, i2, e2⟩ := lg.rg.ins
    refine ⟨_, rfl, S, dx2, _, rfl, e2, rfl, S, L, d, ts, l1, ")", rfl, lg.rg, fun hz => ⟨false, rfl, iteE rfl ?_⟩, fun hz H3 b3 rg3 => ⟨true, rfl, iteS rfl ⟨(by show 0 ≤ sizeLine; decide), fun t ht => ?_⟩⟩⟩
    case refine_2 =>
      rw [if_pos hz] at eq0
      have s4 := same_new (o := .tup []) ht
      exact k1 _ eq0 _ _ ((lg.bt.trans b3).trans (.of s4)) (rg3.same s4)
    rw [if_neg (by rw [hz]; decide)] at eq0
    refine ⟨_, rfl, .inl ⟨rfl, _, SqL.of eX⟩, _, rfl, S, dx2, _, rfl, e2, rfl, S, L, d, ts, l1, rfl, lg.rg, fun l2 h2 v H3 b3 rg3 => ?_, fun e h2 => (k2 e (by rw [eq0, h2]; rfl)).bt lg.bt⟩
    have n2 := (suf_arg _ _ h2).length_le
    rw [h2] at eq0
    have eq0 : rArgs l = andR (rMore rArg l2.length l2) (rExp ")") := eq0
    have lg3 := (lg.read b3 rg3).le (m := l2.length + 1) (by omega)
    have eX3 := b3 _ _ eX lg.2.1.2.1
    have lg4 := lg3.put eX3 v
    refine ⟨X, _, _, rfl, rfl, eX3, by decide, ?_⟩
    generalize upd H3 X (.lst ([] ++ [v])) = H4 at *
    refine ⟨fun m σ H' => ∃ (l2 : Tl), m = l2.length ∧ σ = [some (.ref S), some (.ref X)] ∧ LsG C S L X d ts H H' l2.length l2 ∧ rArgs l = andR (rMore rArg l2.length l2) (rExp ")"), ⟨_, l2, rfl, rfl, lg4, eq0⟩, ?_⟩
    rintro m σ H5 ⟨l5, rfl, rfl, lg5, eq5⟩
    obtain ⟨dx5, i5, e5⟩ := lg5.rg.ins
    rw [show rMore rArg l5.length l5 = _ from loop_eq suf_arg cn l5] at eq5
    refine ⟨_, rfl, S, dx5, _, rfl, e5, rfl, S, L, d, ts, l5, ",", rfl, lg5.rg, fun hz5 => ⟨false, rfl, iteF ?_⟩, fun hz5 H6 b6 rg6 => ⟨true, rfl, iteT ?_⟩⟩
    · rw [if_neg (by rw [hz5]; decide)] at eq5
      have eq5 : rArgs l = rExp ")" l5 := eq5
      refine ⟨_, rfl, S, dx5, _, rfl, e5, rfl, S, L, d, ts, l5, ")", rfl, lg5.rg, fun l6 h6 H6 b6 rg6 => ?_, fun e h6 => (k2 e (eq5.trans h6)).bt lg5.bt⟩
      have lg6 := lg5.read b6 rg6
      obtain ⟨xs, eX6, _⟩ := lg6.lst
      refine ⟨_, rfl, X, xs, rfl, .inl ⟨SqL.of eX6, fun q hq => ?_⟩⟩
      have s7 := same_new (o := .tup xs) hq
      exact k1 _ (eq5.trans h6) _ _ (lg6.bt.trans (.of s7)) (lg6.rg.same s7)
    · rw [if_pos hz5] at eq5
      have lt5 := isW_lt hz5
      have lg6 := lg5.read b6 rg6
      obtain ⟨dx6, i6, e6⟩ := lg6.rg.ins
      obtain ⟨ys, eX6, _⟩ := lg6.lst
      refine ⟨fun σ' H' => ∃ (l7 : Tl), l7.length < l5.length ∧ σ' = [some (.ref S), some (.ref X)] ∧ LsG C S L X d ts H H' l7.length l7 ∧ rArgs l = andR (rMore rArg l7.length l7) (rExp ")"), fun σ' H' ⟨l7, u0, u1, u2, u3⟩ => ⟨l7.length, u0, l7, rfl, u1, u2, u3⟩, ?_⟩
      refine ⟨_, rfl, .inl ⟨rfl, _, SqL.of eX6⟩, _, rfl, S, dx6, _, rfl, e6, rfl, S, L, d, ts, l5.tail, rfl, lg6.rg, fun l7 h7 v7 H7 b7 rg7 => ?_, fun e h7 => (k2 e (by rw [eq5, h7]; rfl)).bt lg6.bt⟩
      have n7 := (suf_arg _ _ h7).length_le
      have lg7 := (lg6.read b7 rg7).le (m := l7.length + 1) (by omega)
      have eX7 := b7 _ _ eX6 lg6.2.1.2.1
      rw [h7] at eq5
      obtain ⟨zs, eZ, lz⟩ := lg7.lst
      rw [eX7] at eZ
      cases eZ
      refine ⟨X, _, _, rfl, rfl, eX7, Nat.lt_of_le_of_lt (show ys.length ≤ 1000002 by omega) (by decide), l7, by omega, rfl, lg7.put eX7 v7, eq5⟩
end

/-! ### k05: read_action -/
abbrev sRAct : Stmt := inClass (topS 16) 14
abbrev NRAct : List Str := ["self", "name", "callee"]
abbrev PRAct : List Str := ["self"]
theorem scRAct : FnScope NRAct PRAct (defScope sRAct) := ⟨rfl, rfl, rfl, by decide +kernel, rfl, by decide +kernel, by decide +kernel⟩
section
variable {P : Program} {w : World} {K : PySem.W.Frag} {mg : Str → Option Value} {base : Heap} {C CS CT : Addr}
theorem ok_RActG {f : Addr} {fd : FuncData} (F : Fun K "read_action" "Reader.read_action" sRAct f fd) (TR : TxR K C) (MC : HasM P w K mg base CX0 1 C "current" PRCur (spCurG C)) (MI : HasM P w K mg base CX0 2 C "is_next" PRNext (spNxtG C)) (MN : HasM P w K mg base (L2N.CX P w) 3 C "read_name" PRName (spRdN CS CT C rName)) (MA : HasM P w K mg base CX0 3 C "accept" PRAcc (spAccG C)) (MX : HasM P w K mg base (L2N.CX P w) 4 C "expect" PRExp (spExpG CS CT C)) (ME : HasM P w K mg base (L2N.CX P w) 5 C "read_expression" PRExpr (spRd CS CT C rExpr)) (MG : HasM P w K mg base (L2N.CX P w) 7 C "read_args" PRArgs (spRd CS CT C rArgs)) : FnOk P w K mg base (L2N.CX P w) 8 f fd PRAct (spRd CS CT C rAction) := by
  refine Fun.okN F scRAct (fun vs H Q E h => ?_) (fun cdv A outer s H vs Q E hr h => ?_)
  · obtain ⟨S, L, d, ts, l, rfl, _⟩ := h
    rfl
  · obtain ⟨S, L, d, ts, l, rfl, rg, k1, k2⟩ := h
    have hr1 := hr.mono (j := 1) (by decide)
    have hr2 := hr.mono (j := 2) (by decide)
    have hr3 := hr.mono (j := 3) (by decide)
    have hr4 := hr.mono (j := 4) (by decide)
    have hr5 := hr.mono (j := 5) (by decide)
    obtain ⟨dx, i, eS⟩ := rg.ins
    have tk := L2N.takes_of (X := cxOf (L2N.CX P w) P w K mg base NRAct "Reader.read_action" (defScope sRAct) f cdv A outer s H E) (E := E) rfl rfl rfl rfl
    refine ⟨_, (pss_cons (ps_set (i := 1) scRAct.nd rfl (Or.inl rfl) (pe_methH0 (pv 0) TR.cl MN hr3 (fun pins σ H1 s1 e s' I c => L2N.passAt tk σ pins H1 s1 e s' I c)))
  (pss_cons (ps_if (pt_val (pe_methH (pv 0) TR.cl MI hr2 pass0 (pa_cons pe_str pa_nil)))
  (pss_one (ps_ret (pe_tup (pa_cons pe_str (pa_cons pe_non (pa_cons (pv 1) (pa_cons (pe_methH0 (pv 0) TR.cl MG hr (fun pins σ H1 s1 e s' I c => L2N.passAt tk σ pins H1 s1 e s' I c)) pa_nil)))))))
  pss_nil)
  (pss_cons (ps_expr (pe_methH (pv 0) TR.cl MX hr4 (fun pins σ H1 s1 e s' I c => L2N.passAt tk σ pins H1 s1 e s' I c) (pa_cons pe_str pa_nil)))
  (pss_cons (ps_if (pt_val (pe_methH (pv 0) TR.cl MA hr3 pass0 (pa_cons pe_str pa_nil)))
  (pss_one (ps_ret (pe_tup (pa_cons pe_str (pa_cons (pv 1) pa_nil)))))
  pss_nil)
  (pss_cons (ps_if (PW.pt (pw_and (pt_cmpR op_eq (pe_ix (r := rIxT K) ix_tup (pe_methH0 (pv 0) TR.cl MC hr1 pass0) pe_int (fun _ _ => rfl)) pe_str (nomark _)) (pw_and1 (pt_cmpR op_eq (pe_ix (r := rIxT K) ix_tup (pe_ix (r := rIxL K) ix_list (pe_fld (pv 0) rfl) (pe_op op_add (pe_fld (pv 0) rfl) pe_int) (fun _ _ => rfl)) pe_int (fun _ _ => rfl)) pe_str (nomark _)))))
  (pss_cons (ps_set (i := 2) scRAct.nd rfl (Or.inl rfl) (pe_methH0 (pv 0) TR.cl MN hr3 (fun pins σ H1 s1 e s' I c => L2N.passAt tk σ pins H1 s1 e s' I c)))
  (pss_one (ps_ret (pe_tup (pa_cons pe_str (pa_cons (pv 1) (pa_cons (pv 2) (pa_cons (pe_methH0 (pv 0) TR.cl MG hr (fun pins σ H1 s1 e s' I c => L2N.passAt tk σ pins H1 s1 e s' I c)) pa_nil))))))))
  pss_nil)
  (pss_one (ps_ret (pe_tup (pa_cons pe_str (pa_cons (pv 1) (pa_cons (pe_methH0 (pv 0) TR.cl ME hr5 (fun pins σ H1 s1 e s' I c => L2N.passAt tk σ pins H1 s1 e s' I c)) pa_nil))))))))))), ?_⟩
    have eq0 : rAction l = andR (rName l) fun l1 => if isW "(" l1 = true then rArgs l1 else andR (rExp "=" l1) rSet := rfl
    refine ⟨_, rfl, S, dx, _, rfl, eS, rfl, S, L, d, ts, l, rfl, rg, fun l1 h1 H1 b1 rg1 => ?_, fun e h1 => k2 e (by rw [eq0, h1]; rfl)⟩
    rw [h1] at eq0
    have eq0 : rAction l = if isW "(" l1 = true then rArgs l1 else andR (rExp "=" l1) rSet := eq0
    obtain ⟨dx1, i1, eS1⟩ := rg1.ins
    refine ⟨_, rfl, S, dx1, _, rfl, eS1, rfl, S, L, d, ts, l1, "(", rfl, rg1, ?_⟩
    cases hz : isW "(" l1 with
    | true =>
      rw [if_pos hz] at eq0
      refine ⟨true, rfl, iteS rfl ?_⟩
      refine ⟨_, rfl, _, rfl, S, dx1, _, rfl, eS1, rfl, S, L, d, ts, l1, rfl, rg1, fun l2 h2 v H2 b2 rg2 => ⟨(by show 4 ≤ sizeLine; decide), fun p hp => ?_⟩, fun e h2 => (k2 e (eq0.trans h2)).bt b1⟩
      have s3 := same_new (o := .tup [.str "call", .non, .str (textH l), v]) hp
      exact k1 _ (eq0.trans h2) _ _ ((b1.trans b2).trans (.of s3)) (rg2.same s3)
    | false =>
      rw [if_neg (by rw [hz]; decide)] at eq0
      refine ⟨false, rfl, iteE rfl ?_⟩
      refine ⟨_, rfl, S, dx1, _, rfl, eS1, rfl, S, L, d, ts, l1, "=", rfl, rg1, fun l2 h2 H2 b2 rg2 => ?_, fun e h2 => (k2 e (by rw [eq0, h2]; rfl)).bt b1⟩
      rw [h2] at eq0
      have eq0 : rAction l = rSet l2 := eq0
      have b12 := b1.trans b2
      obtain ⟨dx2, i2, eS2⟩ := rg2.ins
      unfold rSet at eq0
      refine ⟨_, rfl, S, dx2, _, rfl, eS2, rfl, S, L, d, ts, l2, "?", rfl, rg2, fun hq => ⟨false, rfl, iteE rfl ?_⟩, fun hq H3 b3 rg3 => ⟨true, rfl, iteS rfl ?_⟩⟩
      case refine_2 =>
        rw [if_pos hq] at eq0
        refine ⟨_, rfl, (by show 2 ≤ sizeLine; decide), fun p hp => ?_⟩
        have s4 := same_new (o := .tup [.str "input", .str (textH l)]) hp
        exact k1 _ eq0 _ _ ((b12.trans b3).trans (.of s4)) (rg3.same s4)
      rw [if_neg (by rw [hq]; decide)] at eq0
      refine ⟨_, rfl, S, dx2, _, rfl, eS2, rfl, S, L, d, ts, l2, rfl, rg2, fun p hp => ⟨p, _, _, _, rfl, rfl, SqT.of hp, rfl, rfl, decide (kindH l2 = "name"), by rw [dec_str], ?_⟩⟩
      by_cases hn : kindH l2 = "name"
      case neg =>
        rw [if_neg (by unfold isN; rw [decide_eq_false hn, Bool.false_and]; decide)] at eq0
        refine iteE (decide_eq_false hn) ?_
        refine ⟨_, rfl, _, rfl, S, dx2, _, rfl, eS2, rfl, S, L, d, ts, l2, rfl, rg2, fun l3 h3 v H3 b3 rg3 => ⟨(by show 3 ≤ sizeLine; decide), fun p hp => ?_⟩, fun e h3 => (k2 e (eq0.trans h3)).bt b12⟩
        have s4 := same_new (o := .tup [.str "set", .str (textH l), v]) hp
        exact k1 _ (eq0.trans h3) _ _ ((b12.trans b3).trans (.of s4)) (rg3.same s4)
      refine iteS (decide_eq_true hn) ?_
      have hN : isN l2 = true := decide_eq_true hn
      have hE : EndT l2 ∧ TsOk ts := let ⟨_, _, _, e⟩ := rg2; e
      obtain ⟨y, r, ey⟩ := (hE.1.n hN).ne
      obtain ⟨j, x, r2, el, ra, ht, hd⟩ := rg2.tok
      have er : ts.drop (j + 1) = y :: r := by rw [hd, ← ey, el]; rfl
      have hu2 : ts[j + 1]? = some y := by
        have := congrArg List.head? er
        rw [List.head?_drop] at this
        exact this
      obtain ⟨dx3, xs3, e3, e4, e5⟩ := id ra
      have hl : j + 1 < xs3.length := by rw [Paired.length e5]; exact (List.getElem?_eq_some_iff.mp hu2).1
      obtain ⟨tk', h1', q, h2', h3'⟩ := Paired.at e5 (List.getElem?_eq_getElem hl)
      rw [hu2] at h1'
      cases h1'
      refine ⟨_, rfl, S, C, dx3, _, _, rfl, e3, TR.cl, TR.nT, rfl, _, rfl, S, C, dx3, _, _, rfl, e3, TR.cl, TR.nI, rfl, _, _, rfl, rfl, L, _, _, _, rfl, rfl, SqL.of e4, ?_, q, _, _, _, rfl, rfl, SqT.of h3', rfl, rfl, decide (y.2.1 = "("), by rw [dec_str], ?_⟩
      · exact (atI_nat (j := j + 1) (by rw [List.getElem?_eq_getElem hl, h2']))
      have ety : textH l2.tail = y.2.1 := by rw [ey]; rfl
      by_cases hp : y.2.1 = "("
      case neg =>
        rw [if_neg (by rw [ety, decide_eq_false hp, Bool.and_false]; decide)] at eq0
        refine iteE (decide_eq_false hp) ?_
        refine ⟨_, rfl, _, rfl, S, dx2, _, rfl, eS2, rfl, S, L, d, ts, l2, rfl, rg2, fun l3 h3 v H3 b3 rg3 => ⟨(by show 3 ≤ sizeLine; decide), fun p hp => ?_⟩, fun e h3 => (k2 e (eq0.trans h3)).bt b12⟩
        have s4 := same_new (o := .tup [.str "set", .str (textH l), v]) hp
        exact k1 _ (eq0.trans h3) _ _ ((b12.trans b3).trans (.of s4)) (rg3.same s4)
      rw [if_pos (by rw [ety, decide_eq_true hp, hN]; rfl)] at eq0
      refine iteS (decide_eq_true hp) ?_
      refine ⟨_, rfl, S, dx2, _, rfl, eS2, rfl, S, L, d, ts, l2, rfl, rg2, fun l3 h3 H3 b3 rg3 => ?_, fun e h3 => (k2 e (by rw [eq0, h3]; rfl)).bt b12⟩
      rw [h3] at eq0
      have eq0 : rAction l = rArgs l3 := eq0
      obtain ⟨dx4, i4, e6⟩ := rg3.ins
      refine ⟨_, rfl, _, rfl, _, rfl, S, dx4, _, rfl, e6, rfl, S, L, d, ts, l3, rfl, rg3, fun l4 h4 v H4 b4 rg4 => ⟨(by show 4 ≤ sizeLine; decide), fun p hp => ?_⟩, fun e h4 => (k2 e (eq0.trans h4)).bt (b12.trans b3)⟩
      have s4 := same_new (o := .tup [.str "call", .str (textH l), .str (textH l2), v]) hp
      exact k1 _ (eq0.trans h4) _ _ (((b12.trans b3).trans b4).trans (.of s4)) (rg4.same s4)
end

/-! ### k05: read_try -/
abbrev sRBlk : Stmt := inClass (topS 16) 12
abbrev NRBlk : List Str := ["self", "statements"]
abbrev PRBlk : List Str := ["self"]
theorem scRBlk : FnScope NRBlk PRBlk (defScope sRBlk) := ⟨rfl, rfl, rfl, by decide +kernel, rfl, by decide +kernel, by decide +kernel⟩
abbrev sRStm : Stmt := inClass (topS 16) 13
abbrev NRStm : List Str := ["self", "first", "names"]
abbrev PRStm : List Str := ["self"]
theorem scRStm : FnScope NRStm PRStm (defScope sRStm) := ⟨rfl, rfl, rfl, by decide +kernel, rfl, by decide +kernel, by decide +kernel⟩
abbrev sRTry : Stmt := inClass (topS 16) 15
abbrev NRTry : List Str := ["self", "block", "handlers", "kinds"]
abbrev PRTry : List Str := ["self"]
theorem scRTry : FnScope NRTry PRTry (defScope sRTry) := ⟨rfl, rfl, rfl, by decide +kernel, rfl, by decide +kernel, by decide +kernel⟩
abbrev sRWth : Stmt := inClass (topS 16) 16
abbrev NRWth : List Str := ["self", "name", "first", "last", "kinds"]
abbrev PRWth : List Str := ["self"]
theorem scRWth : FnScope NRWth PRWth (defScope sRWth) := ⟨rfl, rfl, rfl, by decide +kernel, rfl, by decide +kernel, by decide +kernel⟩
/-- a part of the Reader, with m more blocks allowed -/
def spRdD (CS CT C : Addr) (m : Nat) (r : Tl → RdR) : Sp := fun vs H Q E => ∃ (S L : Addr) (d : Nat) (ts l : Tl), vs = [.ref S] ∧ RdG C H S L d ts l ∧ d + m = 30 ∧ (∀ l', r l = .ok l' → ∀ (v : V) (H' : Hp), Bt S H H' → RdG C H' S L d ts l' → Q v H') ∧ ∀ e, r l = .error e → ErK CS CT S H E e
def fin2 (blk : Tl → RdR) (l3 : Tl) : RdR := if isW "finally" l3 = true then blk l3.tail else .ok l3
/-- what follows the block of a try -/
def tryT (blk : Tl → RdR) (e : Bool) (l2 : Tl) : RdR := if isW "except" l2 = true then andR (rHand blk l2.tail) fun l3 => andR (rLoop (isW "except") (rHand blk) l3.length l3) (fin2 blk) else if e = true then andR (rExp "finally" l2) blk else fin2 blk l2
theorem andR_assoc {r : RdR} {f g : Tl → RdR} : andR (andR r f) g = andR r fun l => andR (f l) g := by
  cases r <;> rfl
theorem try_eq (blk : Tl → RdR) (l : Tl) : rTry blk l = andR (blk l) (tryT blk true) := by
  show andR (blk l) _ = _
  cases blk l with
  | error e => rfl
  | ok l1 =>
    show (if isW "except" l1 = true then _ else _) = tryT blk true l1
    unfold tryT fin2
    rw [if_pos rfl]
theorem tryT_loop {blk : Tl → RdR} (sb : Suf blk) (l : Tl) : andR (rLoop (isW "except") (rHand blk) l.length l) (fin2 blk) = tryT blk false l := by
  have cn : isW "except" [] = false := by decide +kernel
  rw [loop_eq (show Suf (rHand blk) from suf_names.and sb) cn]
  unfold tryT
  by_cases z : isW "except" l = true
  · rw [if_pos z, if_pos z, andR_assoc]
  · rw [if_neg z, if_neg z, if_neg (by decide)]
    rfl
section
variable {P : Program} {w : World} {K : PySem.W.Frag} {mg : Str → Option Value} {base : Heap} {C CS CT : Addr}
theorem ok_RTryG {n : Nat} {blk : Tl → RdR} (sb : Suf blk) {f : Addr} {fd : FuncData} (F : Fun K "read_try" "Reader.read_try" sRTry f fd) (T : TxRd mg) (TR : TxR K C) (MI : HasM P w K mg base CX0 2 C "is_next" PRNext (spNxtG C)) (MA : HasM P w K mg base CX0 3 C "accept" PRAcc (spAccG C)) (MX : HasM P w K mg base (L2N.CX P w) 4 C "expect" PRExp (spExpG CS CT C)) (MN : HasM P w K mg base (L2N.CX P w) 4 C "read_names" PRNms (spRd CS CT C rNames)) (MB : HasM P w K mg base (L2N.CX P w) (9 + 3 * n) C "read_block" PRBlk (spRdD CS CT C n blk)) : FnOk P w K mg base (L2N.CX P w) (9 + 3 * n + 1) f fd PRTry (spRdD CS CT C n (rTry blk)) := by
  refine Fun.okN F scRTry (fun vs H Q E h => ?_) (fun cdv A outer s H vs Q E hr h => ?_)
  · obtain ⟨S, L, d, ts, l, rfl, _⟩ := h
    rfl
  · obtain ⟨S, L, d, ts, l, rfl, rg, hd, k1, k2⟩ := h
    have hr2 := hr.mono (j := 2) (by omega)
    have hr3 := hr.mono (j := 3) (by omega)
    have hr4 := hr.mono (j := 4) (by omega)
    obtain ⟨dx, i, eS⟩ := rg.ins
    have tk := L2N.takes_of (X := cxOf (L2N.CX P w) P w K mg base NRTry "Reader.read_try" (defScope sRTry) f cdv A outer s H E) (E := E) rfl rfl rfl rfl
    refine ⟨_, (pss_cons (ps_set (i := 1) scRTry.nd rfl (Or.inl rfl) (pe_methH0 (pv 0) TR.cl MB hr (fun pins σ H1 s1 e s' I c => L2N.passAt tk σ pins H1 s1 e s' I c)))
  (pss_cons (ps_set (i := 2) scRTry.nd rfl (Or.inl rfl) (pe_lst pa_nil))
  (pss_cons (ps_while (passes_of rfl) (pt_val (pe_methH (pv 0) TR.cl MA hr3 pass0 (pa_cons pe_str pa_nil)))
  (pss_cons (ps_set (i := 3) scRTry.nd rfl (Or.inl rfl) (pe_methH0 (pv 0) TR.cl MN hr4 (fun pins σ H1 s1 e s' I c => L2N.passAt tk σ pins H1 s1 e s' I c)))
  (pss_one (ps_expr (pe_bm PySem.F.plainAttrs_list PySem.F.slot_list_append PySem.F.type_list_append mt_append (pv 2) (pa_cons (pe_tup (pa_cons (pv 3) (pa_cons (pe_methH0 (pv 0) TR.cl MB hr (fun pins σ H1 s1 e s' I c => L2N.passAt tk σ pins H1 s1 e s' I c)) pa_nil))) pa_nil))))))
  (pss_cons (ps_if (PW.pt (pw_and (pt_truth (pv 2) (by intro _; rfl)) (pw_and1 (pt_not (pt_val (pe_methH (pv 0) TR.cl MI hr2 pass0 (pa_cons pe_str pa_nil)))))))
  (pss_one (ps_ret (pe_tup (pa_cons pe_str (pa_cons (pv 1) (pa_cons (pe_callTy call_tuple_of (by rfl) T.n_tuple bb_tuple (pa_cons (pv 2) pa_nil)) (pa_cons (pe_tup pa_nil) pa_nil)))))))
  pss_nil)
  (pss_cons (ps_expr (pe_methH (pv 0) TR.cl MX hr4 (fun pins σ H1 s1 e s' I c => L2N.passAt tk σ pins H1 s1 e s' I c) (pa_cons pe_str pa_nil)))
  (pss_one (ps_ret (pe_tup (pa_cons pe_str (pa_cons (pv 1) (pa_cons (pe_callTy call_tuple_of (by rfl) T.n_tuple bb_tuple (pa_cons (pv 2) pa_nil)) (pa_cons (pe_methH0 (pv 0) TR.cl MB hr (fun pins σ H1 s1 e s' I c => L2N.passAt tk σ pins H1 s1 e s' I c)) pa_nil)))))))))))), ?_⟩
    have eq0 := try_eq blk l
    refine ⟨_, rfl, S, dx, _, rfl, eS, rfl, S, L, d, ts, l, rfl, rg, hd, fun l1 h1 bv H1 b1 rg1 => ⟨(by show 0 ≤ sizeLine; decide), fun X hX => ?_⟩, fun e h1 => k2 e (by rw [eq0, h1]; rfl)⟩
    rw [h1] at eq0
    have eq0 : rTry blk l = tryT blk true l1 := eq0
    have lg : LsG C S L X d ts H (upd H1 X (.lst [])) l1.length l1 := .new b1 rg1 hX (by have := rg1.len; show 0 + _ ≤ _; omega)
    have eX : upd H1 X (.lst []) X = some (.lst []) := upd_same
    generalize upd H1 X (.lst []) = H2 at *
    refine ⟨fun m σ H' => ∃ (l2 : Tl) (xs : List V) (kv : Option V), m = l2.length ∧ σ = [some (.ref S), some bv, some (.ref X), kv] ∧ LsG C S L X d ts H H' l2.length l2 ∧ H' X = some (.lst xs) ∧ rTry blk l = tryT blk xs.isEmpty l2, ⟨_, l1, [], _, rfl, rfl, lg, eX, eq0⟩, ?_⟩
    rintro m σ H5 ⟨l5, xs, kv, rfl, rfl, lg5, eX5, eq5⟩
    obtain ⟨dx5, i5, e5⟩ := lg5.rg.ins
    unfold tryT at eq5
    refine ⟨_, rfl, S, dx5, _, rfl, e5, rfl, S, L, d, ts, l5, "except", rfl, lg5.rg, fun hz5 => ⟨false, rfl, iteF ?_⟩, fun hz5 H6 b6 rg6 => ⟨true, rfl, iteT ?_⟩⟩
    case refine_2 =>
      rw [if_pos hz5] at eq5
      have lt5 := isW_lt hz5
      have lg6 := lg5.read b6 rg6
      obtain ⟨dx6, i6, e6⟩ := lg6.rg.ins
      have eX6 := b6 _ _ eX5 lg5.2.1.2.1
      refine ⟨fun σ' H' => ∃ (l7 : Tl) (xs : List V) (kv : Option V), l7.length < l5.length ∧ σ' = [some (.ref S), some bv, some (.ref X), kv] ∧ LsG C S L X d ts H H' l7.length l7 ∧ H' X = some (.lst xs) ∧ rTry blk l = tryT blk xs.isEmpty l7, fun σ' H' ⟨l7, xs, kv, u0, u1, u2, u3, u4⟩ => ⟨l7.length, u0, l7, xs, kv, rfl, u1, u2, u3, u4⟩, ?_⟩
      unfold rHand at eq5
      rw [andR_assoc] at eq5
      refine ⟨_, rfl, S, dx6, _, rfl, e6, rfl, S, L, d, ts, l5.tail, rfl, lg6.rg, fun l7 h7 v7 H7 b7 rg7 => ?_, fun e h7 => (k2 e (by rw [eq5, h7]; rfl)).bt lg6.bt⟩
      have n7 := (suf_names _ _ h7).length_le
      rw [h7] at eq5
      have lg7 := lg6.read b7 rg7
      have eX7 := b7 _ _ eX6 lg5.2.1.2.1
      obtain ⟨dx7, i7, e7⟩ := lg7.rg.ins
      refine ⟨_, rfl, .inl ⟨rfl, _, SqL.of eX7⟩, _, rfl, _, rfl, S, dx7, _, rfl, e7, rfl, S, L, d, ts, l7, rfl, rg7, hd, fun l8 h8 v8 H8 b8 rg8 => ⟨(by show 2 ≤ sizeLine; decide), fun t ht => ?_⟩, fun e h8 => (k2 e (by rw [eq5]; show andR (blk l7) _ = _; rw [h8]; rfl)).bt lg7.bt⟩
      have n8 := (sb _ _ h8).length_le
      have eq8 : rTry blk l = tryT blk false l8 := by
        rw [eq5, ← tryT_loop sb]
        show andR (blk l7) _ = _
        rw [h8]
        rfl
      have s9 := same_new (o := .tup [v7, v8]) ht
      have lg8 := ((lg7.read b8 rg8).read (.of s9) (rg8.same s9)).le (m := l8.length + 1) (by omega)
      have eX8 := s9 _ _ (b8 _ _ eX7 lg5.2.1.2.1)
      obtain ⟨zs, eZ, lz⟩ := lg8.lst
      rw [eX8] at eZ
      cases eZ
      refine ⟨X, _, _, rfl, rfl, eX8, Nat.lt_of_le_of_lt (show xs.length ≤ 1000002 by omega) (by decide), l8, _, _, by omega, rfl, lg8.put eX8 (.ref t), upd_same, ?_⟩
      rw [eq8]
      cases xs <;> rfl
    rw [if_neg (by rw [hz5]; decide)] at eq5
    refine ⟨_, rfl, !xs.isEmpty, .inl ⟨xs, SqL.of eX5, rfl⟩, ?_⟩
    -- expect('finally') and the last block
    by_cases hf : isW "finally" l5 = true
    case neg =>
      have hf0 : isW "finally" l5 = false := Bool.eq_false_iff.mpr hf
      cases hE : xs.isEmpty with
      | true =>
        rw [hE, if_pos rfl] at eq5
        refine iteE rfl ?_
        refine ⟨_, rfl, S, dx5, _, rfl, e5, rfl, S, L, d, ts, l5, "finally", rfl, lg5.rg, fun l6 h6 => absurd h6 (by unfold rExp; rw [if_neg hf]; exact fun z => by cases z), fun e h6 => (k2 e (by rw [eq5, h6]; rfl)).bt lg5.bt⟩
      | false =>
        rw [hE, if_neg (by decide)] at eq5
        unfold fin2 at eq5
        rw [if_neg hf] at eq5
        refine iteS rfl ?_
        refine ⟨_, rfl, S, dx5, _, rfl, e5, rfl, S, L, d, ts, l5, "finally", rfl, lg5.rg, _, rfl, iteS (by rw [hf0]; rfl) ?_⟩
        refine ⟨_, rfl, _, rfl, X, _, rfl, .inl ⟨SqL.of eX5, fun p hp => ⟨(by show 0 ≤ sizeLine; decide), fun q hq => ⟨(by show 4 ≤ sizeLine; decide), fun t ht => ?_⟩⟩⟩⟩
        have s7 := same_new (o := .tup xs) hp
        have s8 := same_new (o := .tup []) hq
        have s9 := same_new (o := .tup [.str "try", bv, .ref p, .ref q]) ht
        have s79 := (s7.trans s8).trans s9
        exact k1 _ eq5 _ _ (lg5.bt.trans (.of s79)) (lg5.rg.same s79)
    have key : rTry blk l = blk l5.tail := by
      rw [eq5]
      unfold fin2 rExp
      rw [if_pos hf, if_pos hf]
      cases xs.isEmpty <;> rfl
    cases hE : xs.isEmpty with
    | true =>
      refine iteE rfl ?_
      refine ⟨_, rfl, S, dx5, _, rfl, e5, rfl, S, L, d, ts, l5, "finally", rfl, lg5.rg, fun l6 h6 H6 b6 rg6 => ?_, fun e h6 => absurd h6 (by unfold rExp; rw [if_pos hf]; exact fun z => by cases z)⟩
      have e6 : l6 = l5.tail := by unfold rExp at h6; rw [if_pos hf] at h6; cases h6; rfl
      subst e6
      have lg6 := lg5.read b6 rg6
      have eX6 := b6 _ _ eX5 lg5.2.1.2.1
      refine ⟨_, rfl, _, rfl, X, _, rfl, .inl ⟨SqL.of eX6, fun p hp => ?_⟩⟩
      have s7 := same_new (o := .tup xs) hp
      have lg7 := lg6.read (.of s7) (rg6.same s7)
      generalize upd H6 p (.tup xs) = H7 at *
      obtain ⟨dx7, i7, e7⟩ := lg7.rg.ins
      refine ⟨_, rfl, S, dx7, _, rfl, e7, rfl, S, L, d, ts, l5.tail, rfl, lg7.rg, hd, fun l8 h8 v H8 b8 rg8 => ⟨(by show 4 ≤ sizeLine; decide), fun t ht => ?_⟩, fun e h8 => (k2 e (key.trans h8)).bt lg7.bt⟩
      have s9 := same_new (o := .tup [.str "try", bv, .ref p, v]) ht
      exact k1 _ (key.trans h8) _ _ ((lg7.bt.trans b8).trans (.of s9)) (rg8.same s9)
    | false =>
      refine iteS rfl ?_
      refine ⟨_, rfl, S, dx5, _, rfl, e5, rfl, S, L, d, ts, l5, "finally", rfl, lg5.rg, _, rfl, iteE (by rw [hf]; rfl) ?_⟩
      refine ⟨_, rfl, S, dx5, _, rfl, e5, rfl, S, L, d, ts, l5, "finally", rfl, lg5.rg, fun l6 h6 H6 b6 rg6 => ?_, fun e h6 => absurd h6 (by unfold rExp; rw [if_pos hf]; exact fun z => by cases z)⟩
      have e6 : l6 = l5.tail := by unfold rExp at h6; rw [if_pos hf] at h6; cases h6; rfl
      subst e6
      have lg6 := lg5.read b6 rg6
      have eX6 := b6 _ _ eX5 lg5.2.1.2.1
      refine ⟨_, rfl, _, rfl, X, _, rfl, .inl ⟨SqL.of eX6, fun p hp => ?_⟩⟩
      have s7 := same_new (o := .tup xs) hp
      have lg7 := lg6.read (.of s7) (rg6.same s7)
      generalize upd H6 p (.tup xs) = H7 at *
      obtain ⟨dx7, i7, e7⟩ := lg7.rg.ins
      refine ⟨_, rfl, S, dx7, _, rfl, e7, rfl, S, L, d, ts, l5.tail, rfl, lg7.rg, hd, fun l8 h8 v H8 b8 rg8 => ⟨(by show 4 ≤ sizeLine; decide), fun t ht => ?_⟩, fun e h8 => (k2 e (key.trans h8)).bt lg7.bt⟩
      have s9 := same_new (o := .tup [.str "try", bv, .ref p, v]) ht
      exact k1 _ (key.trans h8) _ _ ((lg7.bt.trans b8).trans (.of s9)) (rg8.same s9)
end

/-! ### k05: read_with, read_statement -/
section
variable {P : Program} {w : World} {K : PySem.W.Frag} {mg : Str → Option Value} {base : Heap} {C CS CT : Addr}
theorem ok_RWthG {n : Nat} {blk : Tl → RdR} {f : Addr} {fd : FuncData} (F : Fun K "read_with" "Reader.read_with" sRWth f fd) (TR : TxR K C) (MM : HasM P w K mg base (L2N.CX P w) 3 C "read_name" PRName (spRdN CS CT C rName)) (MA : HasM P w K mg base CX0 3 C "accept" PRAcc (spAccG C)) (MX : HasM P w K mg base (L2N.CX P w) 4 C "expect" PRExp (spExpG CS CT C)) (MN : HasM P w K mg base (L2N.CX P w) 4 C "read_names" PRNms (spRd CS CT C rNames)) (MG : HasM P w K mg base (L2N.CX P w) 7 C "read_args" PRArgs (spRd CS CT C rArgs)) (MB : HasM P w K mg base (L2N.CX P w) (9 + 3 * n) C "read_block" PRBlk (spRdD CS CT C n blk)) : FnOk P w K mg base (L2N.CX P w) (9 + 3 * n + 1) f fd PRWth (spRdD CS CT C n (rWith blk)) := by
  refine Fun.okN F scRWth (fun vs H Q E h => ?_) (fun cdv A outer s H vs Q E hr h => ?_)
  · obtain ⟨S, L, d, ts, l, rfl, _⟩ := h
    rfl
  · obtain ⟨S, L, d, ts, l, rfl, rg, hd, k1, k2⟩ := h
    have hr3 := hr.mono (j := 3) (by omega)
    have hr4 := hr.mono (j := 4) (by omega)
    have hr7 := hr.mono (j := 7) (by omega)
    obtain ⟨dx, i, eS⟩ := rg.ins
    have tk := L2N.takes_of (X := cxOf (L2N.CX P w) P w K mg base NRWth "Reader.read_with" (defScope sRWth) f cdv A outer s H E) (E := E) rfl rfl rfl rfl
    refine ⟨_, (pss_cons (ps_set (i := 1) scRWth.nd rfl (Or.inl rfl) (pe_methH0 (pv 0) TR.cl MM hr3 (fun pins σ H1 s1 e s' I c => L2N.passAt tk σ pins H1 s1 e s' I c)))
  (pss_cons (ps_set (i := 2) scRWth.nd rfl (Or.inl rfl) (pe_tup (pa_cons (pv 1) (pa_cons (pe_methH0 (pv 0) TR.cl MG hr7 (fun pins σ H1 s1 e s' I c => L2N.passAt tk σ pins H1 s1 e s' I c)) pa_nil))))
  (pss_cons (ps_expr (pe_methH (pv 0) TR.cl MX hr4 (fun pins σ H1 s1 e s' I c => L2N.passAt tk σ pins H1 s1 e s' I c) (pa_cons pe_str pa_nil)))
  (pss_cons (ps_set (i := 1) scRWth.nd rfl (Or.inl rfl) (pe_methH0 (pv 0) TR.cl MM hr3 (fun pins σ H1 s1 e s' I c => L2N.passAt tk σ pins H1 s1 e s' I c)))
  (pss_cons (ps_set (i := 3) scRWth.nd rfl (Or.inl rfl) (pe_tup (pa_cons (pv 1) (pa_cons (pe_methH0 (pv 0) TR.cl MG hr7 (fun pins σ H1 s1 e s' I c => L2N.passAt tk σ pins H1 s1 e s' I c)) pa_nil))))
  (pss_cons (ps_set (i := 4) scRWth.nd rfl (Or.inl rfl) (pe_ifExp (pt_val (pe_methH (pv 0) TR.cl MA hr3 pass0 (pa_cons pe_str pa_nil))) (pe_methH0 (pv 0) TR.cl MN hr4 (fun pins σ H1 s1 e s' I c => L2N.passAt tk σ pins H1 s1 e s' I c)) (pe_tup pa_nil)))
  (pss_one (ps_ret (pe_tup (pa_cons pe_str (pa_cons (pv 2) (pa_cons (pv 3) (pa_cons (pv 4) (pa_cons (pe_methH0 (pv 0) TR.cl MB hr (fun pins σ H1 s1 e s' I c => L2N.passAt tk σ pins H1 s1 e s' I c)) pa_nil)))))))))))))), ?_⟩
    have eq0 : rWith blk l = andR (rName l) fun l1 => andR (rArgs l1) fun l2 => andR (rExp "," l2) fun l3 => andR (rName l3) fun l4 => andR (rArgs l4) fun l5 => andR (if isW "swallow" l5 = true then rNames l5.tail else .ok l5) blk := rfl
    refine ⟨_, rfl, S, dx, _, rfl, eS, rfl, S, L, d, ts, l, rfl, rg, fun l1 h1 H1 b1 rg1 => ?_, fun e h1 => k2 e (by rw [eq0, h1]; rfl)⟩
    rw [h1] at eq0
    replace eq0 : rWith blk l = andR (rArgs l1) _ := eq0
    obtain ⟨dx1, i1, e1⟩ := rg1.ins
    refine ⟨_, rfl, _, rfl, S, dx1, _, rfl, e1, rfl, S, L, d, ts, l1, rfl, rg1, fun l2 h2 v1 H2 b2 rg2 => ⟨(by show 2 ≤ sizeLine; decide), fun p hp => ?_⟩, fun e h2 => (k2 e (by rw [eq0, h2]; rfl)).bt b1⟩
    rw [h2] at eq0
    replace eq0 : rWith blk l = andR (rExp "," l2) _ := eq0
    have s3 := same_new (o := .tup [.str (textH l), v1]) hp
    have b3 := (b1.trans b2).trans (.of s3)
    have rg3 := rg2.same s3
    generalize upd H2 p _ = H3 at *
    obtain ⟨dx3, i3, e3⟩ := rg3.ins
    refine ⟨_, rfl, S, dx3, _, rfl, e3, rfl, S, L, d, ts, l2, ",", rfl, rg3, fun l3 h3 H4 b4 rg4 => ?_, fun e h3 => (k2 e (by rw [eq0, h3]; rfl)).bt b3⟩
    rw [h3] at eq0
    replace eq0 : rWith blk l = andR (rName l3) _ := eq0
    replace b4 := b3.trans b4
    obtain ⟨dx4, i4, e4⟩ := rg4.ins
    refine ⟨_, rfl, S, dx4, _, rfl, e4, rfl, S, L, d, ts, l3, rfl, rg4, fun l4 h4 H5 b5 rg5 => ?_, fun e h4 => (k2 e (by rw [eq0, h4]; rfl)).bt b4⟩
    rw [h4] at eq0
    replace eq0 : rWith blk l = andR (rArgs l4) _ := eq0
    replace b5 := b4.trans b5
    obtain ⟨dx5, i5, e5⟩ := rg5.ins
    refine ⟨_, rfl, _, rfl, S, dx5, _, rfl, e5, rfl, S, L, d, ts, l4, rfl, rg5, fun l5 h5 v2 H6 b6 rg6 => ⟨(by show 2 ≤ sizeLine; decide), fun q hq => ?_⟩, fun e h5 => (k2 e (by rw [eq0, h5]; rfl)).bt b5⟩
    rw [h5] at eq0
    replace eq0 : rWith blk l = andR (if isW "swallow" l5 = true then rNames l5.tail else .ok l5) blk := eq0
    have s7 := same_new (o := .tup [.str (textH l3), v2]) hq
    have b7 := (b5.trans b6).trans (.of s7)
    have rg7 := rg6.same s7
    generalize upd H6 q _ = H7 at *
    obtain ⟨dx7, i7, e7⟩ := rg7.ins
    refine ⟨_, rfl, S, dx7, _, rfl, e7, rfl, S, L, d, ts, l5, "swallow", rfl, rg7, fun hz => ⟨false, rfl, iteE rfl ⟨(by show 0 ≤ sizeLine; decide), fun z hzz => ?_⟩⟩, fun hz H8 b8 rg8 => ⟨true, rfl, iteS rfl ?_⟩⟩
    · rw [if_neg (by rw [hz]; decide)] at eq0
      replace eq0 : rWith blk l = blk l5 := eq0
      have s8 := same_new (o := .tup []) hzz
      have b8 := b7.trans (.of s8)
      have rg8 := rg7.same s8
      generalize upd H7 z _ = H8 at *
      obtain ⟨dx8, i8, e8⟩ := rg8.ins
      obtain ⟨kv, ekv⟩ : ∃ kv, kv = V.ref z := ⟨_, rfl⟩
      rw [← ekv]
      obtain ⟨l6, el6⟩ : ∃ l6, l6 = l5 := ⟨_, rfl⟩
      rw [← el6] at eq0 rg8
      refine ⟨_, rfl, _, rfl, _, rfl, _, rfl, S, dx8, _, rfl, e8, rfl, S, L, d, ts, l6, rfl, rg8, hd, fun l9 h9 v H9 b9 rg9 => ⟨(by show 5 ≤ sizeLine; decide), fun t ht => ?_⟩, fun e h9 => (k2 e (eq0.trans h9)).bt b8⟩
      have s9 := same_new (o := .tup [.str "with", .ref p, .ref q, kv, v]) ht
      exact k1 _ (eq0.trans h9) _ _ ((b8.trans b9).trans (.of s9)) (rg9.same s9)
    · rw [if_pos hz] at eq0
      obtain ⟨dx8, i8, e8⟩ := rg8.ins
      refine ⟨_, rfl, S, dx8, _, rfl, e8, rfl, S, L, d, ts, l5.tail, rfl, rg8, fun l6 h6 kv H9 b9 rg9 => ?_, fun e h6 => (k2 e (by rw [eq0, h6]; rfl)).bt (b7.trans b8)⟩
      rw [h6] at eq0
      replace eq0 : rWith blk l = blk l6 := eq0
      replace b8 := (b7.trans b8).trans b9
      replace rg8 := rg9
      obtain ⟨dx8, i8, e8⟩ := rg8.ins
      refine ⟨_, rfl, _, rfl, _, rfl, _, rfl, S, dx8, _, rfl, e8, rfl, S, L, d, ts, l6, rfl, rg8, hd, fun l9 h9 v H9 b9 rg9 => ⟨(by show 5 ≤ sizeLine; decide), fun t ht => ?_⟩, fun e h9 => (k2 e (eq0.trans h9)).bt b8⟩
      have s9 := same_new (o := .tup [.str "with", .ref p, .ref q, kv, v]) ht
      exact k1 _ (eq0.trans h9) _ _ ((b8.trans b9).trans (.of s9)) (rg9.same s9)
theorem ok_RStmG {n : Nat} {blk : Tl → RdR} {f : Addr} {fd : FuncData} (F : Fun K "read_statement" "Reader.read_statement" sRStm f fd) (TR : TxR K C) (MC : HasM P w K mg base CX0 1 C "current" PRCur (spCurG C)) (MM : HasM P w K mg base (L2N.CX P w) 3 C "read_name" PRName (spRdN CS CT C rName)) (MA : HasM P w K mg base CX0 3 C "accept" PRAcc (spAccG C)) (MX : HasM P w K mg base (L2N.CX P w) 4 C "expect" PRExp (spExpG CS CT C)) (MN : HasM P w K mg base (L2N.CX P w) 4 C "read_names" PRNms (spRd CS CT C rNames)) (ME : HasM P w K mg base (L2N.CX P w) 5 C "read_expression" PRExpr (spRd CS CT C rExpr)) (MT : HasM P w K mg base (L2N.CX P w) 8 C "read_action" PRAct (spRd CS CT C rAction)) (MB : HasM P w K mg base (L2N.CX P w) (9 + 3 * n) C "read_block" PRBlk (spRdD CS CT C n blk)) (MY : HasM P w K mg base (L2N.CX P w) (9 + 3 * n + 1) C "read_try" PRTry (spRdD CS CT C n (rTry blk))) (MW : HasM P w K mg base (L2N.CX P w) (9 + 3 * n + 1) C "read_with" PRWth (spRdD CS CT C n (rWith blk))) : FnOk P w K mg base (L2N.CX P w) (9 + 3 * n + 2) f fd PRStm (spRdD CS CT C n (rStmt blk)) := by
  refine Fun.okN F scRStm (fun vs H Q E h => ?_) (fun cdv A outer s H vs Q E hr h => ?_)
  · obtain ⟨S, L, d, ts, l, rfl, _⟩ := h
    rfl
  · obtain ⟨S, L, d, ts, l, rfl, rg, hd, k1, k2⟩ := h
    have hr1 := hr.mono (j := 1) (by omega)
    have hr3 := hr.mono (j := 3) (by omega)
    have hr4 := hr.mono (j := 4) (by omega)
    have hr5 := hr.mono (j := 5) (by omega)
    have hr8 := hr.mono (j := 8) (by omega)
    have hrB := hr.mono (j := 9 + 3 * n) (by omega)
    obtain ⟨dx, i, eS⟩ := rg.ins
    have tk := L2N.takes_of (X := cxOf (L2N.CX P w) P w K mg base NRStm "Reader.read_statement" (defScope sRStm) f cdv A outer s H E) (E := E) rfl rfl rfl rfl
    refine ⟨_, (pss_cons (ps_if (pt_cmpR op_eq (pe_ix (r := rIxT K) ix_tup (pe_methH0 (pv 0) TR.cl MC hr1 pass0) pe_int (fun _ _ => rfl)) pe_str (nomark _))
  (pss_one (ps_ret (pe_methH0 (pv 0) TR.cl MT hr8 (fun pins σ H1 s1 e s' I c => L2N.passAt tk σ pins H1 s1 e s' I c))))
  pss_nil)
  (pss_cons (ps_if (pt_val (pe_methH (pv 0) TR.cl MA hr3 pass0 (pa_cons pe_str pa_nil)))
  (pss_cons (ps_set (i := 1) scRStm.nd rfl (Or.inl rfl) (pe_methH0 (pv 0) TR.cl MB hrB (fun pins σ H1 s1 e s' I c => L2N.passAt tk σ pins H1 s1 e s' I c)))
  (pss_one (ps_ret (pe_tup (pa_cons pe_str (pa_cons (pv 1) (pa_cons (pe_ifExp (pt_val (pe_methH (pv 0) TR.cl MA hr3 pass0 (pa_cons pe_str pa_nil))) (pe_methH0 (pv 0) TR.cl MB hrB (fun pins σ H1 s1 e s' I c => L2N.passAt tk σ pins H1 s1 e s' I c)) (pe_tup pa_nil)) pa_nil)))))))
  pss_nil)
  (pss_cons (ps_if (pt_val (pe_methH (pv 0) TR.cl MA hr3 pass0 (pa_cons pe_str pa_nil)))
  (pss_one (ps_ret (pe_tup (pa_cons pe_str (pa_cons (pe_methH0 (pv 0) TR.cl MB hrB (fun pins σ H1 s1 e s' I c => L2N.passAt tk σ pins H1 s1 e s' I c)) pa_nil)))))
  pss_nil)
  (pss_cons (ps_if (pt_val (pe_methH (pv 0) TR.cl MA hr3 pass0 (pa_cons pe_str pa_nil)))
  (pss_one (ps_ret (pe_tup (pa_cons pe_str (pa_cons (pe_methH0 (pv 0) TR.cl MN hr4 (fun pins σ H1 s1 e s' I c => L2N.passAt tk σ pins H1 s1 e s' I c)) pa_nil)))))
  pss_nil)
  (pss_cons (ps_if (pt_val (pe_methH (pv 0) TR.cl MA hr3 pass0 (pa_cons pe_str pa_nil)))
  (pss_one (ps_ret (pe_tup (pa_cons pe_str (pa_cons (pe_methH0 (pv 0) TR.cl MM hr3 (fun pins σ H1 s1 e s' I c => L2N.passAt tk σ pins H1 s1 e s' I c)) pa_nil)))))
  pss_nil)
  (pss_cons (ps_if (pt_val (pe_methH (pv 0) TR.cl MA hr3 pass0 (pa_cons pe_str pa_nil)))
  (pss_one (ps_ret (pe_methH0 (pv 0) TR.cl MY hr (fun pins σ H1 s1 e s' I c => L2N.passAt tk σ pins H1 s1 e s' I c))))
  pss_nil)
  (pss_cons (ps_if (pt_val (pe_methH (pv 0) TR.cl MA hr3 pass0 (pa_cons pe_str pa_nil)))
  (pss_cons (ps_set (i := 2) scRStm.nd rfl (Or.inl rfl) (pe_methH0 (pv 0) TR.cl MN hr4 (fun pins σ H1 s1 e s' I c => L2N.passAt tk σ pins H1 s1 e s' I c)))
  (pss_one (ps_ret (pe_tup (pa_cons pe_str (pa_cons (pv 2) (pa_cons (pe_methH0 (pv 0) TR.cl MB hrB (fun pins σ H1 s1 e s' I c => L2N.passAt tk σ pins H1 s1 e s' I c)) pa_nil)))))))
  pss_nil)
  (pss_cons (ps_if (pt_val (pe_methH (pv 0) TR.cl MA hr3 pass0 (pa_cons pe_str pa_nil)))
  (pss_one (ps_ret (pe_methH0 (pv 0) TR.cl MW hr (fun pins σ H1 s1 e s' I c => L2N.passAt tk σ pins H1 s1 e s' I c))))
  pss_nil)
  (pss_cons (ps_expr (pe_methH (pv 0) TR.cl MX hr4 (fun pins σ H1 s1 e s' I c => L2N.passAt tk σ pins H1 s1 e s' I c) (pa_cons pe_str pa_nil)))
  (pss_one (ps_ret (pe_tup (pa_cons pe_str (pa_cons (pe_methH0 (pv 0) TR.cl ME hr5 (fun pins σ H1 s1 e s' I c => L2N.passAt tk σ pins H1 s1 e s' I c)) pa_nil)))))))))))))), ?_⟩
    refine ⟨_, rfl, S, dx, _, rfl, eS, rfl, S, L, d, ts, l, rfl, rg, fun p hp => ⟨p, _, _, _, rfl, rfl, SqT.of hp, rfl, rfl, _, rfl, ?_⟩⟩
    by_cases hn : kindH l = "name"
    case pos =>
      have hN : isN l = true := decide_eq_true hn
      have eq : rStmt blk l = rAction l := if_pos hN
      refine iteS (by rw [dec_str]; exact decide_eq_true hn) ?_
      refine ⟨_, rfl, S, dx, _, rfl, eS, rfl, S, L, d, ts, l, rfl, rg, fun l' h1 v H1 b1 rg1 => k1 l' (eq.trans h1) v H1 b1 rg1, fun e h1 => k2 e (eq.trans h1)⟩
    have hN : ¬ isN l = true := fun z => hn (of_decide_eq_true z)
    refine iteE (by rw [dec_str]; exact decide_eq_false hn) ?_
    refine ⟨_, rfl, S, dx, _, rfl, eS, rfl, S, L, d, ts, l, "if", rfl, rg, fun hz0 => ⟨false, rfl, iteE rfl ?_⟩, fun hz0 H1 b1 rg1 => ⟨true, rfl, iteS rfl ?_⟩⟩
    case refine_2 =>
      have eq : rStmt blk l = andR (blk l.tail) fun l1 => if isW "else" l1 = true then blk l1.tail else .ok l1 := by
        unfold rStmt
        rw [if_neg hN, if_pos hz0]
      obtain ⟨dx1, i1, e1⟩ := rg1.ins
      refine ⟨_, rfl, S, dx1, _, rfl, e1, rfl, S, L, d, ts, l.tail, rfl, rg1, hd, fun l2 h2 kv H2 b2 rg2 => ?_, fun e h1 => (k2 e (by rw [eq, h1]; rfl)).bt b1⟩
      rw [h2] at eq
      replace eq : rStmt blk l = if isW "else" l2 = true then blk l2.tail else .ok l2 := eq
      obtain ⟨dx2, i2, e2⟩ := rg2.ins
      refine ⟨_, rfl, _, rfl, S, dx2, _, rfl, e2, rfl, S, L, d, ts, l2, "else", rfl, rg2, fun hz2 => ⟨false, rfl, iteE rfl ⟨(by show 0 ≤ sizeLine; decide), fun q hq => ⟨(by show 3 ≤ sizeLine; decide), fun t ht => ?_⟩⟩⟩, fun hz2 H3 b3 rg3 => ⟨true, rfl, iteS rfl ?_⟩⟩
      · rw [if_neg (by rw [hz2]; decide)] at eq
        have s3 := same_new (o := .tup []) hq
        have s4 := same_new (o := .tup [.str "if", kv, .ref q]) ht
        exact k1 _ eq _ _ ((b1.trans b2).trans (.of (s3.trans s4))) (rg2.same (s3.trans s4))
      · rw [if_pos hz2] at eq
        obtain ⟨dx3, i3, e3⟩ := rg3.ins
        refine ⟨_, rfl, S, dx3, _, rfl, e3, rfl, S, L, d, ts, l2.tail, rfl, rg3, hd, fun l' h1 v H4 b4 rg4 => ⟨(by show 3 ≤ sizeLine; decide), fun t ht => ?_⟩, fun e h1 => (k2 e (eq.trans h1)).bt ((b1.trans b2).trans b3)⟩
        have s4 := same_new (o := .tup [.str "if", kv, v]) ht
        exact k1 _ (eq.trans h1) _ _ ((((b1.trans b2).trans b3).trans b4).trans (.of s4)) (rg4.same s4)
    refine ⟨_, rfl, S, dx, _, rfl, eS, rfl, S, L, d, ts, l, "while", rfl, rg, fun hz1 => ⟨false, rfl, iteE rfl ?_⟩, fun hz1 H1 b1 rg1 => ⟨true, rfl, iteS rfl ?_⟩⟩
    case refine_2 =>
      have eq : rStmt blk l = blk l.tail := by
        unfold rStmt
        rw [if_neg hN, if_neg (by rw [hz0]; decide), if_pos hz1]
      obtain ⟨dx1, i1, e1⟩ := rg1.ins
      refine ⟨_, rfl, S, dx1, _, rfl, e1, rfl, S, L, d, ts, l.tail, rfl, rg1, hd, fun l' h1 v H2 b2 rg2 => ⟨(by show 2 ≤ sizeLine; decide), fun q hq => ?_⟩, fun e h1 => (k2 e (eq.trans h1)).bt b1⟩
      have s3 := same_new (o := .tup [.str "while", v]) hq
      exact k1 l' (eq.trans h1) _ _ ((b1.trans b2).trans (.of s3)) (rg2.same s3)
    refine ⟨_, rfl, S, dx, _, rfl, eS, rfl, S, L, d, ts, l, "risk", rfl, rg, fun hz2 => ⟨false, rfl, iteE rfl ?_⟩, fun hz2 H1 b1 rg1 => ⟨true, rfl, iteS rfl ?_⟩⟩
    case refine_2 =>
      have eq : rStmt blk l = rNames l.tail := by
        unfold rStmt
        rw [if_neg hN, if_neg (by rw [hz0]; decide), if_neg (by rw [hz1]; decide), if_pos hz2]
      obtain ⟨dx1, i1, e1⟩ := rg1.ins
      refine ⟨_, rfl, S, dx1, _, rfl, e1, rfl, S, L, d, ts, l.tail, rfl, rg1, fun l' h1 v H2 b2 rg2 => ⟨(by show 2 ≤ sizeLine; decide), fun q hq => ?_⟩, fun e h1 => (k2 e (eq.trans h1)).bt b1⟩
      have s3 := same_new (o := .tup [.str "risk", v]) hq
      exact k1 l' (eq.trans h1) _ _ ((b1.trans b2).trans (.of s3)) (rg2.same s3)
    refine ⟨_, rfl, S, dx, _, rfl, eS, rfl, S, L, d, ts, l, "raise", rfl, rg, fun hz3 => ⟨false, rfl, iteE rfl ?_⟩, fun hz3 H1 b1 rg1 => ⟨true, rfl, iteS rfl ?_⟩⟩
    case refine_2 =>
      have eq : rStmt blk l = rName l.tail := by
        unfold rStmt
        rw [if_neg hN, if_neg (by rw [hz0]; decide), if_neg (by rw [hz1]; decide), if_neg (by rw [hz2]; decide), if_pos hz3]
      obtain ⟨dx1, i1, e1⟩ := rg1.ins
      refine ⟨_, rfl, S, dx1, _, rfl, e1, rfl, S, L, d, ts, l.tail, rfl, rg1, fun l' h1 H2 b2 rg2 => ⟨(by show 2 ≤ sizeLine; decide), fun q hq => ?_⟩, fun e h1 => (k2 e (eq.trans h1)).bt b1⟩
      have s3 := same_new (o := .tup [.str "raise", .str (textH l.tail)]) hq
      exact k1 l' (eq.trans h1) _ _ ((b1.trans b2).trans (.of s3)) (rg2.same s3)
    refine ⟨_, rfl, S, dx, _, rfl, eS, rfl, S, L, d, ts, l, "try", rfl, rg, fun hz4 => ⟨false, rfl, iteE rfl ?_⟩, fun hz4 H1 b1 rg1 => ⟨true, rfl, iteS rfl ?_⟩⟩
    case refine_2 =>
      have eq : rStmt blk l = rTry blk l.tail := by
        unfold rStmt
        rw [if_neg hN, if_neg (by rw [hz0]; decide), if_neg (by rw [hz1]; decide), if_neg (by rw [hz2]; decide), if_neg (by rw [hz3]; decide), if_pos hz4]
      obtain ⟨dx1, i1, e1⟩ := rg1.ins
      refine ⟨_, rfl, S, dx1, _, rfl, e1, rfl, S, L, d, ts, l.tail, rfl, rg1, hd, fun l' h1 v H2 b2 rg2 => k1 l' (eq.trans h1) v H2 (b1.trans b2) rg2, fun e h1 => (k2 e (eq.trans h1)).bt b1⟩
    refine ⟨_, rfl, S, dx, _, rfl, eS, rfl, S, L, d, ts, l, "undo", rfl, rg, fun hz5 => ⟨false, rfl, iteE rfl ?_⟩, fun hz5 H1 b1 rg1 => ⟨true, rfl, iteS rfl ?_⟩⟩
    case refine_2 =>
      have eq : rStmt blk l = andR (rNames l.tail) blk := by
        unfold rStmt
        rw [if_neg hN, if_neg (by rw [hz0]; decide), if_neg (by rw [hz1]; decide), if_neg (by rw [hz2]; decide), if_neg (by rw [hz3]; decide), if_neg (by rw [hz4]; decide), if_pos hz5]
      obtain ⟨dx1, i1, e1⟩ := rg1.ins
      refine ⟨_, rfl, S, dx1, _, rfl, e1, rfl, S, L, d, ts, l.tail, rfl, rg1, fun l2 h2 kv H2 b2 rg2 => ?_, fun e h1 => (k2 e (by rw [eq, h1]; rfl)).bt b1⟩
      rw [h2] at eq
      replace eq : rStmt blk l = blk l2 := eq
      obtain ⟨dx2, i2, e2⟩ := rg2.ins
      refine ⟨_, rfl, _, rfl, S, dx2, _, rfl, e2, rfl, S, L, d, ts, l2, rfl, rg2, hd, fun l' h1 v H3 b3 rg3 => ⟨(by show 3 ≤ sizeLine; decide), fun q hq => ?_⟩, fun e h1 => (k2 e (eq.trans h1)).bt (b1.trans b2)⟩
      have s3 := same_new (o := .tup [.str "undo", kv, v]) hq
      exact k1 l' (eq.trans h1) _ _ (((b1.trans b2).trans b3).trans (.of s3)) (rg3.same s3)
    refine ⟨_, rfl, S, dx, _, rfl, eS, rfl, S, L, d, ts, l, "with", rfl, rg, fun hz6 => ⟨false, rfl, iteE rfl ?_⟩, fun hz6 H1 b1 rg1 => ⟨true, rfl, iteS rfl ?_⟩⟩
    case refine_2 =>
      have eq : rStmt blk l = rWith blk l.tail := by
        unfold rStmt
        rw [if_neg hN, if_neg (by rw [hz0]; decide), if_neg (by rw [hz1]; decide), if_neg (by rw [hz2]; decide), if_neg (by rw [hz3]; decide), if_neg (by rw [hz4]; decide), if_neg (by rw [hz5]; decide), if_pos hz6]
      obtain ⟨dx1, i1, e1⟩ := rg1.ins
      refine ⟨_, rfl, S, dx1, _, rfl, e1, rfl, S, L, d, ts, l.tail, rfl, rg1, hd, fun l' h1 v H2 b2 rg2 => k1 l' (eq.trans h1) v H2 (b1.trans b2) rg2, fun e h1 => (k2 e (eq.trans h1)).bt b1⟩
    have eq : rStmt blk l = andR (rExp "return" l) rExpr := by
      unfold rStmt
      rw [if_neg hN, if_neg (by rw [hz0]; decide), if_neg (by rw [hz1]; decide), if_neg (by rw [hz2]; decide), if_neg (by rw [hz3]; decide), if_neg (by rw [hz4]; decide), if_neg (by rw [hz5]; decide), if_neg (by rw [hz6]; decide)]
    refine ⟨_, rfl, S, dx, _, rfl, eS, rfl, S, L, d, ts, l, "return", rfl, rg, fun l2 h2 H2 b2 rg2 => ?_, fun e h1 => k2 e (by rw [eq, h1]; rfl)⟩
    rw [h2] at eq
    replace eq : rStmt blk l = rExpr l2 := eq
    obtain ⟨dx2, i2, e2⟩ := rg2.ins
    refine ⟨_, rfl, S, dx2, _, rfl, e2, rfl, S, L, d, ts, l2, rfl, rg2, fun l' h1 v H3 b3 rg3 => ⟨(by show 2 ≤ sizeLine; decide), fun q hq => ?_⟩, fun e h1 => (k2 e (eq.trans h1)).bt b2⟩
    have s3 := same_new (o := .tup [.str "return", v]) hq
    exact k1 l' (eq.trans h1) _ _ ((b2.trans b3).trans (.of s3)) (rg3.same s3)
end

/-! ### k05: read_block -/
section
variable {blk : Tl → RdR}
theorem stmts_fuel (h : Rd3 blk) : ∀ (k : Nat) (l : Tl) (n m : Nat), l.length ≤ k → l.length < n → l.length < m → rStmts blk n l = rStmts blk m l := fun k => by
  induction k using Nat.strongRecOn with
  | _ k ih =>
    intro l n m hk hn hm
    obtain ⟨n, rfl⟩ : ∃ n', n = n' + 1 := ⟨n - 1, by omega⟩
    obtain ⟨m, rfl⟩ : ∃ m', m = m' + 1 := ⟨m - 1, by omega⟩
    show (if isW "}" l = true then _ else andR (rStmt blk l) _) = (if isW "}" l = true then _ else andR (rStmt blk l) _)
    by_cases z : isW "}" l = true
    · rw [if_pos z, if_pos z]
    · rw [if_neg z, if_neg z]
      cases e : rStmt blk l with
      | error e => rfl
      | ok l1 =>
        have h1 := dec_stmt h _ _ e
        exact ih l1.length (by omega) l1 n m (Nat.le_refl _) (by omega) (by omega)
def rStms (blk : Tl → RdR) (l : Tl) : RdR := rStmts blk (l.length + 1) l
theorem stms_eq (h : Rd3 blk) (l : Tl) : rStms blk l = if isW "}" l = true then .ok l.tail else andR (rStmt blk l) (rStms blk) := by
  show (if isW "}" l = true then _ else andR (rStmt blk l) _) = _
  by_cases z : isW "}" l = true
  · rw [if_pos z, if_pos z]
  · rw [if_neg z, if_neg z]
    cases e : rStmt blk l with
    | error e => rfl
    | ok l1 =>
      have h1 := dec_stmt h _ _ e
      exact stmts_fuel h _ l1 _ _ (Nat.le_refl _) (by omega) (by omega)
end
theorem putF_dp (L : Addr) (i d j : Nat) : putF "depth" (.int (j : Nat)) (rdF L i d) = rdF L i j := by
  show (if ("tokens" : Str) = "depth" then _ else (("tokens" : Str), V.ref L) :: (if ("index_of_token" : Str) = "depth" then _ else (("index_of_token" : Str), V.int (i : Nat)) :: (if ("depth" : Str) = "depth" then _ else _))) = _
  rw [if_neg td_ne, if_neg id_ne, if_pos rfl]
  rfl
theorem RdG.depth {C S L dx : Addr} {H : Hp} {d j i : Nat} {ts l : Tl} (h : RdG C H S L d ts l) (e : H S = some (.ins C dx (rdF L i d))) : RdG C (upd H S (.ins C dx (rdF L i j))) S L j ts l := by
  obtain ⟨i', ⟨dy, xs, e1, e2, e3⟩, e4⟩ := h
  have ei : i' = i := by
    rw [e1] at e
    injection e with e
    injection e with _ _ e
    unfold rdF at e
    simp only [List.cons.injEq, Prod.mk.injEq, V.int.injEq, true_and, and_true] at e
    omega
  subst ei
  refine ⟨i', ⟨dx, xs, upd_same, by rw [upd_ne (ne_of e2 e1 fun z => by cases z)]; exact e2, Paired.mapP e3 fun _ _ q => q.same fun b ys e => ?_⟩, e4⟩
  rw [upd_ne (ne_of e e1 fun z => by cases z)]
  exact e
structure TxBlk (mg : Str → Option Value) : Prop extends TxSum mg where
  c_DEEPEST : ∃ u, mg "DEEPEST" = some u ∧ RelV (.int 30) u
section
variable {P : Program} {w : World} {K : PySem.W.Frag} {mg : Str → Option Value} {base : Heap} {C CS CT : Addr} {C' : Nat → Addr}
theorem ok_RBlkG0 {k : Nat} {f : Addr} {fd : FuncData} (F : Fun K "read_block" "Reader.read_block" sRBlk f fd) (T : TxBlk mg) (TR : TxR K C) (X : ErrH P w K mg base C') (MI : HasM P w K mg base CX0 2 C "is_next" PRNext (spNxtG C)) (MA : HasM P w K mg base CX0 3 C "accept" PRAcc (spAccG C)) (MX : HasM P w K mg base (L2N.CX P w) 4 C "expect" PRExp (spExpG (C' 1) (C' 2) C)) : FnOk P w K mg base (L2N.CX P w) (k + 5) f fd PRBlk (spRdD (C' 1) (C' 2) C 0 (rBlock 0)) := by
  refine Fun.okN F scRBlk (fun vs H Q E h => ?_) (fun cdv A outer s H vs Q E hr h => ?_)
  · obtain ⟨S, L, d, ts, l, rfl, _⟩ := h
    rfl
  · obtain ⟨S, L, d, ts, l, rfl, rg, hd, k1, k2⟩ := h
    have hr2 := hr.mono (j := 2) (by omega)
    have hr3 := hr.mono (j := 3) (by omega)
    have hr4 := hr.mono (j := 4) (by omega)
    obtain ⟨dx, i, eS⟩ := rg.ins
    have tk := L2N.takes_of (X := cxOf (L2N.CX P w) P w K mg base NRBlk "Reader.read_block" (defScope sRBlk) f cdv A outer s H E) (E := E) rfl rfl rfl rfl
    refine ⟨_, (pss_cons (ps_if (PW.pt (pw_and (pt_val (pe_methH (pv 0) TR.cl MI hr2 pass0 (pa_cons pe_str pa_nil))) (pw_and1 (pt_cmpR op_eq (pe_fld (pv 0) rfl) (pe_globE rfl T.c_DEEPEST) (nomark _)))))
  (pss_one (ps_raiseX rfl tk X.h2 (hr.mono (by omega)) rfl (pa_cons pe_str pa_nil)))
  pss_nil)
  (pss_cons (ps_expr (pe_methH (pv 0) TR.cl MX hr4 (fun pins σ H1 s1 e s' I c => L2N.passAt tk σ pins H1 s1 e s' I c) (pa_cons pe_str pa_nil)))
  (pss_cons (ps_fldaug (pv 0) pe_int in_add)
  (pss_cons (ps_set (i := 1) scRBlk.nd rfl (Or.inl rfl) (pe_lst pa_nil))
  (pss_cons (ps_while (passes_of rfl) (pt_not (pt_val (pe_methH (pv 0) TR.cl MA hr3 pass0 (pa_cons pe_str pa_nil))))
  (pss_one ps_never))
  (pss_cons (ps_fldaug (pv 0) pe_int in_sub)
  (pss_one (ps_ret (pe_callTy call_tuple_of (by rfl) T.n_tuple bb_tuple (pa_cons (pv 1) pa_nil)))))))))), ?_⟩
    refine ⟨_, rfl, S, dx, _, rfl, eS, rfl, S, L, d, ts, l, "{", rfl, rg, ?_⟩
    cases hz : isW "{" l with
    | true =>
      refine ⟨true, rfl, iteS rfl ?_⟩
      refine ⟨_, rfl, S, C, dx, _, _, rfl, eS, TR.cl, TR.nD, rfl, rfl, _, rfl, iteS (decide_eq_true (by rw [show d = 30 by omega]; rfl)) ?_⟩
      exact ⟨_, rfl, fun d' hd' => k2 (.large "nesting") (if_pos hz) d' H Bt.refl hd'⟩
    | false =>
      refine ⟨false, rfl, iteE rfl ?_⟩
      have he : rExp "{" l = synE l := if_neg (by rw [hz]; decide)
      have hb : rBlock 0 l = synE l := if_neg (by rw [hz]; decide)
      refine ⟨_, rfl, S, dx, _, rfl, eS, rfl, S, L, d, ts, l, "{", rfl, rg, fun l1 h1 => absurd h1 (by rw [he]; exact fun z => by cases z), fun e h1 => k2 e (by rw [hb, ← he]; exact h1)⟩
theorem ok_RBlkG {n : Nat} {f : Addr} {fd : FuncData} (F : Fun K "read_block" "Reader.read_block" sRBlk f fd) (T : TxBlk mg) (TR : TxR K C) (X : ErrH P w K mg base C') (MI : HasM P w K mg base CX0 2 C "is_next" PRNext (spNxtG C)) (MA : HasM P w K mg base CX0 3 C "accept" PRAcc (spAccG C)) (MX : HasM P w K mg base (L2N.CX P w) 4 C "expect" PRExp (spExpG (C' 1) (C' 2) C)) (MS : HasM P w K mg base (L2N.CX P w) (9 + 3 * n + 2) C "read_statement" PRStm (spRdD (C' 1) (C' 2) C n (rStmt (rBlock n)))) : FnOk P w K mg base (L2N.CX P w) (9 + 3 * n + 2 + 1) f fd PRBlk (spRdD (C' 1) (C' 2) C (n + 1) (rBlock (n + 1))) := by
  refine Fun.okN F scRBlk (fun vs H Q E h => ?_) (fun cdv A outer s H vs Q E hr h => ?_)
  · obtain ⟨S, L, d, ts, l, rfl, _⟩ := h
    rfl
  · obtain ⟨S, L, d, ts, l, rfl, rg, hd, k1, k2⟩ := h
    have hr2 := hr.mono (j := 2) (by omega)
    have hr3 := hr.mono (j := 3) (by omega)
    have hr4 := hr.mono (j := 4) (by omega)
    obtain ⟨dx, i, eS⟩ := rg.ins
    have tk := L2N.takes_of (X := cxOf (L2N.CX P w) P w K mg base NRBlk "Reader.read_block" (defScope sRBlk) f cdv A outer s H E) (E := E) rfl rfl rfl rfl
    refine ⟨_, (pss_cons (ps_if (PW.pt (pw_and (pt_val (pe_methH (pv 0) TR.cl MI hr2 pass0 (pa_cons pe_str pa_nil))) (pw_and1 (pt_cmpR op_eq (pe_fld (pv 0) rfl) (pe_globE rfl T.c_DEEPEST) (nomark _)))))
  (pss_one (ps_raiseX rfl tk X.h2 (hr.mono (by omega)) rfl (pa_cons pe_str pa_nil)))
  pss_nil)
  (pss_cons (ps_expr (pe_methH (pv 0) TR.cl MX hr4 (fun pins σ H1 s1 e s' I c => L2N.passAt tk σ pins H1 s1 e s' I c) (pa_cons pe_str pa_nil)))
  (pss_cons (ps_fldaug (pv 0) pe_int in_add)
  (pss_cons (ps_set (i := 1) scRBlk.nd rfl (Or.inl rfl) (pe_lst pa_nil))
  (pss_cons (ps_while (passes_of rfl) (pt_not (pt_val (pe_methH (pv 0) TR.cl MA hr3 pass0 (pa_cons pe_str pa_nil))))
  (pss_one (ps_expr (pe_bm PySem.F.plainAttrs_list PySem.F.slot_list_append PySem.F.type_list_append mt_append (pv 1) (pa_cons (pe_methH0 (pv 0) TR.cl MS hr (fun pins σ H1 s1 e s' I c => L2N.passAt tk σ pins H1 s1 e s' I c)) pa_nil)))))
  (pss_cons (ps_fldaug (pv 0) pe_int in_sub)
  (pss_one (ps_ret (pe_callTy call_tuple_of (by rfl) T.n_tuple bb_tuple (pa_cons (pv 1) pa_nil)))))))))), ?_⟩
    have eq0 : rBlock (n + 1) l = andR (rExp "{" l) (rStms (rBlock n)) := rfl
    refine ⟨_, rfl, S, dx, _, rfl, eS, rfl, S, L, d, ts, l, "{", rfl, rg, ?_⟩
    cases hz : isW "{" l with
    | false =>
      refine ⟨false, rfl, iteE rfl ?_⟩
      have he : rExp "{" l = synE l := if_neg (by rw [hz]; decide)
      have hb : rBlock (n + 1) l = synE l := by rw [eq0, he]; rfl
      refine ⟨_, rfl, S, dx, _, rfl, eS, rfl, S, L, d, ts, l, "{", rfl, rg, fun l1 h1 => absurd h1 (by rw [he]; exact fun z => by cases z), fun e h1 => k2 e (by rw [hb, ← he]; exact h1)⟩
    | true =>
    refine ⟨true, rfl, iteS rfl ?_⟩
    refine ⟨_, rfl, S, C, dx, _, _, rfl, eS, TR.cl, TR.nD, rfl, rfl, _, rfl, iteE (decide_eq_false fun z => by injection z with z; omega) ?_⟩
    refine ⟨_, rfl, S, dx, _, rfl, eS, rfl, S, L, d, ts, l, "{", rfl, rg, fun l1 h1 H1 b1 rg1 => ?_, fun e h1 => k2 e (by rw [eq0, h1]; rfl)⟩
    rw [h1] at eq0
    replace eq0 : rBlock (n + 1) l = rStms (rBlock n) l1 := eq0
    obtain ⟨dx1, i1, e2⟩ := rg1.ins
    refine ⟨_, rfl, S, C, dx1, _, _, rfl, e2, TR.cl, TR.nD, rfl, _, _, rfl, rfl, dx1, _, e2, (by show 3 < 1000; decide), ?_⟩
    rw [show putF "depth" (.int (((d : Nat) : Int) + 1)) (rdF L i1 d) = rdF L i1 (d + 1) from putF_dp L i1 d (d + 1)]
    have rg2 : RdG C (upd H1 S (.ins C dx1 (rdF L i1 (d + 1)))) S L (d + 1) ts l1 := rg1.depth e2
    have b2 : Bt S H (upd H1 S (.ins C dx1 (rdF L i1 (d + 1)))) := b1.trans bt_upd
    generalize upd H1 S (.ins C dx1 (rdF L i1 (d + 1))) = H2 at *
    refine ⟨(by show 0 ≤ sizeLine; decide), fun X' hX => ?_⟩
    have lg : LsG C S L X' (d + 1) ts H (upd H2 X' (.lst [])) (l1.length + 1) l1 := .new b2 rg2 hX (by have := rg2.len; show 0 + _ ≤ _; omega)
    refine ⟨fun m σ H' => ∃ (l2 : Tl), m = l2.length ∧ σ = [some (.ref S), some (.ref X')] ∧ LsG C S L X' (d + 1) ts H H' (l2.length + 1) l2 ∧ rBlock (n + 1) l = rStms (rBlock n) l2, ⟨_, l1, rfl, rfl, lg, eq0⟩, ?_⟩
    rintro m σ H5 ⟨l5, rfl, rfl, lg5, eq5⟩
    obtain ⟨dx5, i5, e5⟩ := lg5.rg.ins
    rw [stms_eq (block3 n)] at eq5
    refine ⟨_, rfl, S, dx5, _, rfl, e5, rfl, S, L, d + 1, ts, l5, "}", rfl, lg5.rg, fun hz5 => ⟨false, rfl, iteT ?_⟩, fun hz5 H6 b6 rg6 => ⟨true, rfl, iteF ?_⟩⟩
    · rw [if_neg (by rw [hz5]; decide)] at eq5
      obtain ⟨ys, eX5, _⟩ := lg5.lst
      refine ⟨fun σ' H' => ∃ (l7 : Tl), l7.length < l5.length ∧ σ' = [some (.ref S), some (.ref X')] ∧ LsG C S L X' (d + 1) ts H H' (l7.length + 1) l7 ∧ rBlock (n + 1) l = rStms (rBlock n) l7, fun σ' H' ⟨l7, u0, u1, u2, u3⟩ => ⟨l7.length, u0, l7, rfl, u1, u2, u3⟩, ?_⟩
      refine ⟨_, rfl, .inl ⟨rfl, _, SqL.of eX5⟩, _, rfl, S, dx5, _, rfl, e5, rfl, S, L, d + 1, ts, l5, rfl, lg5.rg, by omega, fun l7 h7 v7 H7 b7 rg7 => ?_, fun e h7 => (k2 e (by rw [eq5, h7]; rfl)).bt lg5.bt⟩
      have n7 := dec_stmt (block3 n) _ _ h7
      have lg7 := (lg5.read b7 rg7).le (m := l7.length + 1 + 1) (by omega)
      have eX7 := b7 _ _ eX5 lg5.2.1.2.1
      rw [h7] at eq5
      obtain ⟨zs, eZ, lz⟩ := lg7.lst
      rw [eX7] at eZ
      cases eZ
      refine ⟨X', _, _, rfl, rfl, eX7, Nat.lt_of_le_of_lt (show ys.length ≤ 1000002 by omega) (by decide), l7, by omega, rfl, lg7.put eX7 v7, eq5⟩
    · rw [if_pos hz5] at eq5
      have lg6 := lg5.read b6 rg6
      obtain ⟨xs, eX6, _⟩ := lg6.lst
      obtain ⟨dx6, i6, e6⟩ := rg6.ins
      refine ⟨_, rfl, S, C, dx6, _, _, rfl, e6, TR.cl, TR.nD, rfl, _, _, rfl, rfl, dx6, _, e6, (by show 3 < 1000; decide), ?_⟩
      rw [show ((d + 1 : Nat) : Int) - 1 = ((d : Nat) : Int) by omega, putF_dp L i6 (d + 1) d]
      have rg7 : RdG C (upd H6 S (.ins C dx6 (rdF L i6 d))) S L d ts l5.tail := rg6.depth e6
      have eX7 : upd H6 S (.ins C dx6 (rdF L i6 d)) X' = some (.lst xs) := by rw [upd_ne lg5.2.1.2.1]; exact eX6
      refine ⟨_, rfl, X', _, rfl, .inl ⟨SqL.of eX7, fun p hp => ?_⟩⟩
      have s7 := same_new (o := .tup xs) hp
      exact k1 _ eq5 _ _ ((lg6.bt.trans bt_upd).trans (.of s7)) (rg7.same s7)
end

/-! ### k05: blocks of any depth, read_function -/
abbrev sRFun : Stmt := inClass (topS 16) 18
abbrev NRFun : List Str := ["self", "name", "params"]
abbrev PRFun : List Str := ["self"]
theorem scRFun : FnScope NRFun PRFun (defScope sRFun) := ⟨rfl, rfl, rfl, by decide +kernel, rfl, by decide +kernel, by decide +kernel⟩
abbrev sRPrg : Stmt := inClass (topS 16) 19
abbrev NRPrg : List Str := ["self", "names", "kinds", "keeps", "functions"]
abbrev PRPrg : List Str := ["self"]
theorem scRPrg : FnScope NRPrg PRPrg (defScope sRPrg) := ⟨rfl, rfl, rfl, by decide +kernel, rfl, by decide +kernel, by decide +kernel⟩
abbrev sParse : Stmt := topS 17
abbrev NParse : List Str := ["text"]
abbrev PParse : List Str := ["text"]
theorem scParse : FnScope NParse PParse (defScope sParse) := ⟨rfl, rfl, rfl, by decide +kernel, rfl, by decide +kernel, by decide +kernel⟩
section
variable {P : Program} {w : World} {K : PySem.W.Frag} {mg : Str → Option Value} {base : Heap} {C CS CT : Addr} {C' : Nat → Addr}
theorem ok_RBlksG {fb fs ft fw : Addr} {db ds dt dw : FuncData} (FB : Fun K "read_block" "Reader.read_block" sRBlk fb db) (FS : Fun K "read_statement" "Reader.read_statement" sRStm fs ds) (FT : Fun K "read_try" "Reader.read_try" sRTry ft dt) (FW : Fun K "read_with" "Reader.read_with" sRWth fw dw) (T : TxBlk mg) (TR : TxR K C) (X : ErrH P w K mg base C')
    (mb : Meth K C "read_block" fb) (bb : Binds K db PRBlk []) (ms : Meth K C "read_statement" fs) (bs : Binds K ds PRStm []) (mt : Meth K C "read_try" ft) (bt : Binds K dt PRTry []) (mw : Meth K C "read_with" fw) (bw : Binds K dw PRWth [])
    (MC : HasM P w K mg base CX0 1 C "current" PRCur (spCurG C)) (MI : HasM P w K mg base CX0 2 C "is_next" PRNext (spNxtG C)) (MA : HasM P w K mg base CX0 3 C "accept" PRAcc (spAccG C)) (MM : HasM P w K mg base (L2N.CX P w) 3 C "read_name" PRName (spRdN (C' 1) (C' 2) C rName)) (MX : HasM P w K mg base (L2N.CX P w) 4 C "expect" PRExp (spExpG (C' 1) (C' 2) C)) (MN : HasM P w K mg base (L2N.CX P w) 4 C "read_names" PRNms (spRd (C' 1) (C' 2) C rNames)) (ME : HasM P w K mg base (L2N.CX P w) 5 C "read_expression" PRExpr (spRd (C' 1) (C' 2) C rExpr)) (MG : HasM P w K mg base (L2N.CX P w) 7 C "read_args" PRArgs (spRd (C' 1) (C' 2) C rArgs)) (MT : HasM P w K mg base (L2N.CX P w) 8 C "read_action" PRAct (spRd (C' 1) (C' 2) C rAction)) : ∀ n, FnOk P w K mg base (L2N.CX P w) (9 + 3 * n) fb db PRBlk (spRdD (C' 1) (C' 2) C n (rBlock n)) := by
  intro n
  induction n with
  | zero => exact ok_RBlkG0 (k := 4) FB T TR X MI MA MX
  | succ n ih =>
    have MB : HasM P w K mg base (L2N.CX P w) (9 + 3 * n) C "read_block" PRBlk (spRdD (C' 1) (C' 2) C n (rBlock n)) := ⟨fb, db, mb, ih, bb⟩
    have MY : HasM P w K mg base (L2N.CX P w) (9 + 3 * n + 1) C "read_try" PRTry (spRdD (C' 1) (C' 2) C n (rTry (rBlock n))) := ⟨ft, dt, mt, ok_RTryG (block3 n).u FT T.toTxSum.toTxRd TR MI MA MX MN MB, bt⟩
    have MW : HasM P w K mg base (L2N.CX P w) (9 + 3 * n + 1) C "read_with" PRWth (spRdD (C' 1) (C' 2) C n (rWith (rBlock n))) := ⟨fw, dw, mw, ok_RWthG FW TR MM MA MX MN MG MB, bw⟩
    have MZ : HasM P w K mg base (L2N.CX P w) (9 + 3 * n + 2) C "read_statement" PRStm (spRdD (C' 1) (C' 2) C n (rStmt (rBlock n))) := ⟨fs, ds, ms, ok_RStmG FS TR MC MM MA MX MN ME MT MB MY MW, bs⟩
    have r := ok_RBlkG FB T TR X MI MA MX MZ
    rw [show 9 + 3 * n + 2 + 1 = 9 + 3 * (n + 1) by omega] at r
    exact r
theorem ok_RFunG {f : Addr} {fd : FuncData} (F : Fun K "read_function" "Reader.read_function" sRFun f fd) (T : TxRd mg) (TR : TxR K C) (MM : HasM P w K mg base (L2N.CX P w) 3 C "read_name" PRName (spRdN CS CT C rName)) (MA : HasM P w K mg base CX0 3 C "accept" PRAcc (spAccG C)) (MX : HasM P w K mg base (L2N.CX P w) 4 C "expect" PRExp (spExpG CS CT C)) (MP : HasM P w K mg base (L2N.CX P w) 4 C "read_param" PRPar (spRd CS CT C rParam)) (MB : HasM P w K mg base (L2N.CX P w) (9 + 3 * 30) C "read_block" PRBlk (spRdD CS CT C 30 (rBlock 30))) : FnOk P w K mg base (L2N.CX P w) (9 + 3 * 30 + 1) f fd PRFun (spRdD CS CT C 30 rFunction) := by
  refine Fun.okN F scRFun (fun vs H Q E h => ?_) (fun cdv A outer s H vs Q E hr h => ?_)
  · obtain ⟨S, L, d, ts, l, rfl, _⟩ := h
    rfl
  · obtain ⟨S, L, d, ts, l, rfl, rg, hd, k1, k2⟩ := h
    have hr3 := hr.mono (j := 3) (by omega)
    have hr4 := hr.mono (j := 4) (by omega)
    obtain ⟨dx, i, eS⟩ := rg.ins
    have tk := L2N.takes_of (X := cxOf (L2N.CX P w) P w K mg base NRFun "Reader.read_function" (defScope sRFun) f cdv A outer s H E) (E := E) rfl rfl rfl rfl
    refine ⟨_, (pss_cons (ps_set (i := 1) scRFun.nd rfl (Or.inl rfl) (pe_methH0 (pv 0) TR.cl MM hr3 (fun pins σ H1 s1 e s' I c => L2N.passAt tk σ pins H1 s1 e s' I c)))
  (pss_cons (ps_expr (pe_methH (pv 0) TR.cl MX hr4 (fun pins σ H1 s1 e s' I c => L2N.passAt tk σ pins H1 s1 e s' I c) (pa_cons pe_str pa_nil)))
  (pss_cons (ps_set (i := 2) scRFun.nd rfl (Or.inl rfl) (pe_lst pa_nil))
  (C8.pss_cut (ps_if (pt_not (pt_val (pe_methH (pv 0) TR.cl MA hr3 pass0 (pa_cons pe_str pa_nil))))
  (pss_cons (ps_expr (pe_bm PySem.F.plainAttrs_list PySem.F.slot_list_append PySem.F.type_list_append mt_append (pv 2) (pa_cons (pe_methH0 (pv 0) TR.cl MP hr4 (fun pins σ H1 s1 e s' I c => L2N.passAt tk σ pins H1 s1 e s' I c)) pa_nil)))
  (pss_cons (ps_while (passes_of rfl) (pt_val (pe_methH (pv 0) TR.cl MA hr3 pass0 (pa_cons pe_str pa_nil)))
  (pss_one (ps_expr (pe_bm PySem.F.plainAttrs_list PySem.F.slot_list_append PySem.F.type_list_append mt_append (pv 2) (pa_cons (pe_methH0 (pv 0) TR.cl MP hr4 (fun pins σ H1 s1 e s' I c => L2N.passAt tk σ pins H1 s1 e s' I c)) pa_nil)))))
  (pss_one (ps_expr (pe_methH (pv 0) TR.cl MX hr4 (fun pins σ H1 s1 e s' I c => L2N.passAt tk σ pins H1 s1 e s' I c) (pa_cons pe_str pa_nil))))))
  pss_nil)
  (pss_one (ps_ret (pe_tup (pa_cons (pv 1) (pa_cons (pe_callTy call_tuple_of (by rfl) T.n_tuple bb_tuple (pa_cons (pv 2) pa_nil)) (pa_cons (pe_methH0 (pv 0) TR.cl MB hr (fun pins σ H1 s1 e s' I c => L2N.passAt tk σ pins H1 s1 e s' I c)) pa_nil)))))))))), ?_⟩
    have cn : isW "," [] = false := by decide +kernel
    have eq0 : rFunction l = andR (rName l) fun l1 => andR (rExp "(" l1) fun l2 => andR (if isW ")" l2 = true then .ok l2.tail else andR (rParam l2) fun l3 => andR (rMore rParam l3.length l3) (rExp ")")) (rBlock 30) := rfl
    refine ⟨_, rfl, S, dx, _, rfl, eS, rfl, S, L, d, ts, l, rfl, rg, fun l1 h1 H1 b1 rg1 => ?_, fun e h1 => k2 e (by rw [eq0, h1]; rfl)⟩
    rw [h1] at eq0
    replace eq0 : rFunction l = andR (rExp "(" l1) _ := eq0
    obtain ⟨dx1, i1, e1⟩ := rg1.ins
    refine ⟨_, rfl, S, dx1, _, rfl, e1, rfl, S, L, d, ts, l1, "(", rfl, rg1, fun l2 h2 H2 b2 rg2 => ⟨(by show 0 ≤ sizeLine; decide), fun X hX => ?_⟩, fun e h2 => (k2 e (by rw [eq0, h2]; rfl)).bt b1⟩
    rw [h2] at eq0
    replace eq0 : rFunction l = andR (if isW ")" l2 = true then .ok l2.tail else andR (rParam l2) fun l3 => andR (rMore rParam l3.length l3) (rExp ")")) (rBlock 30) := eq0
    have lg : LsG C S L X d ts H (upd H2 X (.lst [])) (l2.length + 1) l2 := .new (b1.trans b2) rg2 hX (by have := rg2.len; show 0 + _ ≤ _; omega)
    have eX : upd H2 X (.lst []) X = some (.lst []) := upd_same
    generalize upd H2 X (.lst []) = H3 at *
    obtain ⟨dx3, i3, e3⟩ := lg.rg.ins
    refine ⟨fun σ H' => ∃ l6 : Tl, σ = [some (.ref S), some (.str (textH l)), some (.ref X)] ∧ LsG C S L X d ts H H' 0 l6 ∧ rFunction l = rBlock 30 l6, ?_, ?_⟩
    · refine ⟨_, rfl, S, dx3, _, rfl, e3, rfl, S, L, d, ts, l2, ")", rfl, lg.rg, fun hz => ⟨false, rfl, iteS rfl ?_⟩, fun hz H4 b4 rg4 => ⟨true, rfl, iteE rfl ?_⟩⟩
      case refine_2 =>
        rw [if_pos hz] at eq0
        exact ⟨_, rfl, (lg.read b4 rg4).le (Nat.zero_le _), eq0⟩
      rw [if_neg (by rw [hz]; decide), andR_assoc] at eq0
      refine ⟨_, rfl, .inl ⟨rfl, _, SqL.of eX⟩, _, rfl, S, dx3, _, rfl, e3, rfl, S, L, d, ts, l2, rfl, lg.rg, fun l3 h3 v H4 b4 rg4 => ?_, fun e h3 => (k2 e (by rw [eq0, h3]; rfl)).bt lg.bt⟩
      have n3 := (param3.u _ _ h3).length_le
      rw [h3] at eq0
      replace eq0 : rFunction l = andR (andR (rMore rParam l3.length l3) (rExp ")")) (rBlock 30) := eq0
      have lg4 := (lg.read b4 rg4).le (m := l3.length + 1) (by omega)
      have eX4 := b4 _ _ eX lg.2.1.2.1
      have lg5 := lg4.put eX4 v
      refine ⟨X, _, _, rfl, rfl, eX4, by decide, ?_⟩
      generalize upd H4 X (.lst ([] ++ [v])) = H5 at *
      refine ⟨fun m σ H' => ∃ (l2 : Tl), m = l2.length ∧ σ = [some (.ref S), some (.str (textH l)), some (.ref X)] ∧ LsG C S L X d ts H H' l2.length l2 ∧ rFunction l = andR (andR (rMore rParam l2.length l2) (rExp ")")) (rBlock 30), ⟨_, l3, rfl, rfl, lg5, eq0⟩, ?_⟩
      rintro m σ H6 ⟨l5, rfl, rfl, lg5, eq5⟩
      obtain ⟨dx5, i5, e5⟩ := lg5.rg.ins
      rw [show rMore rParam l5.length l5 = _ from loop_eq param3.u cn l5] at eq5
      refine ⟨_, rfl, S, dx5, _, rfl, e5, rfl, S, L, d, ts, l5, ",", rfl, lg5.rg, fun hz5 => ⟨false, rfl, iteF ?_⟩, fun hz5 H6 b6 rg6 => ⟨true, rfl, iteT ?_⟩⟩
      · rw [if_neg (by rw [hz5]; decide)] at eq5
        replace eq5 : rFunction l = andR (rExp ")" l5) (rBlock 30) := eq5
        refine ⟨_, rfl, S, dx5, _, rfl, e5, rfl, S, L, d, ts, l5, ")", rfl, lg5.rg, fun l6 h6 H6 b6 rg6 => ?_, fun e h6 => (k2 e (by rw [eq5, h6]; rfl)).bt lg5.bt⟩
        rw [h6] at eq5
        exact ⟨_, rfl, (lg5.read b6 rg6).le (Nat.zero_le _), eq5⟩
      · rw [if_pos hz5] at eq5
        have lt5 := isW_lt hz5
        have lg6 := lg5.read b6 rg6
        obtain ⟨dx6, i6, e6⟩ := lg6.rg.ins
        obtain ⟨ys, eX6, _⟩ := lg6.lst
        refine ⟨fun σ' H' => ∃ (l7 : Tl), l7.length < l5.length ∧ σ' = [some (.ref S), some (.str (textH l)), some (.ref X)] ∧ LsG C S L X d ts H H' l7.length l7 ∧ rFunction l = andR (andR (rMore rParam l7.length l7) (rExp ")")) (rBlock 30), fun σ' H' ⟨l7, u0, u1, u2, u3⟩ => ⟨l7.length, u0, l7, rfl, u1, u2, u3⟩, ?_⟩
        refine ⟨_, rfl, .inl ⟨rfl, _, SqL.of eX6⟩, _, rfl, S, dx6, _, rfl, e6, rfl, S, L, d, ts, l5.tail, rfl, lg6.rg, fun l7 h7 v7 H7 b7 rg7 => ?_, fun e h7 => (k2 e (by rw [eq5, h7]; rfl)).bt lg6.bt⟩
        have n7 := (param3.u _ _ h7).length_le
        have lg7 := (lg6.read b7 rg7).le (m := l7.length + 1) (by omega)
        have eX7 := b7 _ _ eX6 lg6.2.1.2.1
        rw [h7] at eq5
        obtain ⟨zs, eZ, lz⟩ := lg7.lst
        rw [eX7] at eZ
        cases eZ
        refine ⟨X, _, _, rfl, rfl, eX7, Nat.lt_of_le_of_lt (show ys.length ≤ 1000002 by omega) (by decide), l7, by omega, rfl, lg7.put eX7 v7, eq5⟩
    · rintro σ H4 ⟨l6, rfl, lg4, eq⟩
      obtain ⟨xs, eX4, _⟩ := lg4.lst
      refine ⟨_, rfl, _, rfl, X, _, rfl, .inl ⟨SqL.of eX4, fun p hp => ?_⟩⟩
      have s7 := same_new (o := .tup xs) hp
      have lg7 := lg4.read (.of s7) (lg4.rg.same s7)
      generalize upd H4 p (.tup xs) = H7 at *
      obtain ⟨dx7, i7, e7⟩ := lg7.rg.ins
      refine ⟨_, rfl, S, dx7, _, rfl, e7, rfl, S, L, d, ts, l6, rfl, lg7.rg, hd, fun l8 h8 v H8 b8 rg8 => ⟨(by show 3 ≤ sizeLine; decide), fun t ht => ?_⟩, fun e h8 => (k2 e (eq.trans h8)).bt lg7.bt⟩
      have s9 := same_new (o := .tup [.str (textH l), .ref p, v]) ht
      exact k1 _ (eq.trans h8) _ _ ((lg7.bt.trans b8).trans (.of s9)) (rg8.same s9)
end

/-! ### k05: read_program -/
section
variable {P : Program} {w : World} {K : PySem.W.Frag} {mg : Str → Option Value} {base : Heap} {C : Addr} {C' : Nat → Addr}
theorem ok_RPrgG {f : Addr} {fd : FuncData} (F : Fun K "read_program" "Reader.read_program" sRPrg f fd) (T : TxRd mg) (TR : TxR K C) (X : ErrH P w K mg base C') (MC : HasM P w K mg base CX0 1 C "current" PRCur (spCurG C)) (MA : HasM P w K mg base CX0 3 C "accept" PRAcc (spAccG C)) (MR : HasM P w K mg base (L2N.CX P w) 4 C "read_row" PRRow (spRd (C' 1) (C' 2) C rRow)) (ME : HasM P w K mg base (L2N.CX P w) 5 C "read_expression" PRExpr (spRd (C' 1) (C' 2) C rExpr)) (MF : HasM P w K mg base (L2N.CX P w) (9 + 3 * 30 + 1) C "read_function" PRFun (spRdD (C' 1) (C' 2) C 30 rFunction)) : FnOk P w K mg base (L2N.CX P w) (9 + 3 * 30 + 1 + 1) f fd PRPrg (spRdD (C' 1) (C' 2) C 30 rProgram) := by
  refine Fun.okN F scRPrg (fun vs H Q E h => ?_) (fun cdv A outer s H vs Q E hr h => ?_)
  · obtain ⟨S, L, d, ts, l, rfl, _⟩ := h
    rfl
  · obtain ⟨S, L, d, ts, l, rfl, rg, hd, k1, k2⟩ := h
    have hr1 := hr.mono (j := 1) (by omega)
    have hr3 := hr.mono (j := 3) (by omega)
    have hr4 := hr.mono (j := 4) (by omega)
    have hr5 := hr.mono (j := 5) (by omega)
    obtain ⟨dx, i, eS⟩ := rg.ins
    have tk := L2N.takes_of (X := cxOf (L2N.CX P w) P w K mg base NRPrg "Reader.read_program" (defScope sRPrg) f cdv A outer s H E) (E := E) rfl rfl rfl rfl
    refine ⟨_, (C8.pss_cut (ps_set (i := 1) scRPrg.nd rfl (Or.inl rfl) (pe_ifExp (pt_val (pe_methH (pv 0) TR.cl MA hr3 pass0 (pa_cons pe_str pa_nil))) (pe_methH0 (pv 0) TR.cl MR hr4 (fun pins σ H1 s1 e s' I c => L2N.passAt tk σ pins H1 s1 e s' I c)) (pe_tup pa_nil)))
  (C8.pss_cut (ps_set (i := 2) scRPrg.nd rfl (Or.inl rfl) (pe_ifExp (pt_val (pe_methH (pv 0) TR.cl MA hr3 pass0 (pa_cons pe_str pa_nil))) (pe_methH0 (pv 0) TR.cl MR hr4 (fun pins σ H1 s1 e s' I c => L2N.passAt tk σ pins H1 s1 e s' I c)) (pe_tup pa_nil)))
  (pss_cons (ps_set (i := 3) scRPrg.nd rfl (Or.inl rfl) (pe_lst pa_nil))
  (pss_cons (ps_while (passes_of rfl) (pt_val (pe_methH (pv 0) TR.cl MA hr3 pass0 (pa_cons pe_str pa_nil)))
  (pss_one (ps_expr (pe_bm PySem.F.plainAttrs_list PySem.F.slot_list_append PySem.F.type_list_append mt_append (pv 3) (pa_cons (pe_methH0 (pv 0) TR.cl ME hr5 (fun pins σ H1 s1 e s' I c => L2N.passAt tk σ pins H1 s1 e s' I c)) pa_nil)))))
  (pss_cons (ps_set (i := 4) scRPrg.nd rfl (Or.inl rfl) (pe_lst pa_nil))
  (pss_cons (ps_while (passes_of rfl) (pt_val (pe_methH (pv 0) TR.cl MA hr3 pass0 (pa_cons pe_str pa_nil)))
  (pss_one (ps_expr (pe_bm PySem.F.plainAttrs_list PySem.F.slot_list_append PySem.F.type_list_append mt_append (pv 4) (pa_cons (pe_methH0 (pv 0) TR.cl MF hr (fun pins σ H1 s1 e s' I c => L2N.passAt tk σ pins H1 s1 e s' I c)) pa_nil)))))
  (pss_cons (ps_if (pt_cmpR op_ne (pe_ix (r := rIxT K) ix_tup (pe_methH0 (pv 0) TR.cl MC hr1 pass0) pe_int (fun _ _ => rfl)) pe_str (nomark _))
  (pss_one (ps_raiseX rfl tk X.h1 (hr.mono (by decide)) rfl (pa_cons (pe_ix (r := rIxT K) ix_tup (pe_methH0 (pv 0) TR.cl MC hr1 pass0) pe_int (fun _ _ => rfl)) pa_nil)))
  pss_nil)
  (pss_one (ps_ret (pe_tup (pa_cons (pv 1) (pa_cons (pv 2) (pa_cons (pe_callTy call_tuple_of (by rfl) T.n_tuple bb_tuple (pa_cons (pv 3) pa_nil)) (pa_cons (pe_callTy call_tuple_of (by rfl) T.n_tuple bb_tuple (pa_cons (pv 4) pa_nil)) pa_nil)))))))))))))), ?_⟩
    have cnk : isW "keep" [] = false := by decide +kernel
    have cnd : isW "def" [] = false := by decide +kernel
    have eq0 : rProgram l = andR (if isW "globals" l = true then rRow l.tail else .ok l) fun l1 => andR (if isW "kinds" l1 = true then rRow l1.tail else .ok l1) fun l2 => andR (rLoop (isW "keep") rExpr l2.length l2) fun l3 => andR (rLoop (isW "def") rFunction l3.length l3) fun l4 => if kindH l4 = "end" then .ok l4 else synE l4 := rfl
    refine ⟨fun σ H' => ∃ (u : V) (l1 : Tl), σ = [some (.ref S), some u, none, none, none] ∧ Bt S H H' ∧ RdG C H' S L d ts l1 ∧ rProgram l = andR (if isW "kinds" l1 = true then rRow l1.tail else .ok l1) fun l2 => andR (rLoop (isW "keep") rExpr l2.length l2) fun l3 => andR (rLoop (isW "def") rFunction l3.length l3) fun l4 => if kindH l4 = "end" then .ok l4 else synE l4, ?_, ?_⟩
    · refine ⟨_, rfl, S, dx, _, rfl, eS, rfl, S, L, d, ts, l, "globals", rfl, rg, fun hz => ⟨false, rfl, iteE rfl ⟨(by show 0 ≤ sizeLine; decide), fun u hu => ?_⟩⟩, fun hz H1 b1 rg1 => ⟨true, rfl, iteS rfl ?_⟩⟩
      · rw [if_neg (by rw [hz]; decide)] at eq0
        have s2 := same_new (o := .tup []) hu
        exact ⟨_, l, rfl, .of s2, rg.same s2, eq0⟩
      · rw [if_pos hz] at eq0
        obtain ⟨dx1, i1, e1⟩ := rg1.ins
        refine ⟨_, rfl, S, dx1, _, rfl, e1, rfl, S, L, d, ts, l.tail, rfl, rg1, fun l1 h1 u H2 b2 rg2 => ?_, fun e h1 => (k2 e (by rw [eq0, h1]; rfl)).bt b1⟩
        rw [h1] at eq0
        exact ⟨u, l1, rfl, b1.trans b2, rg2, eq0⟩
    clear eq0
    rintro σ H1 ⟨u, l1, rfl, b1, rg1, eq1⟩
    obtain ⟨dx1, i1, e1⟩ := rg1.ins
    refine ⟨fun σ H' => ∃ (v : V) (l2 : Tl), σ = [some (.ref S), some u, some v, none, none] ∧ Bt S H H' ∧ RdG C H' S L d ts l2 ∧ rProgram l = andR (rLoop (isW "keep") rExpr l2.length l2) fun l3 => andR (rLoop (isW "def") rFunction l3.length l3) fun l4 => if kindH l4 = "end" then .ok l4 else synE l4, ?_, ?_⟩
    · refine ⟨_, rfl, S, dx1, _, rfl, e1, rfl, S, L, d, ts, l1, "kinds", rfl, rg1, fun hz => ⟨false, rfl, iteE rfl ⟨(by show 0 ≤ sizeLine; decide), fun v hv => ?_⟩⟩, fun hz H2 b2 rg2 => ⟨true, rfl, iteS rfl ?_⟩⟩
      · rw [if_neg (by rw [hz]; decide)] at eq1
        have s2 := same_new (o := .tup []) hv
        exact ⟨_, l1, rfl, b1.trans (.of s2), rg1.same s2, eq1⟩
      · rw [if_pos hz] at eq1
        obtain ⟨dx2, i2, e2⟩ := rg2.ins
        refine ⟨_, rfl, S, dx2, _, rfl, e2, rfl, S, L, d, ts, l1.tail, rfl, rg2, fun l2 h2 v H3 b3 rg3 => ?_, fun e h2 => (k2 e (by rw [eq1, h2]; rfl)).bt (b1.trans b2)⟩
        rw [h2] at eq1
        exact ⟨v, l2, rfl, (b1.trans b2).trans b3, rg3, eq1⟩
    clear eq1
    rintro σ H2 ⟨v, l2, rfl, b2, rg2, eq2⟩
    refine ⟨(by show 0 ≤ sizeLine; decide), fun X' hX => ?_⟩
    have lg : LsG C S L X' d ts H (upd H2 X' (.lst [])) l2.length l2 := .new b2 rg2 hX (by have := rg2.len; show 0 + _ ≤ _; omega)
    refine ⟨fun m σ H' => ∃ (l3 : Tl), m = l3.length ∧ σ = [some (.ref S), some u, some v, some (.ref X'), none] ∧ LsG C S L X' d ts H H' l3.length l3 ∧ rProgram l = andR (rLoop (isW "keep") rExpr l3.length l3) fun l3 => andR (rLoop (isW "def") rFunction l3.length l3) fun l4 => if kindH l4 = "end" then .ok l4 else synE l4, ⟨_, l2, rfl, rfl, lg, eq2⟩, ?_⟩
    rintro m σ H5 ⟨l5, rfl, rfl, lg5, eq5⟩
    obtain ⟨dx5, i5, e5⟩ := lg5.rg.ins
    rw [show rLoop (isW "keep") rExpr l5.length l5 = _ from loop_eq suf_expr cnk l5] at eq5
    refine ⟨_, rfl, S, dx5, _, rfl, e5, rfl, S, L, d, ts, l5, "keep", rfl, lg5.rg, fun hz5 => ⟨false, rfl, iteF ?_⟩, fun hz5 H6 b6 rg6 => ⟨true, rfl, iteT ?_⟩⟩
    case refine_2 =>
      rw [if_pos hz5] at eq5
      have lt5 := isW_lt hz5
      have lg6 := lg5.read b6 rg6
      obtain ⟨dx6, i6, e6⟩ := lg6.rg.ins
      obtain ⟨ys, eX6, _⟩ := lg6.lst
      refine ⟨fun σ' H' => ∃ (l7 : Tl), l7.length < l5.length ∧ σ' = [some (.ref S), some u, some v, some (.ref X'), none] ∧ LsG C S L X' d ts H H' l7.length l7 ∧ rProgram l = andR (rLoop (isW "keep") rExpr l7.length l7) fun l3 => andR (rLoop (isW "def") rFunction l3.length l3) fun l4 => if kindH l4 = "end" then .ok l4 else synE l4, fun σ' H' ⟨l7, u0, u1, u2, u3⟩ => ⟨l7.length, u0, l7, rfl, u1, u2, u3⟩, ?_⟩
      rw [andR_assoc] at eq5
      refine ⟨_, rfl, .inl ⟨rfl, _, SqL.of eX6⟩, _, rfl, S, dx6, _, rfl, e6, rfl, S, L, d, ts, l5.tail, rfl, lg6.rg, fun l7 h7 v7 H7 b7 rg7 => ?_, fun e h7 => (k2 e (by rw [eq5, h7]; rfl)).bt lg6.bt⟩
      have n7 := (suf_expr _ _ h7).length_le
      have lg7 := (lg6.read b7 rg7).le (m := l7.length + 1) (by omega)
      have eX7 := b7 _ _ eX6 lg6.2.1.2.1
      rw [h7] at eq5
      obtain ⟨zs, eZ, lz⟩ := lg7.lst
      rw [eX7] at eZ
      cases eZ
      refine ⟨X', _, _, rfl, rfl, eX7, Nat.lt_of_le_of_lt (show ys.length ≤ 1000002 by omega) (by decide), l7, by omega, rfl, lg7.put eX7 v7, eq5⟩
    rw [if_neg (by rw [hz5]; decide)] at eq5
    replace eq5 : rProgram l = andR (rLoop (isW "def") rFunction l5.length l5) fun l4 => if kindH l4 = "end" then .ok l4 else synE l4 := eq5
    obtain ⟨ks, eK5, _⟩ := lg5.lst
    refine ⟨(by show 0 ≤ sizeLine; decide), fun Y hY => ?_⟩
    have XY : X' ≠ Y := ne_of_none eK5 hY
    have lgY : LsG C S L Y d ts H (upd H5 Y (.lst [])) l5.length l5 := .new lg5.bt lg5.rg hY (by have := lg5.rg.len; show 0 + _ ≤ _; omega)
    have eKY : upd H5 Y (.lst []) X' = some (.lst ks) := by rw [upd_ne XY]; exact eK5
    refine ⟨fun m σ H' => ∃ (l3 : Tl), m = l3.length ∧ σ = [some (.ref S), some u, some v, some (.ref X'), some (.ref Y)] ∧ LsG C S L Y d ts H H' l3.length l3 ∧ H' X' = some (.lst ks) ∧ rProgram l = andR (rLoop (isW "def") rFunction l3.length l3) fun l4 => if kindH l4 = "end" then .ok l4 else synE l4, ⟨_, l5, rfl, rfl, lgY, eKY, eq5⟩, ?_⟩
    clear eq5 e5 hz5
    rintro m σ H6 ⟨l6, rfl, rfl, lg6, eK6, eq6⟩
    obtain ⟨dx6, i6, e6⟩ := lg6.rg.ins
    rw [show rLoop (isW "def") rFunction l6.length l6 = _ from loop_eq function3.u cnd l6] at eq6
    have XS : X' ≠ S := lg5.2.1.2.1
    refine ⟨_, rfl, S, dx6, _, rfl, e6, rfl, S, L, d, ts, l6, "def", rfl, lg6.rg, fun hz6 => ⟨false, rfl, iteF ?_⟩, fun hz6 H7 b7 rg7 => ⟨true, rfl, iteT ?_⟩⟩
    case refine_2 =>
      rw [if_pos hz6] at eq6
      have lt6 := isW_lt hz6
      have lg7 := lg6.read b7 rg7
      obtain ⟨dx7, i7, e7⟩ := lg7.rg.ins
      obtain ⟨ys, eX7, _⟩ := lg7.lst
      refine ⟨fun σ' H' => ∃ (l7 : Tl), l7.length < l6.length ∧ σ' = [some (.ref S), some u, some v, some (.ref X'), some (.ref Y)] ∧ LsG C S L Y d ts H H' l7.length l7 ∧ H' X' = some (.lst ks) ∧ rProgram l = andR (rLoop (isW "def") rFunction l7.length l7) fun l4 => if kindH l4 = "end" then .ok l4 else synE l4, fun σ' H' ⟨l7, u0, u1, u2, u3, u4⟩ => ⟨l7.length, u0, l7, rfl, u1, u2, u3, u4⟩, ?_⟩
      rw [andR_assoc] at eq6
      refine ⟨_, rfl, .inl ⟨rfl, _, SqL.of eX7⟩, _, rfl, S, dx7, _, rfl, e7, rfl, S, L, d, ts, l6.tail, rfl, lg7.rg, hd, fun l8 h8 v8 H8 b8 rg8 => ?_, fun e h8 => (k2 e (by rw [eq6, h8]; rfl)).bt lg7.bt⟩
      have n8 := (function3.u _ _ h8).length_le
      have lg8 := (lg7.read b8 rg8).le (m := l8.length + 1) (by omega)
      have eX8 := b8 _ _ eX7 lg7.2.1.2.1
      have eK8 := b8 _ _ (b7 _ _ eK6 XS) XS
      rw [h8] at eq6
      obtain ⟨zs, eZ, lz⟩ := lg8.lst
      rw [eX8] at eZ
      cases eZ
      refine ⟨Y, _, _, rfl, rfl, eX8, Nat.lt_of_le_of_lt (show ys.length ≤ 1000002 by omega) (by decide), l8, by omega, rfl, lg8.put eX8 v8, by rw [upd_ne XY]; exact eK8, eq6⟩
    rw [if_neg (by rw [hz6]; decide)] at eq6
    replace eq6 : rProgram l = if kindH l6 = "end" then .ok l6 else synE l6 := eq6
    refine ⟨_, rfl, S, dx6, _, rfl, e6, rfl, S, L, d, ts, l6, rfl, lg6.rg, fun p hp => ⟨p, _, _, _, rfl, rfl, SqT.of hp, rfl, rfl, _, rfl, ?_⟩⟩
    by_cases he : kindH l6 = "end"
    case neg =>
      rw [if_neg he] at eq6
      refine iteS (by rw [dec_str, decide_eq_false he]; rfl) ?_
      refine ⟨_, rfl, S, dx6, _, rfl, e6, rfl, S, L, d, ts, l6, rfl, lg6.rg, fun p hp => ⟨p, _, _, _, rfl, rfl, SqT.of hp, rfl, ?_⟩⟩
      exact ⟨_, rfl, fun d' hd => k2 (.syn (posH l6)) eq6 d' H6 lg6.bt hd⟩
    rw [if_pos he] at eq6
    refine iteE (by rw [dec_str, decide_eq_true he]; rfl) ?_
    obtain ⟨ys, eY6, _⟩ := lg6.lst
    refine ⟨_, rfl, _, rfl, _, rfl, X', _, rfl, .inl ⟨SqL.of eK6, fun k1' hk1 => ?_⟩⟩
    have s8 := same_new (o := .tup ks) hk1
    refine ⟨_, rfl, Y, _, rfl, .inl ⟨SqL.of (s8 _ _ eY6), fun q1 hq1 => ⟨(by show 4 ≤ sizeLine; decide), fun t1 ht1 => ?_⟩⟩⟩
    have s9 := same_new (o := .tup ys) hq1
    have s10 := same_new (o := .tup [u, v, .ref k1', .ref q1]) ht1
    have s11 := (s8.trans s9).trans s10
    exact k1 _ eq6 _ _ (lg6.bt.trans (.of s11)) (lg6.rg.same s11)
end

/-! ### k05: parse, with its errors -/
theorem tkz_len {t : List Nat} {a : Nat} {ts : List TK} (h : Tkz t a ts) : ts.length + a ≤ t.length + 1 := by
  induction h with
  | fin h => subst h; show 1 + _ ≤ _; omega
  | gap _ _ _ ih => omega
  | sign _ _ _ ih => rw [List.length_cons]; omega
  | word _ _ _ lt _ _ ih => rw [List.length_cons]; omega
  | bad h _ _ _ =>
    have := (List.getElem?_eq_some_iff.mp h).1
    show 1 + _ ≤ _
    omega
theorem EndT.one {k : TK} (h : k.1 = "end" ∨ k.1 = "bad") : EndT [k] := ⟨[], k, rfl, (fun _ z => nomatch z), h⟩
theorem EndT.cons {x : TK} {l : Tl} (h : EndT l) (h1 : x.1 ≠ "end") (h2 : x.1 ≠ "bad") : EndT (x :: l) := by
  obtain ⟨P, k, rfl, hP, hk⟩ := h
  refine ⟨x :: P, k, rfl, fun y hy => ?_, hk⟩
  rcases List.mem_cons.mp hy with rfl | z
  · exact ⟨h1, h2⟩
  · exact hP y z
theorem kind_end (w : Str) : kindOf w ≠ "end" := by
  unfold kindOf
  repeat' split
  all_goals decide +kernel
theorem tkz_end {t : List Nat} {a : Nat} {ts : List TK} (h : Tkz t a ts) : EndT ts := by
  induction h with
  | fin h => exact .one (.inl rfl)
  | gap _ _ _ ih => exact ih
  | sign _ _ _ ih => exact ih.cons (by show ("mark" : Str) ≠ "end"; decide +kernel) (by show ("mark" : Str) ≠ "bad"; decide +kernel)
  | word _ _ _ _ k _ ih => exact ih.cons (kind_end _) k
  | bad _ _ _ _ => exact .one (.inr rfl)
/-- no text -/
def NoStr (K : PySem.W.Frag) (H : Hp) (v : V) : Prop := ∃ ty, TyX K H v ty ∧ PySem.W.kitOne K ty (.type "str") = some false
def ErS (CS CT : Addr) (H : Hp) (E : XK) : RdE → Prop
  | .syn p => ∀ d' H', Same H H' → H' d' = none → E (.ref CS) (some d') (upd H' d' (.xd [("position", .int (p : Nat))]))
  | .large w => ∀ d' H', Same H H' → H' d' = none → E (.ref CT) (some d') (upd H' d' (.xd [("word", .str w)]))
def spParseG (K : PySem.W.Frag) (CS CT CV : Addr) : Sp := fun vs H Q E => ∃ v : V, vs = [v] ∧ ((∃ (z : Str) (ts : Tl), v = .str z ∧ z.length ≤ 1000000 ∧ Tkz (TL.tl z) 0 ts ∧ TsOk ts ∧ (∀ l', rProgram ts = .ok l' → ∀ (x : V) (H' : Hp), Same H H' → Q x H') ∧ ∀ e, rProgram ts = .error e → ErS CS CT H E e) ∨
  (NoStr K H v ∧ ∀ d' H', Same H H' → H' d' = none → E (.ref CV) (some d') (upd H' d' (.xd [("value", v)]))))
section
variable {P : Program} {w : World} {K : PySem.W.Frag} {mg : Str → Option Value} {base : Heap} {C : Addr} {C' : Nat → Addr}
theorem ok_ParseG {f : Addr} {fd : FuncData} (F : Fun K "parse" "parse" sParse f fd) (ni : mg "isinstance" = none) (ns : mg "str" = none) (TR : TxR K C) (X : ErrH P w K mg base C') (HC : HasC P w K mg base CX0 3 "Reader" C PRIni (spRIni C)) (MP : HasM P w K mg base (L2N.CX P w) (9 + 3 * 30 + 1 + 1) C "read_program" PRPrg (spRdD (C' 1) (C' 2) C 30 rProgram)) :
    FnOk P w K mg base (L2N.CX P w) (9 + 3 * 30 + 1 + 1 + 1) f fd PParse (spParseG K (C' 1) (C' 2) (C' 0)) := by
  refine Fun.okN F scParse (fun vs H Q E h => ?_) (fun cdv A outer s H vs Q E hr h => ?_)
  · obtain ⟨v, rfl, _⟩ := h
    rfl
  · obtain ⟨v, rfl, h⟩ := h
    have hr4 := hr.mono (j := 4) (by omega)
    have T : mg "isinstance" = none ∧ mg "str" = none := ⟨ni, ns⟩
    have tk := L2N.takes_of (X := cxOf (L2N.CX P w) P w K mg base NParse "parse" (defScope sParse) f cdv A outer s H E) (E := E) rfl rfl rfl rfl
    refine ⟨_, (pss_cons (ps_if (pt_not (pt_val (pe_callB call_isi (by rfl) T.1 bb_isinstance (pa_cons (pv 0) (pa_cons (pe_bltn (v := .ty "str") (by rfl) T.2 bb_str rfl) pa_nil)))))
  (pss_one (ps_raiseX rfl tk X.h0 (hr.mono (by decide)) rfl (pa_cons (pv 0) pa_nil)))
  pss_nil)
  (pss_one (ps_ret (pe_methH0 (pe_makeH HC hr4 rfl pass0 (pa_cons (pv 0) pa_nil)) TR.cl MP hr (fun pins σ H1 s1 e s' I c => L2N.passAt tk σ pins H1 s1 e s' I c))))), ?_⟩
    rcases h with ⟨z, ts, rfl, hz, ht, ho, k1, k2⟩ | ⟨⟨ty, h1, h2⟩, k⟩
    case inr =>
      refine ⟨_, rfl, _, _, _, _, _, rfl, .ty _, h1, h2, _, rfl, iteS rfl ?_⟩
      exact ⟨_, rfl, _, rfl, fun d' hd' => k d' H (fun _ _ e => e) hd'⟩
    have ht : Tkz z.cps.toList 0 ts := ht
    refine ⟨_, rfl, _, _, _, _, _, rfl, .ty _, .base (.str z), kit_ty (r := true) (by decide +kernel), _, rfl, iteE rfl ?_⟩
    refine ⟨_, rfl, fun x dx hx hdx hne => ⟨x, dx, z, ts, rfl, upd_same, hz, ht, ho.len, fun L H1 b1 ra1 => ⟨rfl, ?_⟩⟩⟩
    obtain ⟨dy, _, e1, _⟩ := id ra1
    have same : ∀ H2, Bt x H1 H2 → Same H H2 := fun H2 b2 b o e => by
      have bx : b ≠ x := fun q => by rw [q, hx] at e; cases e
      have bd : b ≠ dx := fun q => by rw [q, hdx] at e; cases e
      exact b2 _ _ (b1 _ _ (by rw [upd_ne bx, upd_ne bd]; exact e) bx) bx
    refine ⟨x, dy, _, rfl, e1, rfl, x, L, 0, ts, ts, rfl, ⟨0, ra1, rfl, tkz_end ht, ho⟩, rfl, fun l' h1 v H2 b2 rg2 => k1 l' h1 v H2 (same H2 b2), fun e h1 => ?_⟩
    have k2 := k2 e h1
    cases e with
    | syn p => exact fun d' H' b' n' => k2 d' H' (same H' b') n'
    | large q => exact fun d' H' b' n' => k2 d' H' (same H' b') n'
end

/-! ### text += text; sign * n -/
section
variable {X : Cx}
theorem ip_addS : PIp X .Add (fun x y H Q => ∃ i j, x = .str i ∧ y = .str j ∧ i.length + j.length ≤ sizeLine ∧ Q (.str (i ++ j)) H) := by
  intro pins s σ H x y v u Q I r1 r2 h
  obtain ⟨i, j, e1, e2, hz, q⟩ := h
  subst e1; subst e2
  obtain ⟨t, rfl⟩ := r1
  obtain ⟨t', rfl⟩ := r2
  exact SB.iadd (fun t' k => ⟨.str _, H, I.tok _, ⟨_, rfl⟩, q⟩) hz
theorem fold_rep (c : Nat) : ∀ (n : Nat) (acc : Array Nat), (List.replicate n (#[c] : Array Nat)).foldl (· ++ ·) acc = acc ++ (List.replicate n c).toArray
  | 0, acc => by simp
  | n + 1, acc => by
    rw [List.replicate_succ, List.foldl_cons, fold_rep c n, List.replicate_succ]
    apply Array.ext'
    simp
theorem op_repS : OpR X (binaryOp .Mult) (fun x y H Q => ∃ (c n : Nat), x = .str ⟨#[c]⟩ ∧ y = .int (n : Nat) ∧ n ≤ 1000 ∧ Q (.str ⟨(List.replicate n c).toArray⟩) H) := by
  intro pins s σ H x y v u Q I rx ry h
  obtain ⟨c, n, rfl, rfl, hn, q⟩ := h
  obtain ⟨t, rfl⟩ := rx
  obtain ⟨t', rfl⟩ := ry
  have e1 : ((⟨#[c]⟩ : Str)).length = 1 := rfl
  refine P.mul_str (by rw [decide_eq_false (by omega), decide_eq_false (by omega)]; rfl) (fun h1 h2 => ?_) (fun h1 h2 => ?_) ?_
  · rw [e1]
    have : (1 : Int) ≤ (2 ^ 63 - 1) / (n : Int) := by
      rw [Int.le_ediv_iff_mul_le (by omega)]
      omega
    omega
  · rw [e1]
    unfold Builtin.Str.tooLong
    refine decide_eq_false ?_
    rw [Int.toNat_natCast, Nat.one_mul]
    show ¬ n > 2 ^ 24
    omega
  · rcases Nat.lt_or_ge n 1 with h0 | h0
    · have en : n = 0 := by omega
      subst en
      rw [if_pos (by decide)]
      exact ⟨by decide, .str _, H, I.tok _, ⟨_, rfl⟩, q⟩
    · rw [if_neg (by omega)]
      rcases Nat.lt_or_ge n 2 with h1 | h1
      · have en : n = 1 := by omega
        subst en
        rw [if_pos (show (((1 : Nat) : Int) == 1 || _) = true from rfl)]
        exact ⟨.str _, H, I, ⟨_, rfl⟩, q⟩
      · have e2 : (((n : Nat) : Int) == 1 || (⟨#[c]⟩ : Str).length == 0) = false := by
          rw [e1]
          have : (((n : Nat) : Int) == 1) = false := by rw [beq_eq_false_iff_ne]; omega
          rw [this]
          rfl
        rw [if_neg (by rw [e2]; decide), Int.toNat_natCast]
        have e3 : (⟨(List.replicate n (⟨#[c]⟩ : Str).cps).foldl (· ++ ·) #[]⟩ : Str) = ⟨(List.replicate n c).toArray⟩ := by
          show (⟨(List.replicate n (#[c] : Array Nat)).foldl (· ++ ·) #[]⟩ : Str) = _
          rw [fold_rep, Array.empty_append]
        rw [e3]
        refine ⟨?_, .str _, H, I.tok _, ⟨_, rfl⟩, q⟩
        show (List.replicate n c).toArray.size ≤ 2 ^ 24
        rw [List.size_toArray, List.length_replicate]
        omega
end

/-! ### _law_names -/
abbrev sNames : Stmt := topS 22
abbrev NNames : List Str := ["_law_pool_here", "_law_letter", "_law_shift", "_law_k"]
abbrev PNames : List Str := ["_law_pool_here"]
theorem scNames : FnScope NNames PNames (defScope sNames) := ⟨rfl, rfl, rfl, by decide +kernel, rfl, by decide +kernel, by decide +kernel⟩
def nm (c : Nat) (i : Int) : Str := (⟨#[c]⟩ : Str) ++ ((toString i : String) : Str)
/-- a list of names as _law_names gives it -/
structure NamesOk (ns : List Str) : Prop where
  nd : ns.Nodup
  name : ∀ n ∈ ns, isName n = true
  len : ∀ n ∈ ns, n.length ≤ 3
  two : ∀ n ∈ ns, 2 ≤ n.length
theorem dig_facts : ∀ k : Fin 16, ((toString ((k.val : Nat) : Int) : String) : Str).cps.toList ≠ [] ∧ (∀ c ∈ ((toString ((k.val : Nat) : Int) : String) : Str).cps.toList, c ∈ DIG.cps.toList) ∧ ((toString ((k.val : Nat) : Int) : String) : Str).cps.toList.length ≤ 2 := by decide +kernel
theorem dig_inj : ∀ k j : Fin 16, ((toString ((k.val : Nat) : Int) : String) : Str) = ((toString ((j.val : Nat) : Int) : String) : Str) → k = j := by decide +kernel
theorem mod_inj : ∀ s k j : Fin 16, (7 * k.val + s.val) % 16 = (7 * j.val + s.val) % 16 → k = j := by decide +kernel
theorem kws_let : ∀ k ∈ KWS, ∀ c ∈ k.cps.toList, c ∈ LET.cps.toList := by decide +kernel
theorem let_dig : ∀ c ∈ DIG.cps.toList, c ∉ LET.cps.toList := by decide +kernel
theorem nm_list (c : Nat) (i : Int) : (nm c i).cps.toList = c :: ((toString i : String) : Str).cps.toList := by
  show (#[c] ++ ((toString i : String) : Str).cps).toList = _
  simp
theorem nm_name {c : Nat} (hc : c ∈ LET.cps.toList) {i : Int} (h0 : 0 ≤ i) (h1 : i < 16) : isName (nm c i) = true ∧ (nm c i).length ≤ 3 := by
  have e : i = (((⟨i.toNat, by omega⟩ : _root_.Fin 16).val : Nat) : Int) := by
    show i = ((i.toNat : Nat) : Int)
    omega
  obtain ⟨d1, d2, d3⟩ := dig_facts ⟨i.toNat, by omega⟩
  rw [← e] at d1 d2 d3
  have hl := nm_list c i
  have h0 : (nm c i).cps.toList[0]? = some c := by rw [hl]; rfl
  constructor
  · rw [isName_at h0, hl]
    simp only [Bool.and_eq_true, decide_eq_true_eq, Bool.not_eq_true']
    refine ⟨⟨hc, ?_⟩, ?_⟩
    · rw [List.all_eq_true]
      intro x hx
      unfold al
      simp only [Bool.or_eq_true, decide_eq_true_eq]
      rcases List.mem_cons.mp hx with q | q
      · rw [q]; exact .inl hc
      · exact .inr (d2 x q)
    · cases q : inV (.str (nm c i)) (KWS.map V.str) with
      | false => rfl
      | true =>
        unfold inV at q
        obtain ⟨v, hv, q⟩ := List.any_eq_true.mp q
        obtain ⟨k, hk, rfl⟩ := List.mem_map.mp hv
        have q : k = nm c i := by
          have q : (k == nm c i) = true := q
          simpa using q
        obtain ⟨x, hx⟩ := List.exists_mem_of_ne_nil _ d1
        exact absurd (kws_let k hk x (by rw [q, hl]; exact List.mem_cons_of_mem _ hx)) (let_dig x (d2 x hx))
  · show (nm c i).cps.size ≤ 3
    rw [← Array.length_toList, hl, List.length_cons]
    omega
theorem nm_inj {c : Nat} {i j : Int} (i0 : 0 ≤ i) (i1 : i < 16) (j0 : 0 ≤ j) (j1 : j < 16) (h : nm c i = nm c j) : i = j := by
  have q : ((toString i : String) : Str).cps.toList = ((toString j : String) : Str).cps.toList := by
    have z := congrArg (fun z : Str => z.cps.toList) h
    simp only [nm_list] at z
    exact (List.cons.inj z).2
  have e : ((toString i : String) : Str) = ((toString j : String) : Str) := by
    have z := congrArg List.toArray q
    simp only [Array.toArray_toList] at z
    cases hx : ((toString i : String) : Str) with
    | mk a =>
      cases hy : ((toString j : String) : Str) with
      | mk b =>
        rw [hx, hy] at z
        rw [show a = b from z]
  have ei : i = (((⟨i.toNat, by omega⟩ : _root_.Fin 16).val : Nat) : Int) := by
    show i = ((i.toNat : Nat) : Int)
    omega
  have ej : j = (((⟨j.toNat, by omega⟩ : _root_.Fin 16).val : Nat) : Int) := by
    show j = ((j.toNat : Nat) : Int)
    omega
  rw [ei, ej] at e
  have f := congrArg Fin.val (dig_inj _ _ e)
  have f : i.toNat = j.toNat := f
  omega
def nms (c : Nat) (s : Int) (n : Nat) : List Str := (List.range n).map fun k => nm c ((7 * (k : Nat) + s) % 16)
theorem nms_ok {c : Nat} (hc : c ∈ LET.cps.toList) {s : Int} (s0 : 0 ≤ s) (s1 : s < 16) {n : Nat} (hn : n ≤ 16) : NamesOk (nms c s n) := by
  have b : ∀ k : Nat, 0 ≤ (7 * (k : Int) + s) % 16 ∧ (7 * (k : Int) + s) % 16 < 16 := fun k => ⟨Int.emod_nonneg _ (by decide), Int.emod_lt_of_pos _ (by decide)⟩
  refine ⟨?_, fun x hx => ?_, fun x hx => ?_, fun x hx => ?_⟩
  · unfold nms
    rw [List.nodup_iff_pairwise_ne, List.pairwise_map]
    refine List.Pairwise.imp_of_mem (fun {i j} hi hj hne z => hne ?_) List.nodup_range
    have hi := List.mem_range.mp hi
    have hj := List.mem_range.mp hj
    have q := nm_inj (b i).1 (b i).2 (b j).1 (b j).2 z
    have m := mod_inj ⟨s.toNat, by omega⟩ ⟨i, by omega⟩ ⟨j, by omega⟩ (by show (7 * i + s.toNat) % 16 = (7 * j + s.toNat) % 16; omega)
    exact congrArg Fin.val m
  · obtain ⟨k, _, rfl⟩ := List.mem_map.mp hx
    exact (nm_name hc (b k).1 (b k).2).1
  · obtain ⟨k, _, rfl⟩ := List.mem_map.mp hx
    exact (nm_name hc (b k).1 (b k).2).2
  · obtain ⟨k, _, rfl⟩ := List.mem_map.mp hx
    have e : (7 * (k : Int) + s) % 16 = (((⟨((7 * (k : Int) + s) % 16).toNat, by have := b k; omega⟩ : _root_.Fin 16).val : Nat) : Int) := by
      show _ = ((((7 * (k : Int) + s) % 16).toNat : Nat) : Int)
      have := b k
      omega
    obtain ⟨d1, _, _⟩ := dig_facts ⟨((7 * (k : Int) + s) % 16).toNat, by have := b k; omega⟩
    rw [← e] at d1
    show 2 ≤ (nm c ((7 * (k : Int) + s) % 16)).cps.size
    rw [← Array.length_toList, nm_list, List.length_cons]
    have := List.length_pos_iff.mpr d1
    omega
def spNames : Sp := fun vs H Q _ => ∃ (p c : Addr) (lim : V) (n : Nat), vs = [.ref p] ∧ PoolAt H p c lim n ∧ n < 100000000000 ∧
  ∀ (q : Addr) (ns : List Str) (H' : Hp), NamesOk ns → ns.length = 16 → PoolAt H' p c lim (n + 2) → But p c H H' → H q = none → H' q = some (.lst (ns.map V.str)) → Q (.ref q) H'
structure TxNames (mg : Str → Option Value) : Prop where
  n_str : mg "str" = none
  n_range : mg "range" = none
section
variable {P : Program} {w : World} {K : PySem.W.Frag} {mg : Str → Option Value} {base : Heap}
theorem log2_small {i : Int} (h0 : 0 ≤ i) (h1 : i < 16) : i.natAbs.log2 < 1920 := by
  have : i.natAbs.log2 ≤ i.natAbs := Nat.log2_le_self _
  omega
theorem ok_Names {f : Addr} {fd : FuncData} (F : Fun K "_law_names" "_law_names" sNames f fd) (T : TxNames mg) (GD : Has P w K mg base CX0 2 "_law_draw" PDraw spDraw) : FnOk P w K mg base CX0 3 f fd PNames spNames := by
  refine F.ok scNames (fun vs H Q E h => ?_) (fun cdv A outer s H vs Q E hr h => ?_)
  · obtain ⟨p, c, lim, n, rfl, _⟩ := h
    rfl
  · obtain ⟨p, c, lim, n, rfl, P0, hn, k⟩ := h
    refine ⟨_, (pss_cons (ps_set (i := 1) scNames.nd rfl (Or.inr rfl) (pe_ix ix_str pe_str (pe_callH GD hr rfl pass0 (pa_cons (pv 0) (pa_cons pe_int pa_nil))) (fun _ _ => rfl)))
  (pss_cons (ps_set (i := 2) scNames.nd rfl (Or.inr rfl) (pe_callH GD hr rfl pass0 (pa_cons (pv 0) (pa_cons pe_int pa_nil))))
  (pss_one (ps_ret (pe_lc (own := [("_law_k", 3)]) (g := gName 3) (tt := tYes) rfl scNames.nd (pi_range1 (by rfl) T.n_range (pa_cons pe_int pa_nil)) (blkOk_by (own := [("_law_k", 3)]) (N := NNames) (sc := (defScope sNames)) (by decide +kernel)) (fun _ _ _ _ _ => (pg_name (i := 3) scNames.nd rfl (Or.inl rfl))) (fun _ _ _ _ _ => pts_nil) (fun _ _ _ _ _ => (pe_op op_add_str (pv 1) (pe_callTy call_str_int (by rfl) T.n_str bb_str (pa_cons (pe_op op_mod (pe_op op_add (pe_op op_mul pe_int (pv 3)) (pv 2)) pe_int) pa_nil))))))))), ?_⟩
    refine ⟨_, rfl, p, c, lim, n, 26, rfl, P0, by omega, by decide, by decide, fun r H1 r0 r1 P1 b1 => ?_⟩
    obtain ⟨lc, hlc, mlc⟩ := atI_in (xs := LET.cps.toList) r0 (by rw [show LET.cps.toList.length = 26 by decide +kernel]; exact r1)
    refine ⟨_, _, lc, rfl, rfl, by decide +kernel, hlc, ?_⟩
    refine ⟨_, rfl, p, c, lim, n + 1, 16, rfl, P1, by omega, by decide, by decide, fun sh H2 s0 s1 P2 b2 => ?_⟩
    refine ⟨16, rfl, by decide, by decide, fun D hD => ?_⟩
    have Dp := P2.ne1 hD
    have Dc := P2.ne2 hD
    refine lc_range (lo := 0) (n := 16) (fun i H' => Same H2 H' ∧ H' D = some (.lst ((nms lc sh i).map V.str))) ⟨same_new hD, upd_same⟩ ?_ ?_
    · rintro i H3 hi ⟨s3, e3⟩
      have b : 0 ≤ (7 * (0 + (i : Int)) + sh) % 16 ∧ (7 * (0 + (i : Int)) + sh) % 16 < 16 := ⟨Int.emod_nonneg _ (by decide), Int.emod_lt_of_pos _ (by decide)⟩
      refine ⟨rfl, _, rfl, _, rfl, _, _, rfl, rfl, .inl ⟨by decide, by decide⟩, _, rfl, _, _, rfl, rfl, _, _, rfl, rfl, (show (0 : Int) < 16 by decide), _, rfl, log2_small b.1 b.2, _, _, rfl, rfl, ?_, _, e3, small1000 ?_, fun b o z => ?_, ?_⟩
      · have q := (nm_name mlc b.1 b.2).2
        unfold nm at q
        rw [str_app_len] at q
        exact Nat.le_trans q (by decide)
      · unfold nms
        rw [List.length_map, List.length_map, List.length_range]
        omega
      · rw [upd_ne (ne_of_none z hD)]
        exact s3 b o z
      · rw [upd_same]
        unfold nms
        rw [List.range_succ, List.map_append, List.map_append]
        show some (HO.lst (_ ++ [V.str (nm lc ((7 * (0 + (i : Int)) + sh) % 16))])) = _
        rw [Int.zero_add]
        rfl
    · rintro H3 ⟨s3, e3⟩
      have hD0 : H D = none := by
        cases q : H D with
        | none => rfl
        | some o => rw [b2 D o (b1 D o q Dp Dc) Dp Dc] at hD; cases hD
      refine k D _ H3 (nms_ok mlc s0 s1 (Nat.le_refl 16)) (by unfold nms; rw [List.length_map, List.length_range]) (P2.same s3) (fun b o z h1 h2 => s3 b o (b2 b o (b1 b o z h1 h2) h1 h2)) hD0 e3
end


/-! ### show, the plain part -/
def numS (n : Nat) : Str := Str.ofString (toString ((n : Nat) : Int))
def termS (nm : Str) (f : Int) : Str := if f.natAbs = 1 then nm else Str.empty ++ numS f.natAbs ++ "*" ++ nm
def sepS (b : Bool) : Str := if b = true then " - " else " + "
def tailS (t : Str) (ps : List (Bool × Str)) : Str := ps.foldl (fun t p => t ++ (sepS p.1 ++ p.2)) t
def partsS (c : Int) (l : Fac) : List (Bool × Str) := l.map (fun p => (decide (p.2 < 0), termS p.1 p.2)) ++ (if c ≠ 0 ∨ l = [] then [(decide (c < 0), numS c.natAbs)] else [])
def exprZ (c : Int) (l : Fac) : Str := match partsS c l with
  | [] => ""
  | p :: r => tailS (if p.1 = true then "-" ++ p.2 else p.2) r
theorem abs_nat (i : Int) : (if i < 0 then -i else i) = ((i.natAbs : Nat) : Int) := by split <;> omega
theorem log_lt {n : Nat} (h : n < 2 ^ 64) : n.log2 < 1920 := by
  by_cases h0 : n = 0
  · subst h0; decide
  · exact Nat.lt_of_lt_of_le ((Nat.log2_lt h0).mpr h) (by decide)
theorem numS_len {n : Nat} (h : n < 2 ^ 64) : (numS n).length ≤ 65 := by
  unfold numS
  rw [ofString_length]
  refine int_text_length_le (k := 64) (by decide) ?_
  by_cases h0 : n = 0
  · subst h0; decide
  · exact (Nat.log2_lt (by simpa using h0)).mpr (by simpa using h)
theorem len_add (a b : Str) : (a ++ b).length = a.length + b.length := by
  show (a.cps ++ b.cps).size = _
  rw [Array.size_append]
  rfl
theorem if_tC {b : Bool} {u v : Str} {σ : L2.St} {H : Hp} {Q : VK} (h : Q (.str (if b = true then u else v)) H) : if b = true then tC (.str u) σ H Q else tC (.str v) σ H Q := by
  cases b with
  | true => exact h
  | false => exact h
theorem cut_one (xs : List V) : cutV xs (some 1) none = xs.drop 1 := by
  unfold cutV
  have e1 : HT.sIx xs.length 0 (some 1) = min 1 xs.length := HT.sIx_nat ..
  rw [HT.sIx_none, e1]
  cases xs with
  | nil => rfl
  | cons a r =>
    have : min 1 (a :: r).length = 1 := Nat.min_eq_left (Nat.succ_pos _)
    rw [this]
    exact List.take_of_length_le (by rw [List.length_drop]; exact Nat.le_refl _)
theorem tailS_len {X : Str} {n : Nat} (hX : X.length ≤ n) : ∀ (ps : List (Bool × Str)) (_ : ∀ r ∈ ps, r.2.length ≤ 1066), (tailS X ps).length ≤ n + ps.length * 1069 := by
  intro ps
  induction ps generalizing X n with
  | nil => intro _; exact hX
  | cons p r ih =>
    intro h
    have h1 := h p List.mem_cons_self
    have l3 : (sepS p.1).length = 3 := by unfold sepS; split <;> decide +kernel
    have := ih (X := X ++ (sepS p.1 ++ p.2)) (n := n + 1069) (by rw [len_add, len_add, l3]; omega) (fun q hq => h q (List.mem_cons_of_mem _ hq))
    show (tailS (X ++ (sepS p.1 ++ p.2)) r).length ≤ n + (r.length + 1) * 1069
    omega
section
variable {P : Program} {w : World} {K : PySem.W.Frag} {mg : Str → Option Value} {base : Heap} {kw C : Addr}
theorem termS_len {nm : Str} {f : Int} (h1 : nm.length ≤ 1000) (h2 : f.natAbs < 2 ^ 64) : (termS nm f).length ≤ 1066 := by
  unfold termS
  have e1 := numS_len h2
  have l0 : Str.empty.length = 0 := rfl
  have l1 : ("*" : Str).length = 1 := by decide +kernel
  split
  · omega
  · rw [len_add, len_add, len_add, l0, l1]
    omega
def FacOk (l : Fac) : Prop := l.length ≤ 50 ∧ ∀ p ∈ l, p.1.length ≤ 1000 ∧ p.2.natAbs < 2 ^ 64
theorem exprZ_len {c : Int} {l : Fac} (fo : FacOk l) (hc : c.natAbs < 2 ^ 64) : (exprZ c l).length ≤ 60000 := by
  obtain ⟨ll, lo⟩ := fo
  have pl : ∀ r ∈ partsS c l, r.2.length ≤ 1066 := by
    intro r hr'
    unfold partsS at hr'
    rcases List.mem_append.mp hr' with h | h
    · obtain ⟨x, hx, rfl⟩ := List.mem_map.mp h
      exact termS_len (lo x hx).1 (lo x hx).2
    · split at h
      · rw [List.mem_singleton.mp h]
        exact Nat.le_trans (numS_len hc) (by decide)
      · cases h
  have pn : (partsS c l).length ≤ 51 := by
    unfold partsS
    rw [List.length_append, List.length_map]
    split
    · show l.length + 1 ≤ 51; omega
    · show l.length + 0 ≤ 51; omega
  unfold exprZ
  cases e : partsS c l with
  | nil => decide +kernel
  | cons p r =>
    rw [e] at pl pn
    have lm : ("-" : Str).length = 1 := by decide +kernel
    have p0 := pl p List.mem_cons_self
    have := tailS_len (X := if p.1 = true then "-" ++ p.2 else p.2) (n := 1067) (by
      split
      · rw [len_add, lm]; omega
      · omega) r fun z hz => pl z (List.mem_cons_of_mem _ hz)
    have pn : r.length + 1 ≤ 51 := pn
    show (tailS _ r).length ≤ 60000
    omega
theorem joinL_len (S : List Nat) : ∀ ys : List (List Nat), (TL.joinL S ys).length ≤ (ys.map (·.length)).sum + ys.length * S.length
  | [] => Nat.zero_le _
  | [x] => by show x.length ≤ (x.length + 0) + 1 * S.length; omega
  | x :: y :: r => by
    have ih := joinL_len S (y :: r)
    have e : TL.joinL S (x :: y :: r) = x ++ (S ++ TL.joinL S (y :: r)) := rfl
    rw [e, List.length_append, List.length_append, List.map_cons, List.sum_cons, List.length_cons, Nat.succ_mul]
    omega
theorem join_len (a : Str) (ys : List Str) : (Txt.join a ys).length ≤ (ys.map (·.length)).sum + ys.length * a.length := by
  rw [TL.len_tl, TL.join_eq, TL.tl_join]
  have h := joinL_len (TL.tl a) (ys.map TL.tl)
  rw [List.map_map, List.length_map] at h
  rw [TL.len_tl]
  have e : ys.map ((fun x : List Nat => x.length) ∘ TL.tl) = ys.map (·.length) := List.map_congr_left fun z _ => (TL.len_tl z).symm
  rw [e] at h
  exact h
theorem sum_len {ys : List Str} {n : Nat} (h : ∀ y ∈ ys, y.length ≤ n) : (ys.map (·.length)).sum ≤ ys.length * n := by
  induction ys with
  | nil => exact Nat.zero_le _
  | cons y r ih =>
    rw [List.map_cons, List.sum_cons, List.length_cons, Nat.succ_mul]
    have := ih fun z hz => h z (List.mem_cons_of_mem _ hz)
    have := h y List.mem_cons_self
    omega
end


/-! ### the tokens of the law's text -/
abbrev SH := List (Str × Str)
def shOf (ts : List TK) : SH := ts.map fun k => (k.1, k.2.1)
def Tks (t : List Nat) (sh : SH) : Prop := ∀ p : List Nat, ∃ ts : List TK, shOf ts = sh ∧ Tkz (p ++ t) p.length ts
theorem Tks.nil : Tks [] [("end", "")] := fun p => ⟨[(("end", "", p.length) : TK)], rfl, .fin (by rw [List.append_nil])⟩
theorem mid_get (p t : List Nat) (c : Nat) : (p ++ c :: t)[p.length]? = some c := by
  rw [List.getElem?_append_right (Nat.le_refl _), Nat.sub_self]
  rfl
theorem Tks.gap {t : List Nat} {sh : SH} (h : Tks t sh) : Tks (32 :: t) sh := fun p => by
  obtain ⟨ts, e, k⟩ := h (p ++ [32])
  rw [List.append_assoc, List.length_append] at k
  exact ⟨ts, e, .gap (mid_get p t 32) (.inl rfl) k⟩
theorem Tks.gaps {t : List Nat} {sh : SH} (h : Tks t sh) : ∀ n, Tks (List.replicate n 32 ++ t) sh
  | 0 => h
  | n + 1 => (Tks.gaps h n).gap
theorem Tks.sign {t : List Nat} {sh : SH} {c : Nat} (hc : c ∈ SIG.cps.toList) (h : Tks t sh) : Tks (c :: t) (("mark", (⟨#[c]⟩ : Str)) :: sh) := fun p => by
  obtain ⟨ts, e, k⟩ := h (p ++ [c])
  rw [List.append_assoc, List.length_append] at k
  exact ⟨(("mark", ⟨#[c]⟩, p.length) : TK) :: ts, by rw [← e]; rfl, .sign (mid_get p t c) hc k⟩
def NoAl (t : List Nat) : Prop := ∀ c, t[0]? = some c → al c = false
theorem let_plain : ∀ c ∈ LET.cps.toList, c ≠ 32 ∧ c ≠ 10 ∧ c ∉ SIG.cps.toList := by decide +kernel
theorem dig_plain : ∀ c ∈ DIG.cps.toList, c ≠ 32 ∧ c ≠ 10 ∧ c ∉ SIG.cps.toList := by decide +kernel
theorem al_plain {c : Nat} (h : al c = true) : Plain c := by
  unfold al at h
  rw [Bool.or_eq_true, decide_eq_true_eq, decide_eq_true_eq] at h
  rcases h with h | h
  · exact let_plain c h
  · exact dig_plain c h
theorem Tks.word {w t : List Nat} {sh : SH} (hw : w ≠ []) (ha : ∀ c ∈ w, al c = true) (hk : kindOf ⟨w.toArray⟩ ≠ "bad") (hn : NoAl t) (h : Tks t sh) : Tks (w ++ t) ((kindOf ⟨w.toArray⟩, (⟨w.toArray⟩ : Str)) :: sh) := fun p => by
  obtain ⟨ts, e, k⟩ := h (p ++ w)
  rw [List.append_assoc, List.length_append] at k
  have wl : 0 < w.length := List.length_pos_iff.mpr hw
  have cut : cutT (p ++ (w ++ t)) p.length (p.length + w.length) = ⟨w.toArray⟩ := by
    unfold cutT
    rw [List.drop_left, Nat.add_sub_cancel_left, List.take_left]
  have at_w : ∀ x, p.length ≤ x → x < p.length + w.length → (p ++ (w ++ t))[x]? = w[x - p.length]? := fun x h1 h2 => by
    rw [List.getElem?_append_right h1, List.getElem?_append_left (by omega)]
  obtain ⟨c, hc⟩ : ∃ c, w[0]? = some c := ⟨_, List.getElem?_eq_getElem wl⟩
  have run : Run (p ++ (w ++ t)) p.length (p.length + w.length) := by
    refine ⟨by omega, by rw [List.length_append, List.length_append]; omega, fun x h1 h2 => ?_, fun c hc => ?_⟩
    · have hx : x - p.length < w.length := by omega
      exact ⟨_, by rw [at_w x h1 h2]; exact List.getElem?_eq_getElem hx, ha _ (List.getElem_mem hx)⟩
    · rw [List.getElem?_append_right (by omega), Nat.add_sub_cancel_left, List.getElem?_append_right (Nat.le_refl _), Nat.sub_self] at hc
      exact hn c hc
  have tk := Tkz.word (t := p ++ (w ++ t)) (a := p.length) (j := p.length + w.length) (c := c) (by rw [at_w _ (Nat.le_refl _) (by omega), Nat.sub_self]; exact hc) (al_plain (ha c (List.mem_of_getElem? hc))) run (by omega) (by rw [cut]; exact hk) k
  rw [cut] at tk
  exact ⟨_, by rw [← e]; rfl, tk⟩
theorem str_tl (z : Str) : (⟨(TL.tl z).toArray⟩ : Str) = z := TL.ext_tl rfl
/-- a name -/
theorem name_al {x : Str} (h : isName x = true) : TL.tl x ≠ [] ∧ (∀ c ∈ TL.tl x, al c = true) ∧ kindOf x = "name" := by
  unfold isName at h
  cases e : x.cps.toList with
  | nil => rw [e] at h; cases h
  | cons c r =>
    rw [e] at h
    simp only [Bool.and_eq_true, decide_eq_true_eq, Bool.not_eq_true'] at h
    obtain ⟨⟨h1, h2⟩, h3⟩ := h
    refine ⟨by rw [show TL.tl x = c :: r from e]; simp, fun d hd => ?_, ?_⟩
    · rw [show TL.tl x = c :: r from e] at hd
      exact List.all_eq_true.mp h2 d hd
    · unfold kindOf
      rw [h3, if_neg (by decide), e]
      simp only
      rw [if_pos h1]
theorem tks_name {x : Str} {t : List Nat} {sh : SH} (hx : isName x = true) (hn : NoAl t) (h : Tks t sh) : Tks (TL.tl x ++ t) (("name", x) :: sh) := by
  obtain ⟨h1, h2, h3⟩ := name_al hx
  have := Tks.word h1 h2 (by rw [str_tl, h3]; decide +kernel) hn h
  rw [str_tl, h3] at this
  exact this
/-- a number -/
theorem numL_zero (n : Nat) : ∀ c r, TL.numL n = c :: r → c = 48 → n = 0 := by
  induction n using Nat.strongRecOn with
  | ind n ih =>
    intro c r e h
    by_cases h1 : n < 10
    · rw [TL.numL_lt h1] at e
      injection e with e _
      omega
    · rw [TL.numL_step (by omega)] at e
      cases q : TL.numL (n / 10) with
      | nil => exact absurd q (TL.numL_ne _)
      | cons d s =>
        rw [q] at e
        injection e with e _
        have := ih (n / 10) (by omega) d s q (by rw [e]; exact h)
        omega
theorem dig_mem : ∀ k : Fin 10, 48 + k.val ∈ DIG.cps.toList ∧ 48 + k.val ∉ LET.cps.toList := by decide +kernel
theorem num_kind (n : Nat) : TL.tl (numS n) ≠ [] ∧ (∀ c ∈ TL.tl (numS n), al c = true) ∧ kindOf (numS n) = "number" := by
  have e : TL.tl (numS n) = TL.numL n := TL.tl_num n
  have dg' : ∀ c ∈ TL.numL n, c ∈ DIG.cps.toList ∧ c ∉ LET.cps.toList := fun c hc => by
    have := TL.numL_digits n c hc
    have q := dig_mem ⟨c - 48, by omega⟩
    have e : 48 + (c - 48) = c := by omega
    rw [show (48 + (⟨c - 48, by omega⟩ : _root_.Fin 10).val) = c from e] at q
    exact q
  refine ⟨by rw [e]; exact TL.numL_ne n, fun c hc => ?_, ?_⟩
  · rw [e] at hc
    unfold al
    rw [decide_eq_true (dg' c hc).1, Bool.or_true]
  · have nk : inV (.str (numS n)) (KWS.map V.str) = false := by
      cases q : inV (.str (numS n)) (KWS.map V.str) with
      | false => rfl
      | true =>
        unfold inV at q
        obtain ⟨v, hv, q⟩ := List.any_eq_true.mp q
        obtain ⟨k, hk, rfl⟩ := List.mem_map.mp hv
        have q : k = numS n := by
          have q : (k == numS n) = true := q
          simpa using q
        obtain ⟨x, hx⟩ := List.exists_mem_of_ne_nil _ (TL.numL_ne n)
        exact absurd (kws_let k hk x (by rw [q]; show x ∈ TL.tl (numS n); rw [e]; exact hx)) (dg' x hx).2
    unfold kindOf
    rw [nk, if_neg (by decide), show (numS n).cps.toList = TL.numL n from e]
    cases q : TL.numL n with
    | nil => exact absurd q (TL.numL_ne n)
    | cons c r =>
      rw [q] at dg'
      simp only
      rw [if_neg (dg' c List.mem_cons_self).2, if_neg, if_neg]
      · rintro ⟨h1, h2⟩
        have z := numL_zero n c r q h1
        subst z
        rw [TL.numL_lt (by decide)] at q
        injection q with _ q
        rw [← q] at h2
        exact absurd h2 (by show ¬ 1 < 1; decide)
      · rw [Bool.not_eq_false, List.all_eq_true]
        intro d hd
        unfold dg
        rw [decide_eq_true (dg' d hd).1]
theorem tks_num {n : Nat} {t : List Nat} {sh : SH} (hn : NoAl t) (h : Tks t sh) : Tks (TL.tl (numS n) ++ t) (("number", numS n) :: sh) := by
  obtain ⟨h1, h2, h3⟩ := num_kind n
  have := Tks.word h1 h2 (by rw [str_tl, h3]; decide +kernel) hn h
  rw [str_tl, h3] at this
  exact this
theorem noAl_gap {t : List Nat} : NoAl (32 :: t) := fun c h => by cases h; decide +kernel
theorem noAl_nil : NoAl [] := fun c h => by cases h
/-! the reading of those tokens -/
theorem sh_at {ts : List TK} {i : Nat} {x : Str × Str} {rest : SH} (h : (shOf ts).drop i = x :: rest) : (∃ a, ts[i]? = some ((x.1, x.2, a) : TK)) ∧ (shOf ts).drop (i + 1) = rest := by
  have h0 : (shOf ts)[i]? = some x := by
    have := congrArg (fun l : SH => l[0]?) h
    simp only [List.getElem?_drop] at this
    exact this
  refine ⟨?_, ?_⟩
  · unfold shOf at h0
    rw [List.getElem?_map] at h0
    cases e : ts[i]? with
    | none => rw [e] at h0; cases h0
    | some tk =>
      rw [e] at h0
      have h0 : (tk.1, tk.2.1) = x := Option.some.inj h0
      exact ⟨tk.2.2, by rw [← h0]⟩
  · rw [← List.drop_drop, h]
    rfl
theorem mark_ne {k wd z : Str} {a : Nat} (h : k ≠ "mark") : isMark ((k, z, a) : TK) wd = false := by
  unfold isMark
  rw [decide_eq_false h]
  rfl
theorem mark_no {wd z : Str} {a : Nat} (h : z ≠ wd) : isMark (("mark", z, a) : TK) wd = false := by
  unfold isMark
  rw [decide_eq_false h, Bool.and_false]
theorem mark_yes {z : Str} {a : Nat} : isMark (("mark", z, a) : TK) z = true := by
  unfold isMark
  rw [decide_eq_true rfl, decide_eq_true rfl]
  rfl
theorem num_len {n : Nat} (h : n < 10 ^ 12) : (numS n).length ≤ 12 := by
  rw [TL.len_tl, show TL.tl (numS n) = TL.numL n from TL.tl_num n]
  exact TL.numL_len (by decide) h
theorem num_int {n : Nat} (h : n < 10 ^ 12) : PySem.intText? (numS n) = some (n : Int) := by
  have := TL.numL_len (k := 12) (by decide) h
  exact TL.int_num (by omega)
theorem plus_mk : (⟨#[43]⟩ : Str) = "+" := by decide +kernel
theorem minus_mk : (⟨#[45]⟩ : Str) = "-" := by decide +kernel
theorem end_mark (z : Str) (a : Nat) (wd : Str) : isMark (("end", z, a) : TK) wd = false := by
  unfold isMark
  rw [decide_eq_false (by show ¬ (("end" : Str) = "mark"); decide +kernel)]
  rfl
theorem name_ne {x : Str} (h : isName x = true) : x ≠ "" := fun z => by
  have := (name_al h).1
  rw [z] at this
  exact this (by decide +kernel)

/-! ### match over statements; parts_of, size_of, numbered, .. -/
section
variable {K : PySem.W.Frag} {D : Ends} {σ : L2.St} {H : Hp} {a : Addr} {xs : List V} {tb : TS} {tr : TCs} {n : Nat} {z : Str} {ts : TPats}
theorem case_len (h : SqT K H a xs) (hl : xs.length ≠ n) (k : tr (.ref a) D σ H) : tCsC (mSeq K n ts) tb tr (.ref a) D σ H :=
  ⟨a, xs, rfl, h, by rw [if_neg hl]; exact k⟩
theorem case_word {w : Str} (h : SqT K H a (.str w :: xs)) (hl : xs.length + 1 = n) (hw : w ≠ z) (k : tr (.ref a) D σ H) : tCsC (mSeq K n (mCons (mStr z) ts)) tb tr (.ref a) D σ H := by
  refine ⟨a, _, rfl, h, ?_⟩
  rw [if_pos (show (V.str w :: xs).length = n from hl)]
  refine ⟨_, _, rfl, rfl, ?_⟩
  rw [if_neg (fun e => hw (V.str.inj e))]
  exact k
theorem case_hit (h : SqT K H a (.str z :: xs)) (hl : xs.length + 1 = n) (k : ts xs H fun b H2 => match b with
    | none => tr (.ref a) D σ H2
    | some bs => tb D (setAll σ bs) H2) : tCsC (mSeq K n (mCons (mStr z) ts)) tb tr (.ref a) D σ H := by
  refine ⟨a, _, rfl, h, ?_⟩
  rw [if_pos (show (V.str z :: xs).length = n from hl)]
  refine ⟨_, _, rfl, rfl, ?_⟩
  rw [if_pos rfl]
  refine (?_ : ts xs H _)
  have e : (fun (b2 : Option BS) (H2 : Hp) => match b2 with
      | none => (match (none : Option BS) with
        | none => tr (.ref a) D σ H2
        | some bs => tb D (setAll σ bs) H2)
      | some more => (match some ([] ++ more) with
        | none => tr (.ref a) D σ H2
        | some bs => tb D (setAll σ bs) H2)) = fun b H2 => match b with
    | none => tr (.ref a) D σ H2
    | some bs => tb D (setAll σ bs) H2 := by
    funext b H2
    cases b <;> rfl
  have k2 := k
  rw [← e] at k2
  exact k2
end
def wordS : St → Str
  | .set _ _ => "set" | .input _ => "input" | .call _ _ _ => "call" | .risk _ => "risk" | .raise _ => "raise" | .ret _ => "return"
  | .ite _ _ => "if" | .whl _ => "while" | .try_ _ _ _ => "try" | .undo _ _ => "undo" | .with_ _ _ _ _ => "with"
def restS : St → List PyData
  | .set t e => [.str t, exD e]
  | .input t => [.str t]
  | .call t f as => [optD t, .str f, .tuple (as.map argD)]
  | .risk ks => [nmD ks]
  | .raise k => [.str k]
  | .ret e => [exD e]
  | .ite a b => [blD a, blD b]
  | .whl b => [blD b]
  | .try_ b hs f => [blD b, .tuple (hdsD hs), blD f]
  | .undo ns b => [nmD ns, blD b]
  | .with_ e l ks b => [calD e, calD l, nmD ks, blD b]
theorem stD_eq (s : St) : stD s = .tuple (.str (wordS s) :: restS s) := by cases s <;> rfl
theorem stInv {K : PySem.W.Frag} {H : Hp} {v : V} {s : St} (h : Dp K H v (stD s)) : ∃ a xs, v = .ref a ∧ SqT K H a (.str (wordS s) :: xs) ∧ DpAll K H xs (restS s) := by
  rw [stD_eq] at h
  obtain ⟨a, xs, rfl, h1, h2⟩ := h.tupInv
  obtain ⟨x, r, rfl, h3, h4⟩ := DpAll.consInv h2
  rw [h3.strInv] at h1
  exact ⟨a, r, rfl, h1, h4⟩
/-- few handlers -/
def fewH : St → Prop
  | .try_ _ hs _ => hs.length ≤ 900
  | _ => True
/-! ### size_of, numbered, numbered_parts, all_numbered -/
def okN1 (n : Str) : Prop := isName n = true ∧ n.length ≤ 100
def okNs (ns : List Str) : Prop := ns.length ≤ 900 ∧ ∀ n ∈ ns, okN1 n
def okEx (e : Ex) : Prop := e.ts.length ≤ 900 ∧ (∀ p ∈ e.ts, okN1 p.1 ∧ p.2 ≠ 0) ∧ ∀ (i : Nat) (a b : Str × Int), e.ts[i]? = some a → e.ts[i + 1]? = some b → a.1.cps.toList < b.1.cps.toList
def okArg : Arg → Prop
  | .place n => okN1 n
  | .value e => okEx e
def okAs (as : List Arg) : Prop := as.length ≤ 900 ∧ ∀ a ∈ as, okArg a
def okCal (c : Cal) : Prop := okN1 c.1 ∧ okAs c.2
mutual
def okS : St → Prop
  | .set t e => okN1 t ∧ okEx e
  | .input t => okN1 t
  | .call t f as => (∀ x, t = some x → okN1 x) ∧ okN1 f ∧ okAs as
  | .risk ks => ks ≠ [] ∧ okNs ks
  | .raise k => okN1 k
  | .ret e => okEx e
  | .ite a b => (a.length ≤ 900 ∧ okL a) ∧ (b.length ≤ 900 ∧ okL b)
  | .whl b => b.length ≤ 900 ∧ okL b
  | .try_ b hs f => (b.length ≤ 900 ∧ okL b) ∧ (hs.length ≤ 900 ∧ okHs hs) ∧ (f.length ≤ 900 ∧ okL f)
  | .undo ns b => (ns ≠ [] ∧ okNs ns) ∧ (b.length ≤ 900 ∧ okL b)
  | .with_ e l ks b => (okCal e ∧ okCal l ∧ okNs ks) ∧ (b.length ≤ 900 ∧ okL b)
def okL : List St → Prop
  | [] => True
  | s :: r => okS s ∧ okL r
def okH : Hd → Prop
  | .mk ks b => (ks ≠ [] ∧ okNs ks) ∧ (b.length ≤ 900 ∧ okL b)
def okHs : List Hd → Prop
  | [] => True
  | h :: r => okH h ∧ okHs r
end
def okB (b : List St) : Prop := b.length ≤ 900 ∧ okL b
theorem okL_mem : ∀ {b : List St}, okL b → ∀ {s : St}, s ∈ b → okS s
  | x :: r, h, s, hs => by
    have h : okS x ∧ okL r := h
    rcases List.mem_cons.mp hs with z | z
    · rw [z]; exact h.1
    · exact okL_mem h.2 z
theorem okHs_mem : ∀ {hs : List Hd}, okHs hs → ∀ {x : Hd}, x ∈ hs → okH x
  | y :: r, h, x, hx => by
    have h : okH y ∧ okHs r := h
    rcases List.mem_cons.mp hx with z | z
    · rw [z]; exact h.1
    · exact okHs_mem h.2 z
theorem okS_few {s : St} (h : okS s) : fewH s := by
  cases s with
  | try_ b hs f =>
    have h : (b.length ≤ 900 ∧ okL b) ∧ (hs.length ≤ 900 ∧ okHs hs) ∧ (f.length ≤ 900 ∧ okL f) := h
    exact h.2.1.1
  | _ => trivial
theorem okS_parts {s : St} (h : okS s) {p : List St} (hp : p ∈ parts s) : okB p := by
  cases s with
  | ite a b =>
    have h : (a.length ≤ 900 ∧ okL a) ∧ (b.length ≤ 900 ∧ okL b) := h
    simp only [parts, List.mem_cons, List.not_mem_nil, or_false] at hp
    rcases hp with rfl | rfl
    · exact h.1
    · exact h.2
  | whl b =>
    have h : b.length ≤ 900 ∧ okL b := h
    simp only [parts, List.mem_cons, List.not_mem_nil, or_false] at hp; subst hp; exact h
  | undo ns b =>
    have h : (ns ≠ [] ∧ okNs ns) ∧ (b.length ≤ 900 ∧ okL b) := h
    simp only [parts, List.mem_cons, List.not_mem_nil, or_false] at hp; subst hp; exact h.2
  | with_ e l ks b =>
    have h : (okCal e ∧ okCal l ∧ okNs ks) ∧ (b.length ≤ 900 ∧ okL b) := h
    simp only [parts, List.mem_cons, List.not_mem_nil, or_false] at hp; subst hp; exact h.2
  | try_ b hs f =>
    have h : (b.length ≤ 900 ∧ okL b) ∧ (hs.length ≤ 900 ∧ okHs hs) ∧ (f.length ≤ 900 ∧ okL f) := h
    rcases List.mem_cons.mp hp with z | z
    · rw [z]; exact h.1
    · rcases List.mem_append.mp z with z | z
      · obtain ⟨x, hx, rfl⟩ := List.mem_map.mp z
        have k := okHs_mem h.2.1.2 hx
        cases x with
        | mk ks c =>
          have k : (ks ≠ [] ∧ okNs ks) ∧ (c.length ≤ 900 ∧ okL c) := k
          exact k.2
      · rw [List.mem_singleton.mp z]; exact h.2.2
  | _ => simp [parts] at hp
theorem parts_len {s : St} (h : okS s) : (parts s).length ≤ 902 := by
  cases s with
  | try_ b hs f =>
    have h := okS_few h
    have h : hs.length ≤ 900 := h
    show (b :: (hs.map Hd.b ++ [f])).length ≤ _
    rw [List.length_cons, List.length_append, List.length_map]
    show hs.length + 1 + 1 ≤ 902
    omega
  | ite a b => show 2 ≤ 902; omega
  | whl b => show 1 ≤ 902; omega
  | undo _ b => show 1 ≤ 902; omega
  | with_ _ _ _ b => show 1 ≤ 902; omega
  | _ => exact Nat.zero_le _
theorem szB_take : ∀ {b : List St} {i : Nat} {s : St}, b[i]? = some s → szB (b.take (i + 1)) = szB (b.take i) + (1 + szS s)
  | x :: r, 0, s, h => by simp at h; subst h; show 1 + szS x + 0 = 0 + _; omega
  | x :: r, i + 1, s, h => by
    have ih := szB_take (b := r) (i := i) (s := s) (by simpa using h)
    show 1 + szS x + szB (r.take (i + 1)) = 1 + szS x + szB (r.take i) + _
    omega
theorem no_dp {b : List St} (h : dpB b ≤ 0) : False := by
  have := dpB_eq b
  omega
/-! ### tuples that stay -/
def Tps (H H' : Hp) : Prop := (∀ a xs, H a = some (.tup xs) → H' a = some (.tup xs)) ∧ ∀ a o xs, H a = some (.frz o (.tup xs)) → H' a = some (.frz o (.tup xs))
theorem Tps.of {H H' : Hp} (s : Same H H') : Tps H H' := ⟨fun a xs e => s _ _ e, fun a o xs e => s _ _ e⟩
theorem Tps.refl {H : Hp} : Tps H H := ⟨fun _ _ e => e, fun _ _ _ e => e⟩
theorem Tps.trans {H H1 H2 : Hp} (a : Tps H H1) (b : Tps H1 H2) : Tps H H2 := ⟨fun x xs e => b.1 _ _ (a.1 _ _ e), fun x o xs e => b.2 _ _ _ (a.2 _ _ _ e)⟩
theorem Tps.lst {H : Hp} {q : Addr} {zs : List V} {o : HO} (h : H q = some (.lst zs)) : Tps H (upd H q o) :=
  ⟨fun a xs e => by rw [upd_ne (ne_of e h (by intro z; cases z))]; exact e, fun a o xs e => by rw [upd_ne (ne_of e h (by intro z; cases z))]; exact e⟩
theorem Tps.dk {H : Hp} {q : Addr} {zs : List (Key × V)} {o : HO} (h : H q = some (.dK zs)) : Tps H (upd H q o) :=
  ⟨fun a xs e => by rw [upd_ne (ne_of e h (by intro z; cases z))]; exact e, fun a o xs e => by rw [upd_ne (ne_of e h (by intro z; cases z))]; exact e⟩
theorem Tps.ins {H : Hp} {q c dx : Addr} {fs : List (Str × V)} {o : HO} (h : H q = some (.ins c dx fs)) : Tps H (upd H q o) :=
  ⟨fun a xs e => by rw [upd_ne (ne_of e h (by intro z; cases z))]; exact e, fun a o xs e => by rw [upd_ne (ne_of e h (by intro z; cases z))]; exact e⟩
theorem Tps.sqt {K : PySem.W.Frag} {H H' : Hp} (t : Tps H H') {a : Addr} {xs : List V} (h : SqT K H a xs) : SqT K H' a xs :=
  h.elim (fun h => .inl (h.elim (fun h => .inl (t.1 _ _ h)) fun ⟨o, h⟩ => .inr ⟨o, t.2 _ _ _ h⟩)) fun h => .inr h
mutual
/-- no list, no dict within -/
def noL : PyData → Bool
  | .tuple ds => noLs ds
  | .none => true | .bool _ => true | .int _ => true | .str _ => true
  | _ => false
def noLs : List PyData → Bool
  | [] => true
  | d :: r => noL d && noLs r
end
end Aon
namespace L2
open PySem Aon
mutual
theorem Dp.tps {K : PySem.W.Frag} {H H' : Hp} (t : Tps H H') {v : V} {d : PyData} (h : Dp K H v d) (n : noL d = true) : Dp K H' v d :=
  match h with
  | .non => .non
  | .bl b => .bl b
  | .int i => .int i
  | .str x => .str x
  | .lst _ _ => by simp [noL] at n
  | .tup a b => .tup (t.sqt a) (DpAll.tps t b (by simpa [noL] using n))
theorem DpAll.tps {K : PySem.W.Frag} {H H' : Hp} (t : Tps H H') {vs : List V} {ds : List PyData} (h : DpAll K H vs ds) (n : noLs ds = true) : DpAll K H' vs ds :=
  match h with
  | .nil => .nil
  | .cons a b => by
    simp only [noLs, Bool.and_eq_true] at n
    exact .cons (Dp.tps t a n.1) (DpAll.tps t b n.2)
end
end L2
namespace Aon
open PySem L2
theorem noLs_all : ∀ {ds : List PyData}, (∀ d ∈ ds, noL d = true) → noLs ds = true
  | [], _ => rfl
  | d :: r, h => by
    simp only [noLs, Bool.and_eq_true]
    exact ⟨h d List.mem_cons_self, noLs_all fun x hx => h x (List.mem_cons_of_mem _ hx)⟩
theorem noLs_map {α : Type} {f : α → PyData} (h : ∀ x, noL (f x) = true) (l : List α) : noLs (l.map f) = true := noLs_all fun d hd => by
  obtain ⟨x, _, rfl⟩ := List.mem_map.mp hd
  exact h x
theorem noL_ex (e : Ex) : noL (exD e) = true := by
  simp only [exD, noL, noLs, Bool.true_and, Bool.and_true]
  exact noLs_map (fun _ => rfl) _
theorem noL_nm (ns : List Str) : noL (nmD ns) = true := noLs_map (fun _ => rfl) ns
theorem noL_arg : ∀ a, noL (argD a) = true
  | .place n => rfl
  | .value e => by simp only [argD, noL, noLs, noL_ex]; rfl
theorem noL_cal (c : Cal) : noL (calD c) = true := by
  simp only [calD, noL, noLs, Bool.true_and, Bool.and_true]
  exact noLs_map noL_arg _
mutual
theorem noL_st : ∀ s : St, noL (stD s) = true
  | .set t e => by simp only [stD, noL, noLs, noL_ex, Bool.and_true]
  | .input t => rfl
  | .call t f as => by
    have h : noL (optD t) = true := by cases t <;> rfl
    simp only [stD, noL, noLs, h, noLs_map noL_arg, Bool.and_true]
  | .risk ks => by simp only [stD, noL, noLs, noL_nm, Bool.and_true]
  | .raise k => rfl
  | .ret e => by simp only [stD, noL, noLs, noL_ex, Bool.and_true]
  | .ite a b => by simp only [stD, noL, noLs, noL_sts a, noL_sts b, Bool.and_true]
  | .whl b => by simp only [stD, noL, noLs, noL_sts b, Bool.and_true]
  | .try_ b hs f => by simp only [stD, noL, noLs, noL_sts b, noL_hds hs, noL_sts f, Bool.and_true]
  | .undo ns b => by simp only [stD, noL, noLs, noL_nm, noL_sts b, Bool.and_true]
  | .with_ e l ks b => by simp only [stD, noL, noLs, noL_cal, noL_nm, noL_sts b, Bool.and_true]
theorem noL_sts : ∀ b : List St, noLs (stsD b) = true
  | [] => rfl
  | s :: r => by simp only [stsD, noLs, noL_st s, noL_sts r, Bool.and_true]
theorem noL_hd : ∀ h : Hd, noL (hdD h) = true
  | .mk ks b => by simp only [hdD, noL, noLs, noL_nm, noL_sts b, Bool.and_true]
theorem noL_hds : ∀ hs : List Hd, noLs (hdsD hs) = true
  | [] => rfl
  | h :: r => by simp only [hdsD, noLs, noL_hd h, noL_hds r, Bool.and_true]
end
theorem noL_bl (b : List St) : noL (blD b) = true := by simp only [blD, noL]; exact noL_sts b
theorem szS_mem : ∀ {b : List St} {s : St}, s ∈ b → szS s ≤ szB b
  | x :: r, s, h => by
    show _ ≤ 1 + szS x + szB r
    rcases List.mem_cons.mp h with z | z
    · rw [z]; omega
    · have := szS_mem z; omega
theorem szB_part {s : St} {p : List St} (h : p ∈ parts s) : szB p ≤ szS s := by
  rw [← sz_parts s]
  generalize parts s = l at h
  induction l with
  | nil => cases h
  | cons x r ih =>
    rw [List.map_cons, List.sum_cons]
    rcases List.mem_cons.mp h with z | z
    · rw [z]; omega
    · have := ih z; omega
theorem inj_of_nodup {α β : Type} {f : α → β} : ∀ {l : List α}, (l.map f).Nodup → ∀ {x y : α}, x ∈ l → y ∈ l → f x = f y → x = y
  | a :: r, h, x, y, hx, hy, e => by
    rw [List.map_cons, List.nodup_cons] at h
    rcases List.mem_cons.mp hx with h1 | h1
    · rcases List.mem_cons.mp hy with h2 | h2
      · rw [h1, h2]
      · exact absurd (List.mem_map.mpr ⟨y, h2, by rw [← e, h1]⟩) h.1
    · rcases List.mem_cons.mp hy with h2 | h2
      · exact absurd (List.mem_map.mpr ⟨x, h1, by rw [e, h2]⟩) h.1
      · exact inj_of_nodup h.2 h1 h2 e

structure Fn where
  name : Str
  ps : List (Str × Bool)
  b : List St
structure Tr where
  names : List Str
  kinds : List Str
  keeps : List Ex
  fns : List Fn
def prD (p : Str × Bool) : PyData := .tuple [.str p.1, .bool p.2]
def fnD (f : Fn) : PyData := .tuple [.str f.name, .tuple (f.ps.map prD), blD f.b]
def trD (t : Tr) : PyData := .tuple [nmD t.names, nmD t.kinds, .tuple (t.keeps.map exD), .tuple (t.fns.map fnD)]
def okFn (n : Nat) (f : Fn) : Prop := okN1 f.name ∧ (f.ps.length ≤ 900 ∧ ∀ p ∈ f.ps, okN1 p.1) ∧ okB f.b ∧ dpB f.b ≤ n ∧ dpB f.b ≤ 30
def okTr (n : Nat) (t : Tr) : Prop := okNs t.names ∧ okNs t.kinds ∧ (t.keeps.length ≤ 900 ∧ ∀ e ∈ t.keeps, okEx e ∧ e.c = 0) ∧ t.fns.length ≤ 900 ∧ ∀ f ∈ t.fns, okFn n f
theorem Dp.blInv {K : PySem.W.Frag} {H : Hp} {v : V} {z : Bool} (h : Dp K H v (.bool z)) : v = .bl z := by cases h; rfl
def prs (f : Fn) : List Str := f.ps.map Prod.fst
theorem noL_pr (p : Str × Bool) : noL (prD p) = true := rfl
theorem noL_fn (f : Fn) : noL (fnD f) = true := by
  simp only [fnD, noL, noLs, noL_bl, Bool.true_and, Bool.and_true]
  exact noLs_map noL_pr _
theorem noL_tr (t : Tr) : noL (trD t) = true := by
  simp only [trD, noL, noLs, noL_nm, Bool.true_and, Bool.and_true]
  rw [noLs_map noL_ex, noLs_map noL_fn]
  rfl
def isPl : Arg → Bool
  | .place _ => true
  | _ => false

/-! ### the law's drawn programs: expressions, args, calls -/
abbrev sLEx : Stmt := topS 23
abbrev NLEx : List Str := ["_law_pool_here", "_law_names_here", "_law_great", "_law_terms", "_law_name", "_law_factor"]
abbrev PLEx : List Str := ["_law_pool_here", "_law_names_here", "_law_great"]
theorem scLEx : FnScope NLEx PLEx (defScope sLEx) := ⟨rfl, rfl, rfl, by decide +kernel, rfl, by decide +kernel, by decide +kernel⟩
structure TxGen (mg : Str → Option Value) : Prop where
  n_sorted : mg "sorted" = none
  n_tuple : mg "tuple" = none
  n_range : mg "range" = none
  n_len : mg "len" = none
theorem nl_tr {a b c : List Nat} (h1 : ¬ b < a) (h2 : ¬ c < b) : ¬ c < a := fun h => (List.le_trans (α := Nat) h1 h2) h
theorem rise_pw : ∀ (l : List Str) (p : Str), PyProof.Rows.risingS p l = true → (p :: l).Pairwise fun a b => ¬ b.cps.toList < a.cps.toList
  | [], p, _ => List.pairwise_singleton _ _
  | x :: r, p, h => by
    have h : (!PySem.Spec.ltCps x.cps.toList p.cps.toList && PyProof.Rows.risingS x r) = true := h
    rw [Bool.and_eq_true, Bool.not_eq_true', PyProof.Rows.ltCps_eq, decide_eq_false_iff_not] at h
    have ih := rise_pw r x h.2
    refine List.pairwise_cons.mpr ⟨fun y hy => ?_, ih⟩
    rcases List.mem_cons.mp hy with rfl | hy
    · exact h.1
    · exact nl_tr h.1 ((List.pairwise_cons.mp ih).1 y hy)
def asc (a b : Str) : Prop := a.cps.toList < b.cps.toList
theorem sort_asc {l : List Str} (h : PyProof.Rows.sortedS l = true) (nd : l.Nodup) : l.Pairwise asc := by
  have pw : l.Pairwise fun a b => ¬ b.cps.toList < a.cps.toList := by
    cases l with
    | nil => exact .nil
    | cons x r => exact rise_pw r x h
  refine (List.Pairwise.and pw nd).imp fun {a b} ⟨h1, h2⟩ => ?_
  unfold asc
  rcases Classical.em (a.cps.toList < b.cps.toList) with z | z
  · exact z
  · exact absurd (TL.ext_tl (List.le_antisymm (α := Nat) h1 z)) h2
/-- an expression over some names, with small numbers -/
structure EX (own : List Str) (e : Ex) : Prop where
  c : -3 ≤ e.c ∧ e.c ≤ 3
  nm : ∀ p ∈ e.ts, p.1 ∈ own ∧ p.2 ≠ 0 ∧ -4 ≤ p.2 ∧ p.2 ≤ 4
  up : (e.ts.map Prod.fst).Pairwise asc
  ln : e.ts.length ≤ own.length
theorem But.tps {p c : Addr} {H H' : Hp} {lim : V} {n : Nat} (b : But p c H H') (P0 : PoolAt H p c lim n) : Tps H H' := by
  obtain ⟨i, cs, cn, sd, md, e1, e2, _⟩ := P0
  exact ⟨fun a xs e => b _ _ e (ne_of e e1 (by intro z; cases z)) (ne_of e e2 (by intro z; cases z)), fun a o xs e => b _ _ e (ne_of e e1 (by intro z; cases z)) (ne_of e e2 (by intro z; cases z))⟩
theorem But.of {p c : Addr} {H H' : Hp} (s : Same H H') : But p c H H' := fun b o e _ _ => s b o e
def spLEx (K : PySem.W.Frag) : Sp := fun vs H Q _ => ∃ (p c nl : Addr) (lim : V) (n : Nat) (own : List Str), vs = [.ref p, .ref nl, .int 4] ∧ PoolAt H p c lim n ∧ n + 100 < 1000000000000 ∧ H nl = some (.lst (own.map V.str)) ∧ nl ≠ p ∧ nl ≠ c ∧ own.Nodup ∧ own.length < 60 ∧
  ∀ (v : V) (e : Ex) (H' : Hp), EX own e → Dp K H' v (exD e) → PoolAt H' p c lim (n + own.length + 1) → But p c H H' → Q v H'
section
variable {P : Program} {w : World} {K : PySem.W.Frag} {mg : Str → Option Value} {base : Heap}
theorem fac_in {r : Int} (r0 : 0 ≤ r) (r1 : r < 7) : ∃ f : Int, atI [V.int 0, V.int 0, V.int 1, V.int (-1), V.int 2, V.int (-3), V.int 4] r = some (V.int f) ∧ -4 ≤ f ∧ f ≤ 4 := by
  have : r = 0 ∨ r = 1 ∨ r = 2 ∨ r = 3 ∨ r = 4 ∨ r = 5 ∨ r = 6 := by omega
  rcases this with rfl | rfl | rfl | rfl | rfl | rfl | rfl
  · exact ⟨0, rfl, by decide, by decide⟩
  · exact ⟨0, rfl, by decide, by decide⟩
  · exact ⟨1, rfl, by decide, by decide⟩
  · exact ⟨-1, rfl, by decide, by decide⟩
  · exact ⟨2, rfl, by decide, by decide⟩
  · exact ⟨-3, rfl, by decide, by decide⟩
  · exact ⟨4, rfl, by decide, by decide⟩
theorem ok_LEx {f : Addr} {fd : FuncData} (F : Fun K "_law_expression" "_law_expression" sLEx f fd) (T : TxGen mg) (GD : Has P w K mg base CX0 2 "_law_draw" PDraw spDraw) : FnOk P w K mg base CX0 3 f fd PLEx (spLEx K) := by
  refine F.ok scLEx (fun vs H Q E h => ?_) (fun cdv A outer s H vs Q E hr h => ?_)
  · obtain ⟨p, c, nl, lim, n, own, rfl, _⟩ := h
    rfl
  · obtain ⟨p, c, nl, lim, n, own, rfl, P0, hn, hnl, np, nc, nd, l60, k⟩ := h
    refine ⟨_, (pss_cons (ps_set (i := 3) scLEx.nd rfl (Or.inl rfl) (pe_lst pa_nil))
  (pss_cons (ps_for PassesOwn.never rfl (pi_list (pe_callB cr_sortedS (by rfl) T.n_sorted bb_sorted (pa_cons (pv 1) pa_nil))) (pg_name (i := 4) scLEx.nd rfl (Or.inl rfl))
  (pss_cons (ps_set (i := 5) scLEx.nd rfl (Or.inl rfl) (pe_ix (r := rIxL K) ix_list (pe_lst (pa_cons pe_int (pa_cons pe_int (pa_cons pe_int (pa_cons (pe_un un_neg pe_int) (pa_cons pe_int (pa_cons (pe_un un_neg pe_int) (pa_cons (pv 2) pa_nil)))))))) (pe_callH GD hr rfl pass0 (pa_cons (pv 0) (pa_cons pe_int pa_nil))) (fun _ _ => rfl)))
  (pss_one (ps_if (pt_cmpR op_ne (pv 5) pe_int (nomark _))
  (pss_one (ps_expr (pe_bm PySem.F.plainAttrs_list PySem.F.slot_list_append PySem.F.type_list_append mt_append (pv 3) (pa_cons (pe_tup (pa_cons (pv 4) (pa_cons (pv 5) pa_nil))) pa_nil))))
  pss_nil))))
  (pss_one (ps_ret (pe_tup (pa_cons (pe_op op_sub (pe_callH GD hr rfl pass0 (pa_cons (pv 0) (pa_cons pe_int pa_nil))) pe_int) (pa_cons (pe_callTy call_tuple_of (by rfl) T.n_tuple bb_tuple (pa_cons (pv 3) pa_nil)) pa_nil))))))), ?_⟩
    refine ⟨(by show 0 ≤ sizeLine; decide), fun q hq => ?_⟩
    have s1 := same_new (o := .lst []) hq
    have P1 := P0.same s1
    have qp := P0.ne1 hq
    have qc := P0.ne2 hq
    refine ⟨_, rfl, nl, own, rfl, SqL.of (s1 _ _ hnl), by omega, fun ys L perm srt hL => ?_⟩
    have Lp := P1.ne1 hL
    have Lc := P1.ne2 hL
    have s2 := same_new (o := .lst (ys.map V.str)) hL
    have qL : q ≠ L := ne_of_none upd_same hL
    have ly : ys.length = own.length := perm.length_eq
    have as := sort_asc srt (perm.nodup_iff.mpr nd)
    have L2 : upd (upd H q (.lst [])) L (.lst (ys.map V.str)) L = some (.lst (ys.map V.str)) := upd_same
    have q2 : upd (upd H q (.lst [])) L (.lst (ys.map V.str)) q = some (.lst []) := s2 _ _ upd_same
    refine ⟨L, rfl, ⟨_, SqL.of L2⟩, ?_⟩
    refine for_list (K := K) (a := L) (xs := ys.map V.str) (fun j σ H' => (∃ x4 x5 : Option V, σ = [some (.ref p), some (.ref nl), some (.int 4), some (.ref q), x4, x5]) ∧ PoolAt H' p c lim (n + j) ∧ But p c H H' ∧ H' L = some (.lst (ys.map V.str)) ∧ ∃ (us : List V) (es : List (Str × Int)), H' q = some (.lst us) ∧ us.length ≤ j ∧ Paired (fun x pr => Dp K H' x (.tuple [.str pr.1, .int pr.2])) us es ∧ (∀ pr ∈ es, pr.2 ≠ 0 ∧ -4 ≤ pr.2 ∧ pr.2 ≤ 4) ∧ (es.map Prod.fst).Sublist (ys.take j))
      ⟨⟨_, _, rfl⟩, P1.same s2, But.of (s1.trans s2), L2, [], [], q2, Nat.le_refl _, .nil, fun _ z => (nomatch z), List.Sublist.refl _⟩ (fun j σ H' _ h' => SqL.of h'.2.2.2.1) ?_ ?_
    · rintro j x σ H3 hx ⟨⟨x4, x5, rfl⟩, P3, b3, eL3, us, es, eq3, lu, pu, pe, sub⟩
      have hj : j < ys.length := by
        have := (List.getElem?_eq_some_iff.mp hx).1
        rwa [List.length_map] at this
      obtain ⟨nm, hnm⟩ : ∃ nm, ys[j]? = some nm := ⟨_, List.getElem?_eq_getElem hj⟩
      rw [List.getElem?_map, hnm] at hx
      simp only [Option.map_some, Option.some.injEq] at hx
      subst hx
      refine ⟨_, rfl, _, rfl, _, rfl, (by show 7 ≤ sizeLine; decide), fun D hD => ?_⟩
      have s3 := same_new (o := .lst [V.int 0, V.int 0, V.int 1, V.int (-1), V.int 2, V.int (-3), V.int 4]) hD
      have P4 := P3.same s3
      refine ⟨_, rfl, p, c, lim, n + j, 7, rfl, P4, by omega, by decide, by decide, fun r H4 r0 r1 P5 b5 => ?_⟩
      have eD : H4 D = some (.lst [V.int 0, V.int 0, V.int 1, V.int (-1), V.int 2, V.int (-3), V.int 4]) := b5 _ _ upd_same (P3.ne1 hD) (P3.ne2 hD)
      obtain ⟨fa, hfa, f0, f1⟩ := fac_in r0 r1
      have b4 : But p c H3 H4 := (But.of s3).trans b5
      have b6 := b3.trans b4
      have eL4 := b4 _ _ eL3 Lp Lc
      have eq4 := b4 _ _ eq3 qp qc
      have t4 : Tps H3 H4 := b4.tps P3
      have pu4 : Paired (fun x pr => Dp K H4 x (.tuple [.str pr.1, .int pr.2])) us es := Paired.mapP pu fun _ pr z => Dp.tps t4 z rfl
      have sub2 : (es.map Prod.fst).Sublist (ys.take (j + 1)) := sub.trans (List.take_sublist_take_left (Nat.le_succ j))
      refine ⟨D, _, _, _, rfl, rfl, SqL.of eD, hfa, ?_⟩
      refine ⟨_, rfl, rfl, _, rfl, ?_⟩
      by_cases hz : fa = 0
      · refine iteE (by rw [hz]; rfl) ?_
        exact ⟨⟨_, _, rfl⟩, P5, b6, eL4, us, es, eq4, by omega, pu4, pe, sub2⟩
      · refine iteS (by rw [decide_eq_false (fun z => hz (V.int.inj z))]; rfl) ?_
        refine ⟨_, rfl, .inl ⟨rfl, _, SqL.of eq4⟩, _, rfl, _, rfl, (by show 2 ≤ sizeLine; decide), fun t ht => ?_⟩
        have s5 := same_new (o := .tup [V.str nm, V.int fa]) ht
        have eq5 := s5 _ _ eq4
        refine ⟨q, _, _, rfl, rfl, eq5, small1000 (by omega), ?_⟩
        have t5 : Tps (upd H4 t (.tup [V.str nm, V.int fa])) (upd (upd H4 t (.tup [V.str nm, V.int fa])) q (.lst (us ++ [.ref t]))) := Tps.lst eq5
        have t6 := (Tps.of s5).trans t5
        refine ⟨⟨_, _, rfl⟩, (P5.same s5).upd qp qc, fun b o z h1 h2 => ?_, ?_, us ++ [.ref t], es ++ [(nm, fa)], upd_same, by rw [List.length_append]; show us.length + 1 ≤ j + 1; omega, ?_, ?_, ?_⟩
        · rw [upd_ne (ne_of_none z hq)]
          exact s5 _ _ (b6 _ _ z h1 h2)
        · rw [upd_ne qL.symm]
          exact s5 _ _ eL4
        · exact Paired.snoc (Paired.mapP pu4 fun _ pr z => Dp.tps t6 z rfl) (.tup (SqT.of (t5.1 _ _ upd_same)) (.cons (.str _) (.cons (.int _) .nil)))
        · intro pr hpr
          rcases List.mem_append.mp hpr with z | z
          · exact pe pr z
          · rw [List.mem_singleton.mp z]
            exact ⟨hz, f0, f1⟩
        · rw [List.map_append, take_snoc hnm]
          exact List.Sublist.append sub (List.Sublist.refl _)
    · rintro σ H3 ⟨⟨x4, x5, rfl⟩, P3, b3, eL3, us, es, eq3, lu, pu, pe, sub⟩
      rw [List.length_map] at P3 sub lu
      rw [List.take_length] at sub
      refine ⟨_, rfl, p, c, lim, n + ys.length, 7, rfl, P3, by omega, by decide, by decide, fun r H4 r0 r1 P4 b4 => ?_⟩
      have eq4 := b4 _ _ eq3 qp qc
      have pu4 : Paired (fun x pr => Dp K H4 x (.tuple [.str pr.1, .int pr.2])) us es := Paired.mapP pu fun _ pr z => Dp.tps (b4.tps P3) z rfl
      refine ⟨_, _, rfl, rfl, ?_⟩
      refine ⟨_, rfl, q, us, rfl, .inl ⟨SqL.of eq4, fun l hl => ?_⟩⟩
      have s5 := same_new (o := .tup us) hl
      refine ⟨(by show 2 ≤ sizeLine; decide), fun t ht => ?_⟩
      have s6 := same_new (o := .tup [V.int (r - 3), V.ref l]) ht
      have s7 := s5.trans s6
      refine k _ ⟨r - 3, es⟩ _ ⟨⟨by show -3 ≤ r - 3; omega, by show r - 3 ≤ 3; omega⟩, fun pr hpr => ?_, as.sublist sub, by rw [← ly]; have := sub.length_le; rwa [List.length_map] at this⟩ ?_ (by rw [← ly]; exact (P4.same s7)) (fun b o z h1 h2 => s7 _ _ (b4 _ _ (b3 _ _ z h1 h2) h1 h2))
      · obtain ⟨e1, e2, e3⟩ := pe pr hpr
        exact ⟨perm.mem_iff.mp (sub.subset (List.mem_map.mpr ⟨pr, hpr, rfl⟩)), e1, e2, e3⟩
      · refine .tup (SqT.of upd_same) (.cons (.int _) (.cons (.tup (SqT.of (s6 _ _ upd_same)) ?_) .nil))
        exact DpAll.ofPaired (Paired.mapP pu4 fun _ _ z => z.same s7)
end

/-! ### the law's args and calls -/
abbrev sLAr : Stmt := topS 24
abbrev NLAr : List Str := ["_law_pool_here", "_law_params", "_law_names_here", "_law_args_here", "_law_param"]
abbrev PLAr : List Str := ["_law_pool_here", "_law_params", "_law_names_here"]
theorem scLAr : FnScope NLAr PLAr (defScope sLAr) := ⟨rfl, rfl, rfl, by decide +kernel, rfl, by decide +kernel, by decide +kernel⟩
abbrev sLCa : Stmt := topS 25
abbrev NLCa : List Str := ["_law_pool_here", "_law_env", "_law_head"]
abbrev PLCa : List Str := ["_law_pool_here", "_law_env"]
theorem scLCa : FnScope NLCa PLCa (defScope sLCa) := ⟨rfl, rfl, rfl, by decide +kernel, rfl, by decide +kernel, by decide +kernel⟩
abbrev Head := Str × List (Str × Bool)
def hdaD (h : Head) : PyData := .tuple [.str h.1, .tuple (h.2.map prD)]
def WA (own : List Str) : Arg → Prop
  | .place n => n ∈ own
  | .value e => EX own e
structure WC (own : List Str) (heads : List Head) (c : Cal) : Prop where
  hd : ∃ h ∈ heads, c.1 = h.1 ∧ c.2.map isPl = h.2.map Prod.snd
  as : ∀ a ∈ c.2, WA own a
structure EnvAt (K : PySem.W.Frag) (H : Hp) (p c : Addr) (v : V) (own kinds : List Str) (heads : List Head) : Prop where
  ex : ∃ e nl kl hl hs, v = .ref e ∧ SqT K H e [.ref nl, .ref kl, .ref hl] ∧ H nl = some (.lst (own.map V.str)) ∧ H kl = some (.lst (kinds.map V.str)) ∧ H hl = some (.lst hs) ∧ Paired (fun x h => Dp K H x (hdaD h)) hs heads ∧
    (nl ≠ p ∧ nl ≠ c) ∧ (kl ≠ p ∧ kl ≠ c) ∧ (hl ≠ p ∧ hl ≠ c)
structure EnvOk (own kinds : List Str) (heads : List Head) : Prop where
  o : own.Nodup ∧ own ≠ [] ∧ own.length ≤ 8
  k : kinds ≠ [] ∧ kinds.length ≤ 2
  h : heads ≠ [] ∧ heads.length ≤ 3
  ps : ∀ h ∈ heads, h.2.length ≤ 2 ∧ isName h.1 = true ∧ ∀ p ∈ h.2, isName p.1 = true
theorem noL_hda (h : Head) : noL (hdaD h) = true := by
  simp only [hdaD, noL, noLs, Bool.true_and, Bool.and_true]
  exact noLs_map noL_pr _
theorem EnvAt.but {K : PySem.W.Frag} {H H' : Hp} {p c : Addr} {v : V} {own kinds : List Str} {heads : List Head} {lim : V} {n : Nat} (h : EnvAt K H p c v own kinds heads) (b : But p c H H') (P0 : PoolAt H p c lim n) : EnvAt K H' p c v own kinds heads := by
  obtain ⟨e, nl, kl, hl, hs, e1, e2, e3, e4, e5, e6, e7, e8, e9⟩ := h
  exact ⟨e, nl, kl, hl, hs, e1, (b.tps P0).sqt e2, b _ _ e3 e7.1 e7.2, b _ _ e4 e8.1 e8.2, b _ _ e5 e9.1 e9.2, Paired.mapP e6 fun _ h z => Dp.tps (b.tps P0) z (noL_hda h), e7, e8, e9⟩
def spLAr (K : PySem.W.Frag) : Sp := fun vs H Q _ => ∃ (p c nl : Addr) (v : V) (lim : V) (n : Nat) (own : List Str) (ps : List (Str × Bool)), vs = [.ref p, v, .ref nl] ∧ PoolAt H p c lim n ∧ n + 1000 < 1000000000000 ∧ Dp K H v (.tuple (ps.map prD)) ∧ ps.length ≤ 2 ∧ H nl = some (.lst (own.map V.str)) ∧ nl ≠ p ∧ nl ≠ c ∧ own.Nodup ∧ own ≠ [] ∧ own.length ≤ 8 ∧
  ∀ (v : V) (as : List Arg) (H' : Hp), as.map isPl = ps.map Prod.snd → (∀ a ∈ as, WA own a) → Dp K H' v (.tuple (as.map argD)) → PoolAt H' p c lim (n + 20) → But p c H H' → Q v H'
def spLCa (K : PySem.W.Frag) : Sp := fun vs H Q _ => ∃ (p c : Addr) (v : V) (lim : V) (n : Nat) (own kinds : List Str) (heads : List Head), vs = [.ref p, v] ∧ PoolAt H p c lim n ∧ n + 2000 < 1000000000000 ∧ EnvAt K H p c v own kinds heads ∧ EnvOk own kinds heads ∧
  ∀ (v : V) (cl : Cal) (H' : Hp), WC own heads cl → Dp K H' v (calD cl) → PoolAt H' p c lim (n + 21) → But p c H H' → Q v H'
section
variable {P : Program} {w : World} {K : PySem.W.Frag} {mg : Str → Option Value} {base : Heap}
theorem ok_LAr {f : Addr} {fd : FuncData} (F : Fun K "_law_args" "_law_args" sLAr f fd) (T : TxGen mg) (GD : Has P w K mg base CX0 2 "_law_draw" PDraw spDraw) (GE : Has P w K mg base CX0 3 "_law_expression" PLEx (spLEx K)) : FnOk P w K mg base CX0 4 f fd PLAr (spLAr K) := by
  refine F.ok scLAr (fun vs H Q E h => ?_) (fun cdv A outer s H vs Q E hr h => ?_)
  · obtain ⟨p, c, nl, v, lim, n, own, ps, rfl, _⟩ := h
    rfl
  · obtain ⟨p, c, nl, v, lim, n, own, ps, rfl, P0, hn, hv, lps, hnl, np, nc, nd, ne, l8, k⟩ := h
    have hr2 := hr.mono (j := 2) (by omega)
    refine ⟨_, (pss_cons (ps_set (i := 3) scLAr.nd rfl (Or.inl rfl) (pe_lst pa_nil))
  (pss_cons (ps_for PassesOwn.never rfl (pi_tup (pv 1)) (pg_name (i := 4) scLAr.nd rfl (Or.inl rfl))
  (pss_one (ps_if (pt_val (pe_ix (r := rIxT K) ix_tup (pv 4) pe_int (fun _ _ => rfl)))
  (pss_one (ps_expr (pe_bm PySem.F.plainAttrs_list PySem.F.slot_list_append PySem.F.type_list_append mt_append (pv 3) (pa_cons (pe_tup (pa_cons pe_str (pa_cons (pe_ix (r := rIxL K) ix_list (pv 2) (pe_callH GD hr2 rfl pass0 (pa_cons (pv 0) (pa_cons (pe_callB call_len_seq (by rfl) T.n_len bb_len (pa_cons (pv 2) pa_nil)) pa_nil))) (fun _ _ => rfl)) pa_nil))) pa_nil))))
  (pss_one (ps_expr (pe_bm PySem.F.plainAttrs_list PySem.F.slot_list_append PySem.F.type_list_append mt_append (pv 3) (pa_cons (pe_tup (pa_cons pe_str (pa_cons (pe_callH GE hr rfl pass0 (pa_cons (pv 0) (pa_cons (pv 2) (pa_cons pe_int pa_nil)))) pa_nil))) pa_nil)))))))
  (pss_one (ps_ret (pe_callTy call_tuple_of (by rfl) T.n_tuple bb_tuple (pa_cons (pv 3) pa_nil)))))), ?_⟩
    obtain ⟨a, xs, rfl, hq0, hd⟩ := hv.tupInv
    have pp := DpAll.map hd
    have lx : xs.length = ps.length := Paired.length pp
    refine ⟨(by show 0 ≤ sizeLine; decide), fun q hq => ?_⟩
    have s1 := same_new (o := .lst []) hq
    have P1 := P0.same s1
    have qp := P0.ne1 hq
    have qc := P0.ne2 hq
    have qn := ne_of_none hnl hq
    refine ⟨_, rfl, a, rfl, ⟨_, SqT.same s1 hq0⟩, ?_⟩
    refine for_tup (K := K) (a := a) (xs := xs) (fun j σ H' => (∃ x4 : Option V, σ = [some (.ref p), some (.ref a), some (.ref nl), some (.ref q), x4]) ∧ PoolAt H' p c lim (n + 10 * j) ∧ But p c H H' ∧ H' nl = some (.lst (own.map V.str)) ∧ ∃ (us : List V) (as : List Arg), H' q = some (.lst us) ∧ us.length = j ∧ Paired (fun x g => Dp K H' x (argD g)) us as ∧ as.map isPl = (ps.take j).map Prod.snd ∧ ∀ g ∈ as, WA own g)
      ⟨⟨_, rfl⟩, P1, But.of s1, s1 _ _ hnl, [], [], upd_same, rfl, .nil, rfl, fun _ z => (nomatch z)⟩ (fun j σ H' _ h' => (h'.2.2.1.tps P0).sqt hq0) ?_ ?_
    · rintro j x σ H3 hx ⟨⟨x4, rfl⟩, P3, b3, en3, us, as, eq3, lu, pu, pm, pw⟩
      obtain ⟨pr, hpr, hpd⟩ := Paired.at pp hx
      have hj : j < xs.length := (List.getElem?_eq_some_iff.mp hx).1
      have hpd3 : Dp K H3 x (.tuple [.str pr.1, .bool pr.2]) := Dp.tps (b3.tps P0) hpd rfl
      obtain ⟨d, ds, rfl, hd3, hdd⟩ := hpd3.tupInv
      obtain ⟨u1, u2, rfl, g1, g2⟩ := hdd.two
      rw [Dp.blInv g2] at hd3
      have fin : ∀ (H5 : Hp) (t : Addr) (ga : Arg), isPl ga = pr.2 → WA own ga → H5 q = some (.lst us) → But p c H3 H5 → PoolAt H5 p c lim (n + 10 * j + 10) → Dp K H5 (.ref t) (argD ga) → (us ++ [V.ref t]).length < sizeLine ∧
          ((∃ x4 : Option V, [some (V.ref p), some (.ref a), some (.ref nl), some (.ref q), some (.ref d)] = [some (V.ref p), some (.ref a), some (.ref nl), some (.ref q), x4]) ∧ PoolAt (upd H5 q (.lst (us ++ [.ref t]))) p c lim (n + 10 * (j + 1)) ∧ But p c H (upd H5 q (.lst (us ++ [.ref t]))) ∧ upd H5 q (.lst (us ++ [.ref t])) nl = some (.lst (own.map V.str)) ∧ ∃ (us' : List V) (as : List Arg), upd H5 q (.lst (us ++ [.ref t])) q = some (.lst us') ∧ us'.length = j + 1 ∧ Paired (fun x g => Dp K (upd H5 q (.lst (us ++ [.ref t]))) x (argD g)) us' as ∧ as.map isPl = (ps.take (j + 1)).map Prod.snd ∧ ∀ g ∈ as, WA own g) := by
        intro H5 t ga hg wa eq5 b5 P5 dt
        have t5 : Tps H5 (upd H5 q (.lst (us ++ [.ref t]))) := Tps.lst eq5
        refine ⟨small1000 (by rw [List.length_append]; show us.length + 1 ≤ 1000; omega), ⟨_, rfl⟩, ?_, fun b o z h1 h2 => ?_, ?_, us ++ [.ref t], as ++ [ga], upd_same, by rw [List.length_append, lu]; rfl, ?_, ?_, ?_⟩
        · rw [show n + 10 * (j + 1) = n + 10 * j + 10 by omega]
          exact P5.upd qp qc
        · rw [upd_ne (ne_of_none z hq)]
          exact b5 _ _ (b3 _ _ z h1 h2) h1 h2
        · rw [upd_ne qn]
          exact b5 _ _ en3 np nc
        · exact Paired.snoc (Paired.mapP pu fun _ g z => Dp.tps ((b5.tps P3).trans t5) z (noL_arg g)) (Dp.tps t5 dt (noL_arg ga))
        · rw [List.map_append, pm, take_snoc hpr, List.map_append]
          show _ ++ [isPl ga] = _ ++ [pr.2]
          rw [hg]
        · intro g hgm
          rcases List.mem_append.mp hgm with z | z
          · exact pw g z
          · rw [List.mem_singleton.mp z]; exact wa
      refine ⟨_, rfl, d, _, _, _, rfl, rfl, hd3, rfl, _, rfl, ?_⟩
      cases hb : pr.2 with
      | true =>
        refine iteS rfl ?_
        have lo : 0 < own.length := List.length_pos_iff.mpr ne
        refine ⟨_, rfl, .inl ⟨rfl, _, SqL.of eq3⟩, _, rfl, _, rfl, _, rfl, nl, _, rfl, .inl (SqL.of en3), p, c, lim, n + 10 * j, _, rfl, P3, by omega, by rw [List.length_map]; omega, by rw [List.length_map]; omega, fun r H4 r0 r1 P4 b4 => ?_⟩
        obtain ⟨w, hw, mw⟩ := atI_in (xs := own.map V.str) r0 r1
        obtain ⟨nm, hnm, rfl⟩ := List.mem_map.mp mw
        have en4 := b4 _ _ en3 np nc
        have eq4 := b4 _ _ eq3 qp qc
        refine ⟨nl, _, _, _, rfl, rfl, SqL.of en4, hw, (by show 2 ≤ sizeLine; decide), fun t ht => ?_⟩
        have s5 := same_new (o := .tup [V.str "place", V.str nm]) ht
        obtain ⟨f1, f2⟩ := fin _ t (.place nm) (by rw [hb]; rfl) hnm (s5 _ _ eq4) (fun b o z h1 h2 => s5 _ _ (b4 _ _ z h1 h2)) ((P4.same s5).mono (by omega)) (.tup (SqT.of upd_same) (.cons (.str _) (.cons (.str _) .nil)))
        exact ⟨q, _, _, rfl, rfl, s5 _ _ eq4, by rw [List.length_append] at f1; exact Nat.lt_of_succ_lt f1, f2⟩
      | false =>
        refine iteE rfl ?_
        refine ⟨_, rfl, .inl ⟨rfl, _, SqL.of eq3⟩, _, rfl, _, rfl, p, c, nl, lim, n + 10 * j, own, rfl, P3, by omega, en3, np, nc, nd, by omega, fun w e H4 ex dw P4 b4 => ?_⟩
        have eq4 := b4 _ _ eq3 qp qc
        refine ⟨(by show 2 ≤ sizeLine; decide), fun t ht => ?_⟩
        have s5 := same_new (o := .tup [V.str "value", w]) ht
        obtain ⟨f1, f2⟩ := fin _ t (.value e) (by rw [hb]; rfl) ex (s5 _ _ eq4) (fun b o z h1 h2 => s5 _ _ (b4 _ _ z h1 h2)) ((P4.same s5).mono (by omega)) (.tup (SqT.of upd_same) (.cons (.str _) (.cons (dw.same s5) .nil)))
        exact ⟨q, _, _, rfl, rfl, s5 _ _ eq4, by rw [List.length_append] at f1; exact Nat.lt_of_succ_lt f1, f2⟩
    · rintro σ H3 ⟨⟨x4, rfl⟩, P3, b3, en3, us, as, eq3, lu, pu, pm, pw⟩
      rw [lx, List.take_length] at pm
      refine ⟨_, rfl, q, us, rfl, .inl ⟨SqL.of eq3, fun l hl => ?_⟩⟩
      have s5 := same_new (o := .tup us) hl
      exact k _ as _ pm pw (.tup (SqT.of upd_same) (DpAll.ofPaired (Paired.mapP pu fun _ _ z => z.same s5))) ((P3.same s5).mono (by omega)) (fun b o z h1 h2 => s5 _ _ (b3 _ _ z h1 h2))
theorem ok_LCa {f : Addr} {fd : FuncData} (F : Fun K "_law_call" "_law_call" sLCa f fd) (T : TxGen mg) (GD : Has P w K mg base CX0 2 "_law_draw" PDraw spDraw) (GA : Has P w K mg base CX0 4 "_law_args" PLAr (spLAr K)) : FnOk P w K mg base CX0 5 f fd PLCa (spLCa K) := by
  refine F.ok scLCa (fun vs H Q E h => ?_) (fun cdv A outer s H vs Q E hr h => ?_)
  · obtain ⟨p, c, v, lim, n, own, kinds, heads, rfl, _⟩ := h
    rfl
  · obtain ⟨p, c, v, lim, n, own, kinds, heads, rfl, P0, hn, ev, ok, k⟩ := h
    have hr2 := hr.mono (j := 2) (by omega)
    refine ⟨_, (pss_cons (ps_set (i := 2) scLCa.nd rfl (Or.inl rfl) (pe_ix (r := rIxL K) ix_list (pe_ix (r := rIxT K) ix_tup (pv 1) pe_int (fun _ _ => rfl)) (pe_callH GD hr2 rfl pass0 (pa_cons (pv 0) (pa_cons (pe_callB call_len_seq (by rfl) T.n_len bb_len (pa_cons (pe_ix (r := rIxT K) ix_tup (pv 1) pe_int (fun _ _ => rfl)) pa_nil)) pa_nil))) (fun _ _ => rfl)))
  (pss_one (ps_ret (pe_tup (pa_cons (pe_ix (r := rIxT K) ix_tup (pv 2) pe_int (fun _ _ => rfl)) (pa_cons (pe_callH GA hr rfl pass0 (pa_cons (pv 0) (pa_cons (pe_ix (r := rIxT K) ix_tup (pv 2) pe_int (fun _ _ => rfl)) (pa_cons (pe_ix (r := rIxT K) ix_tup (pv 1) pe_int (fun _ _ => rfl)) pa_nil)))) pa_nil)))))), ?_⟩
    obtain ⟨e, nl, kl, hl, hs, rfl, e2, e3, e4, e5, e6, e7, e8, e9⟩ := ev
    have lh : hs.length = heads.length := Paired.length e6
    have lo : 0 < heads.length := List.length_pos_iff.mpr ok.h.1
    have l3 := ok.h.2
    refine ⟨_, rfl, e, _, _, _, rfl, rfl, e2, rfl, _, rfl, _, rfl, e, _, _, _, rfl, rfl, e2, rfl, hl, _, rfl, .inl (SqL.of e5), p, c, lim, n, _, rfl, P0, by omega, by omega, by omega, fun r H1 r0 r1 P1 b1 => ?_⟩
    obtain ⟨w, hw, mw⟩ := atI_in r0 r1
    obtain ⟨i, hi⟩ := List.mem_iff_getElem?.mp mw
    obtain ⟨h, hh, hdp⟩ := Paired.at e6 hi
    have mh := List.mem_of_getElem? hh
    have t1 := b1.tps P0
    have hdp1 : Dp K H1 w (.tuple [.str h.1, .tuple (h.2.map prD)]) := Dp.tps t1 hdp (noL_hda h)
    obtain ⟨d, ds, rfl, hd, hdd⟩ := hdp1.tupInv
    obtain ⟨u1, u2, rfl, g1, g2⟩ := hdd.two
    rw [g1.strInv] at hd
    refine ⟨hl, _, _, _, rfl, rfl, SqL.of (b1 _ _ e5 e9.1 e9.2), hw, ?_⟩
    refine ⟨_, rfl, d, _, _, _, rfl, rfl, hd, rfl, _, rfl, _, rfl, d, _, _, _, rfl, rfl, hd, rfl, _, rfl, e, _, _, _, rfl, rfl, t1.sqt e2, rfl, p, c, nl, u2, lim, n + 1, own, h.2, rfl, P1, by omega, g2, (ok.ps h mh).1, b1 _ _ e3 e7.1 e7.2, e7.1, e7.2, ok.o.1, ok.o.2.1, ok.o.2.2, fun v as H2 pm pw dv P2 b2 => ?_⟩
    refine ⟨(by show 2 ≤ sizeLine; decide), fun t ht => ?_⟩
    have s3 := same_new (o := .tup [V.str h.1, v]) ht
    exact k _ (h.1, as) _ ⟨⟨h, mh, rfl, pm⟩, pw⟩ (.tup (SqT.of upd_same) (.cons (.str _) (.cons (dv.same s3) .nil))) (P2.same s3) (fun b o z h1 h2 => s3 _ _ (b2 _ _ (b1 _ _ z h1 h2) h1 h2))
end

/-! ### k03: texts and their tokens -/
inductive Tkw : List Nat → SH → Prop
  | nil : Tkw [] [("end", "")]
  | gap {c : Nat} {t : List Nat} {sh : SH} (hc : c = 32 ∨ c = 10) (r : Tkw t sh) : Tkw (c :: t) sh
  | sign {c : Nat} {t : List Nat} {sh : SH} (hc : c ∈ SIG.cps.toList) (r : Tkw t sh) : Tkw (c :: t) (("mark", (⟨#[c]⟩ : Str)) :: sh)
  | word {w t : List Nat} {sh : SH} (hw : w ≠ []) (ha : ∀ c ∈ w, al c = true) (hk : kindOf ⟨w.toArray⟩ ≠ "bad") (hn : NoAl t) (r : Tkw t sh) : Tkw (w ++ t) ((kindOf ⟨w.toArray⟩, (⟨w.toArray⟩ : Str)) :: sh)
theorem Tks.gap2 {t : List Nat} {sh : SH} {c : Nat} (hc : c = 32 ∨ c = 10) (h : Tks t sh) : Tks (c :: t) sh := fun p => by
  obtain ⟨ts, e, k⟩ := h (p ++ [c])
  rw [List.append_assoc, List.length_append] at k
  exact ⟨ts, e, .gap (mid_get p t c) hc k⟩
theorem Tkw.tks {t : List Nat} {sh : SH} (h : Tkw t sh) : Tks t sh := by
  induction h with
  | nil => exact Tks.nil
  | gap hc _ ih => exact Tks.gap2 hc ih
  | sign hc _ ih => exact Tks.sign hc ih
  | word hw ha hk hn _ ih => exact Tks.word hw ha hk hn ih
/-! the same tokens in other forms of a text -/
theorem al_gap : al 32 = false ∧ al 10 = false := by decide +kernel
theorem sig_al {c : Nat} (h : c ∈ SIG.cps.toList) : al c = false := by
  cases e : al c with
  | false => rfl
  | true => exact absurd h (al_plain e).2.2
def f10 (c : Nat) : Nat := if c = 10 then 32 else c
theorem f10_al {c : Nat} (h : al c = true) : f10 c = c := if_neg (al_plain h).2.1
theorem map_id {f : Nat → Nat} : ∀ {w : List Nat}, (∀ c ∈ w, f c = c) → w.map f = w
  | [], _ => rfl
  | c :: r, h => by rw [List.map_cons, h c List.mem_cons_self, map_id fun d hd => h d (List.mem_cons_of_mem _ hd)]
theorem NoAl.cons {c : Nat} {t : List Nat} (h : al c = false) : NoAl (c :: t) := fun d e => by
  cases e
  exact h
theorem NoAl.head {c : Nat} {t : List Nat} (h : NoAl (c :: t)) : al c = false := h c rfl
theorem Tkw.map10 {t : List Nat} {sh : SH} (h : Tkw t sh) : Tkw (t.map f10) sh := by
  induction h with
  | nil => exact .nil
  | gap hc _ ih => exact .gap (by rcases hc with rfl | rfl <;> exact .inl rfl) ih
  | @sign c t sh hc _ ih =>
    have e : f10 c = c := if_neg (sig_gap c hc).2
    rw [List.map_cons, e]
    exact .sign hc ih
  | @word w t sh hw ha hk hn _ ih =>
    rw [List.map_append, map_id fun c hc => f10_al (ha c hc)]
    refine .word hw ha hk ?_ ih
    cases t with
    | nil => exact fun c e => by cases e
    | cons c r =>
      refine NoAl.cons ?_
      have := hn.head
      unfold f10
      split
      · exact al_gap.1
      · exact this
def repF (s c : Nat) : List Nat := if c = s then [32, s, 32, 10] else [c]
theorem repF_al {s : Nat} (hs : s ∈ SIG.cps.toList) : ∀ {w : List Nat}, (∀ c ∈ w, al c = true) → w.flatMap (repF s) = w
  | [], _ => rfl
  | c :: r, h => by
    have e : c ≠ s := fun z => by
      have := h c List.mem_cons_self
      rw [z, sig_al hs] at this
      cases this
    rw [List.flatMap_cons, repF_al hs fun d hd => h d (List.mem_cons_of_mem _ hd)]
    unfold repF
    rw [if_neg e]
    rfl
theorem Tkw.rep {s : Nat} (hs : s ∈ SIG.cps.toList) {t : List Nat} {sh : SH} (h : Tkw t sh) : Tkw (t.flatMap (repF s)) sh := by
  have ns := sig_gap s hs
  induction h with
  | nil => exact .nil
  | @gap c t sh hc _ ih =>
    have e : repF s c = [c] := if_neg fun z => by
      subst z
      rcases hc with z | z
      · exact ns.1 z
      · exact ns.2 z
    rw [List.flatMap_cons, e]
    exact .gap hc ih
  | @sign c t sh hc _ ih =>
    rw [List.flatMap_cons]
    unfold repF
    by_cases q : c = s
    · rw [if_pos q, ← q]
      exact .gap (.inl rfl) (.sign hc (.gap (.inl rfl) (.gap (.inr rfl) (q ▸ ih))))
    · rw [if_neg q]
      exact .sign hc ih
  | @word w t sh hw ha hk hn _ ih =>
    rw [List.flatMap_append, repF_al hs ha]
    refine .word hw ha hk ?_ ih
    cases t with
    | nil => exact fun c e => by cases e
    | cons c r =>
      rw [List.flatMap_cons]
      unfold repF
      by_cases q : c = s
      · rw [if_pos q]
        exact NoAl.cons al_gap.1
      · rw [if_neg q]
        exact NoAl.cons hn.head
theorem Tkw.end2 {t : List Nat} {sh : SH} (h : Tkw t sh) : Tkw (t ++ [32, 32]) sh := by
  induction h with
  | nil => exact .gap (.inl rfl) (.gap (.inl rfl) .nil)
  | gap hc _ ih => exact .gap hc ih
  | sign hc _ ih => exact .sign hc ih
  | @word w t sh hw ha hk hn _ ih =>
    rw [List.append_assoc]
    refine .word hw ha hk ?_ ih
    cases t with
    | nil => exact NoAl.cons al_gap.1
    | cons c r => exact NoAl.cons hn.head
/-! parts of texts -/
/-- whatever stands behind -/
def TkA (w : List Nat) (s : SH) : Prop := ∀ t sh, Tkw t sh → Tkw (w ++ t) (s ++ sh)
/-- a word may stand at the end -/
def TkP (w : List Nat) (s : SH) : Prop := ∀ t sh, NoAl t → Tkw t sh → Tkw (w ++ t) (s ++ sh)
theorem TkA.p {w : List Nat} {s : SH} (h : TkA w s) : TkP w s := fun t sh _ r => h t sh r
theorem TkA.nil : TkA [] [] := fun _ _ r => r
theorem TkA.app {w v : List Nat} {s r : SH} (h : TkA w s) (k : TkA v r) : TkA (w ++ v) (s ++ r) := fun t sh q => by
  rw [List.append_assoc, List.append_assoc]
  exact h _ _ (k _ _ q)
theorem TkA.appP {w v : List Nat} {s r : SH} (h : TkA w s) (k : TkP v r) : TkP (w ++ v) (s ++ r) := fun t sh n q => by
  rw [List.append_assoc, List.append_assoc]
  exact h _ _ (k _ _ n q)
/-- begins with a gap or a sign -/
def Beg (w : List Nat) : Prop := ∃ c r, w = c :: r ∧ al c = false
theorem TkP.app {w v : List Nat} {s r : SH} (h : TkP w s) (b : Beg v) (k : TkA v r) : TkA (w ++ v) (s ++ r) := fun t sh q => by
  rw [List.append_assoc, List.append_assoc]
  refine h _ _ ?_ (k _ _ q)
  obtain ⟨c, l, rfl, e⟩ := b
  exact NoAl.cons e
theorem TkP.appP {w v : List Nat} {s r : SH} (h : TkP w s) (b : Beg v) (k : TkP v r) : TkP (w ++ v) (s ++ r) := fun t sh n q => by
  rw [List.append_assoc, List.append_assoc]
  refine h _ _ ?_ (k _ _ n q)
  obtain ⟨c, l, rfl, e⟩ := b
  exact NoAl.cons e
theorem TkP.word {x : Str} {k : Str} (h : TL.tl x ≠ [] ∧ (∀ c ∈ TL.tl x, al c = true) ∧ kindOf x = k) (hk : k ≠ "bad") : TkP (TL.tl x) [(k, x)] := fun t sh n q => by
  obtain ⟨h1, h2, rfl⟩ := h
  have := Tkw.word h1 h2 (by rw [str_tl]; exact hk) n q
  rw [str_tl] at this
  exact this
theorem TkP.name {x : Str} (h : isName x = true) : TkP (TL.tl x) [("name", x)] := TkP.word (name_al h) (by decide +kernel)
theorem TkP.num (n : Nat) : TkP (TL.tl (numS n)) [("number", numS n)] := TkP.word (num_kind n) (by decide +kernel)
theorem kw_word : ∀ x ∈ KWS, TL.tl x ≠ [] ∧ (∀ c ∈ TL.tl x, al c = true) ∧ kindOf x = "mark" := by decide +kernel
theorem TkP.kw {x : Str} (h : x ∈ KWS) : TkP (TL.tl x) [("mark", x)] := TkP.word (kw_word x h) (by decide +kernel)
/-- a text of signs and gaps -/
def shLit (w : List Nat) : SH := (w.filter fun c => decide (c ∈ SIG.cps.toList)).map fun c => (("mark", (⟨#[c]⟩ : Str)) : Str × Str)
theorem TkA.lit : ∀ {w : List Nat}, (∀ c ∈ w, c = 32 ∨ c = 10 ∨ c ∈ SIG.cps.toList) → TkA w (shLit w)
  | [], _ => TkA.nil
  | c :: r, h => by
    intro t sh q
    have ih := TkA.lit (fun d hd => h d (List.mem_cons_of_mem _ hd)) t sh q
    have hc := h c List.mem_cons_self
    unfold shLit
    by_cases e : c ∈ SIG.cps.toList
    · rw [List.filter_cons, if_pos (decide_eq_true e)]
      exact .sign e ih
    · rw [List.filter_cons, if_neg (by rw [decide_eq_false e]; exact Bool.false_ne_true)]
      refine .gap ?_ ih
      rcases hc with z | z | z
      · exact .inl z
      · exact .inr z
      · exact absurd z e
theorem Beg.app {w v : List Nat} (h : Beg w) : Beg (w ++ v) := by
  obtain ⟨c, r, rfl, e⟩ := h
  exact ⟨c, r ++ v, rfl, e⟩
/-! over texts -/
abbrev TA (z : Str) (s : SH) : Prop := TkA (TL.tl z) s
abbrev TP (z : Str) (s : SH) : Prop := TkP (TL.tl z) s
abbrev BG (z : Str) : Prop := Beg (TL.tl z)
theorem TA.add {a b : Str} {s r : SH} (h : TA a s) (k : TA b r) : TA (a ++ b) (s ++ r) := by
  show TkA (TL.tl (a ++ b)) _
  rw [TL.tl_append]
  exact h.app k
theorem TA.addP {a b : Str} {s r : SH} (h : TA a s) (k : TP b r) : TP (a ++ b) (s ++ r) := by
  show TkP (TL.tl (a ++ b)) _
  rw [TL.tl_append]
  exact h.appP k
theorem TP.add {a b : Str} {s r : SH} (h : TP a s) (g : BG b) (k : TA b r) : TA (a ++ b) (s ++ r) := by
  show TkA (TL.tl (a ++ b)) _
  rw [TL.tl_append]
  exact TkP.app h g k
theorem TP.addP {a b : Str} {s r : SH} (h : TP a s) (g : BG b) (k : TP b r) : TP (a ++ b) (s ++ r) := by
  show TkP (TL.tl (a ++ b)) _
  rw [TL.tl_append]
  exact TkP.appP h g k
theorem BG.add {a b : Str} (h : BG a) : BG (a ++ b) := by
  show Beg (TL.tl (a ++ b))
  rw [TL.tl_append]
  exact Beg.app h
theorem TA.empty : TA Str.empty [] := TkA.nil
abbrev mk (z : Str) : Str × Str := ("mark", z)
abbrev nme (z : Str) : Str × Str := ("name", z)
theorem TA.lt (z : Str) (h : ∀ c ∈ TL.tl z, c = 32 ∨ c = 10 ∨ c ∈ SIG.cps.toList) {s : SH} (e : shLit (TL.tl z) = s) : TA z s := e ▸ TkA.lit h

/-! ### k03: sums, their texts and tokens -/
abbrev Pt3 := Bool × Option Str × Nat
def ptsE (e : Ex) : List Pt3 := e.ts.map (fun p => (decide (p.2 < 0), some p.1, p.2.natAbs)) ++ (if e.c ≠ 0 ∨ e.ts = [] then [(decide (e.c < 0), none, e.c.natAbs)] else [])
def ptS : Option Str × Nat → Str
  | (none, n) => numS n
  | (some x, n) => if n = 1 then x else Str.empty ++ numS n ++ "*" ++ x
def shPt : Option Str × Nat → SH
  | (none, n) => [("number", numS n)]
  | (some x, n) => if n = 1 then [nme x] else [("number", numS n), mk "*", nme x]
def sgM (b : Bool) : Str × Str := mk (if b = true then "-" else "+")
def shTl (l : List Pt3) : SH := l.flatMap fun p => sgM p.1 :: shPt p.2
def shE (e : Ex) : SH := match ptsE e with
  | [] => []
  | p :: r => (if p.1 = true then [mk "-"] else []) ++ (shPt p.2 ++ shTl r)
theorem parts_pts (e : Ex) : partsS e.c e.ts = (ptsE e).map fun p => (p.1, ptS p.2) := by
  unfold partsS ptsE
  rw [List.map_append, List.map_map]
  congr 1
  split <;> rfl
theorem pts_ne (e : Ex) : ptsE e ≠ [] := fun z => by
  unfold ptsE at z
  obtain ⟨z1, z2⟩ := List.append_eq_nil_iff.mp z
  rw [if_pos (.inr (List.map_eq_nil_iff.mp z1))] at z2
  cases z2
/-- sums as they are drawn -/
structure GE (e : Ex) : Prop where
  c : e.c.natAbs < 10
  nm : ∀ p ∈ e.ts, isName p.1 = true ∧ p.1.length ≤ 3 ∧ p.2 ≠ 0 ∧ p.2.natAbs < 10
  up : (e.ts.map Prod.fst).Pairwise asc
  ln : e.ts.length ≤ 8
theorem GE.pt {e : Ex} (h : GE e) : ∀ p ∈ ptsE e, p.2.2 < 10 ∧ ∀ x, p.2.1 = some x → isName x = true ∧ x.length ≤ 3 := by
  intro p hp
  unfold ptsE at hp
  rcases List.mem_append.mp hp with z | z
  · obtain ⟨q, hq, rfl⟩ := List.mem_map.mp z
    have := h.nm q hq
    exact ⟨this.2.2.2, fun x e => by cases e; exact ⟨this.1, this.2.1⟩⟩
  · split at z
    · rw [List.mem_singleton.mp z]
      exact ⟨h.c, fun x e => by cases e⟩
    · cases z
theorem ta_min : TA "-" [mk "-"] := TA.lt _ (by decide +kernel) (by decide +kernel)
theorem ta_star : TA "*" [mk "*"] := TA.lt _ (by decide +kernel) (by decide +kernel)
theorem bg_star : BG "*" := ⟨42, [], by decide +kernel, by decide +kernel⟩
theorem ta_sep (b : Bool) : TA (sepS b) [sgM b] ∧ BG (sepS b) := by
  cases b with
  | true => exact ⟨TA.lt " - " (by decide +kernel) (by decide +kernel), ⟨32, [45, 32], by decide +kernel, by decide +kernel⟩⟩
  | false => exact ⟨TA.lt " + " (by decide +kernel) (by decide +kernel), ⟨32, [43, 32], by decide +kernel, by decide +kernel⟩⟩
theorem empty_add (a : Str) : Str.empty ++ a = a := TL.ext_tl (by rw [TL.tl_append]; rfl)
theorem add_empty (a : Str) : a ++ Str.empty = a := TL.ext_tl (by rw [TL.tl_append]; exact List.append_nil _)
theorem tp_pt {p : Option Str × Nat} (h : ∀ x, p.1 = some x → isName x = true) : TP (ptS p) (shPt p) := by
  obtain ⟨o, n⟩ := p
  cases o with
  | none => exact TkP.num n
  | some x =>
    have hx := h x rfl
    unfold ptS shPt
    by_cases q : n = 1
    · simp only [if_pos q]
      exact TkP.name hx
    · simp only [if_neg q]
      rw [empty_add]
      exact TA.addP (TP.add (TkP.num n) bg_star ta_star) (TkP.name hx)
theorem tp_tail : ∀ {l : List Pt3} {X : Str} {s : SH}, TP X s → (∀ p ∈ l, ∀ x, p.2.1 = some x → isName x = true) → TP (tailS X (l.map fun p => (p.1, ptS p.2))) (s ++ shTl l)
  | [], X, s, h, _ => by
    unfold shTl
    rw [List.flatMap_nil, List.append_nil]
    exact h
  | p :: r, X, s, h, hn => by
    have st := ta_sep p.1
    have h1 : TP (X ++ (sepS p.1 ++ ptS p.2)) (s ++ ([sgM p.1] ++ shPt p.2)) := TP.addP h (BG.add st.2) (TA.addP st.1 (tp_pt (hn p List.mem_cons_self)))
    have := tp_tail h1 fun q hq => hn q (List.mem_cons_of_mem _ hq)
    rw [List.append_assoc] at this
    unfold shTl
    rw [List.flatMap_cons]
    exact this
theorem tp_expr {e : Ex} (h : GE e) : TP (exprZ e.c e.ts) (shE e) := by
  have hp := h.pt
  unfold exprZ shE
  rw [parts_pts]
  cases q : ptsE e with
  | nil => exact absurd q (pts_ne e)
  | cons p r =>
    rw [q] at hp
    have h0 := tp_pt fun x e => ((hp p List.mem_cons_self).2 x e).1
    have hr : ∀ q ∈ r, ∀ x, q.2.1 = some x → isName x = true := fun q hq x e => ((hp q (List.mem_cons_of_mem _ hq)).2 x e).1
    show TP (tailS (if p.1 = true then "-" ++ ptS p.2 else ptS p.2) (r.map fun p => (p.1, ptS p.2))) ((if p.1 = true then [mk "-"] else []) ++ (shPt p.2 ++ shTl r))
    rw [← List.append_assoc]
    refine tp_tail ?_ hr
    cases p.1 with
    | true => exact TA.addP ta_min h0
    | false => exact h0
theorem num_len10 {n : Nat} (h : n < 10) : (numS n).length = 1 := by
  rw [TL.len_tl, show TL.tl (numS n) = TL.numL n from TL.tl_num n, TL.numL_lt h]
  rfl
theorem pt_len {p : Option Str × Nat} (h : p.2 < 10) (hx : ∀ x, p.1 = some x → x.length ≤ 3) : (ptS p).length ≤ 5 := by
  obtain ⟨o, n⟩ := p
  have ln := num_len10 h
  cases o with
  | none =>
    show (numS n).length ≤ 5
    have : (numS n).length = 1 := ln
    omega
  | some x =>
    have := hx x rfl
    unfold ptS
    by_cases q : n = 1
    · simp only [if_pos q]
      omega
    · simp only [if_neg q]
      rw [empty_add, len_add, len_add]
      have : (numS n).length = 1 := ln
      have l1 : ("*" : Str).length = 1 := by decide +kernel
      omega
theorem tail_len5 {X : Str} {n : Nat} (hX : X.length ≤ n) : ∀ (ps : List (Bool × Str)) (_ : ∀ r ∈ ps, r.2.length ≤ 5), (tailS X ps).length ≤ n + ps.length * 8 := by
  intro ps
  induction ps generalizing X n with
  | nil => intro _; exact hX
  | cons p r ih =>
    intro h
    have h1 := h p List.mem_cons_self
    have l3 : (sepS p.1).length = 3 := by unfold sepS; split <;> decide +kernel
    have := ih (X := X ++ (sepS p.1 ++ p.2)) (n := n + 8) (by rw [len_add, len_add, l3]; omega) (fun q hq => h q (List.mem_cons_of_mem _ hq))
    show (tailS (X ++ (sepS p.1 ++ p.2)) r).length ≤ n + (r.length + 1) * 8
    omega
theorem expr_len {e : Ex} (h : GE e) : (exprZ e.c e.ts).length ≤ 80 := by
  have hp := h.pt
  have pn : (ptsE e).length ≤ 9 := by
    have := h.ln
    unfold ptsE
    rw [List.length_append, List.length_map]
    split
    · show e.ts.length + 1 ≤ 9; omega
    · show e.ts.length + 0 ≤ 9; omega
  unfold exprZ
  rw [parts_pts]
  cases q : ptsE e with
  | nil => exact absurd q (pts_ne e)
  | cons p r =>
    rw [q] at hp pn
    have pn : r.length + 1 ≤ 9 := pn
    have lm : ("-" : Str).length = 1 := by decide +kernel
    have p0 := pt_len (hp p List.mem_cons_self).1 fun x e => ((hp p List.mem_cons_self).2 x e).2
    show (tailS (if p.1 = true then "-" ++ ptS p.2 else ptS p.2) (r.map fun p => (p.1, ptS p.2))).length ≤ 80
    have := tail_len5 (X := if p.1 = true then "-" ++ ptS p.2 else ptS p.2) (n := 6) (by
      split
      · rw [len_add, lm]; omega
      · omega) (r.map fun p => (p.1, ptS p.2)) fun z hz => by
        obtain ⟨y, hy, rfl⟩ := List.mem_map.mp hz
        exact pt_len (hp y (List.mem_cons_of_mem _ hy)).1 fun x e => ((hp y (List.mem_cons_of_mem _ hy)).2 x e).2
    rw [List.length_map] at this
    omega
/-! the reading of a sum -/
/-- no token that goes on with a sum -/
theorem shPt_head (p : Option Str × Nat) : ∃ k z r, shPt p = (k, z) :: r ∧ k ≠ "mark" := by
  obtain ⟨o, n⟩ := p
  cases o with
  | none => exact ⟨_, _, _, rfl, by decide +kernel⟩
  | some x =>
    unfold shPt
    simp only
    split
    · exact ⟨_, _, _, rfl, by decide +kernel⟩
    · exact ⟨_, _, _, rfl, by decide +kernel⟩
theorem asc_nodup {l : List Str} (h : l.Pairwise asc) : l.Nodup := h.imp fun {a b} q z => by
  subst z
  unfold asc at q
  exact absurd q (List.lt_irrefl _)
theorem srt_pw {l : List Str} (h : PyProof.Rows.sortedS l = true) : l.Pairwise fun a b => ¬ b.cps.toList < a.cps.toList := by
  cases l with
  | nil => exact .nil
  | cons x r => exact rise_pw r x h
theorem asc_le {l : List Str} (h : l.Pairwise asc) : l.Pairwise fun a b => ¬ b.cps.toList < a.cps.toList := h.imp fun {a b} q z => List.lt_irrefl _ (List.lt_trans q z)
theorem ofF_self {fs l : Fac} (up : (fs.map Prod.fst).Pairwise asc) (nz : ∀ p ∈ fs, p.2 ≠ 0) (ho : OfF fs l) : l = fs := by
  obtain ⟨ys, yp, ysd, rfl⟩ := ho
  have nd := asc_nodup up
  have ey : ys = fs.map (·.1) := List.Perm.eq_of_pairwise (le := fun a b : Str => ¬ b.cps.toList < a.cps.toList) (fun a b _ _ q1 q2 => TL.ext_tl (List.le_antisymm (α := Nat) q1 q2)) (srt_pw ysd) (asc_le up) yp
  subst ey
  have e : (fs.map (·.1)).map (fun n => (n, getF fs n)) = fs := by
    rw [List.map_map]
    have : fs.map ((fun n => (n, getF fs n)) ∘ (·.1)) = fs.map id := List.map_congr_left fun p hp => by
      show (p.1, getF fs p.1) = p
      unfold getF
      rw [find_uniq nd hp]
      rfl
    rw [this, List.map_id]
  rw [e]
  exact List.filter_eq_self.mpr fun p hp => decide_eq_true (nz p hp)

/-! ### k03: statements, their lines and tokens -/
def sepH : List SH → SH
  | [] => []
  | [x] => x
  | x :: y :: r => x ++ mk "," :: sepH (y :: r)
def nmsS (ns : List Str) : Str := Txt.join ", " ns
def shNs (ns : List Str) : SH := sepH (ns.map fun x => [nme x])
def argS : Arg → Str
  | .place n => "&" ++ n
  | .value e => exprZ e.c e.ts
def shA : Arg → SH
  | .place n => [mk "&", nme n]
  | .value e => shE e
def callS (c : Cal) : Str := c.1 ++ "(" ++ Txt.join ", " (c.2.map argS) ++ ")"
def shC (c : Cal) : SH := nme c.1 :: mk "(" :: (sepH (c.2.map shA) ++ [mk ")"])
def simS : St → Str
  | .set t e => t ++ " = " ++ exprZ e.c e.ts
  | .input t => t ++ " = ?"
  | .call none f as => callS (f, as)
  | .call (some t) f as => t ++ " = " ++ callS (f, as)
  | .risk ks => "risk " ++ nmsS ks
  | .raise k => "raise " ++ k
  | .ret e => "return " ++ exprZ e.c e.ts
  | _ => ""
def shSim : St → SH
  | .set t e => nme t :: mk "=" :: shE e
  | .input t => [nme t, mk "=", mk "?"]
  | .call none f as => shC (f, as)
  | .call (some t) f as => nme t :: mk "=" :: shC (f, as)
  | .risk ks => mk "risk" :: shNs ks
  | .raise k => [mk "raise", nme k]
  | .ret e => mk "return" :: shE e
  | _ => []
abbrev HdS := Str × SH × List St
def excH (h : Hd) : HdS := ("except " ++ nmsS h.ks, mk "except" :: shNs h.ks, h.b)
def headsS : St → List HdS
  | .ite a b => ("if", [mk "if"], a) :: (if b.isEmpty = true then [] else [("else", [mk "else"], b)])
  | .whl b => [("while", [mk "while"], b)]
  | .try_ b hs f => ("try", [mk "try"], b) :: (hs.map excH ++ (if hs.isEmpty = false ∧ f.isEmpty = true then [] else [(("finally", [mk "finally"], f) : HdS)]))
  | .undo ns b => [("undo " ++ nmsS ns, mk "undo" :: shNs ns, b)]
  | .with_ e l ks b => [(("with " ++ callS e ++ ", " ++ callS l) ++ (if ks.isEmpty = true then Str.empty else " swallow " ++ nmsS ks), mk "with" :: (shC e ++ mk "," :: (shC l ++ (if ks.isEmpty = true then [] else mk "swallow" :: shNs ks))), b)]
  | _ => []
def hdL (ind : Str) (b : Bool) (h : Str) : Str := ind ++ (if b = true then ("} " : Str) else Str.empty) ++ h ++ " {"
def lnHs (f : List St → List Str) (ind : Str) : Bool → List HdS → List Str
  | _, [] => [ind ++ "}"]
  | b, h :: r => hdL ind b h.1 :: (f h.2.2 ++ lnHs f ind true r)
def shHs (f : List St → SH) : Bool → List HdS → SH
  | _, [] => [mk "}"]
  | b, h :: r => (if b = true then [mk "}"] else []) ++ (h.2.1 ++ mk "{" :: (f h.2.2 ++ shHs f true r))
def linS : Nat → Str → St → List Str
  | 0, _, _ => []
  | n + 1, ind, s => if (headsS s).isEmpty = true then [ind ++ simS s] else lnHs (fun b => b.flatMap (linS n (ind ++ "  "))) ind false (headsS s)
def shS : Nat → St → SH
  | 0, _ => []
  | n + 1, s => if (headsS s).isEmpty = true then shSim s else shHs (fun b => b.flatMap (shS n)) false (headsS s)
def linB (n : Nat) (ind : Str) (b : List St) : List Str := b.flatMap (linS n ind)
def shB (n : Nat) (b : List St) : SH := b.flatMap (shS n)
def parS (p : Str × Bool) : Str := if p.2 = true then "&" ++ p.1 else p.1
def shPar (p : Str × Bool) : SH := if p.2 = true then [mk "&", nme p.1] else [nme p.1]
def fnL (n : Nat) (f : Fn) : List Str := ("def " ++ f.name ++ "(" ++ Txt.join ", " (f.ps.map parS) ++ ") {") :: (linB n "  " f.b ++ [("}" : Str)])
def shF (n : Nat) (f : Fn) : SH := mk "def" :: nme f.name :: mk "(" :: (sepH (f.ps.map shPar) ++ mk ")" :: mk "{" :: (shB n f.b ++ [mk "}"]))
def rowL (z : Str) (ns : List Str) : List Str := if ns.isEmpty = true then [] else [z ++ Txt.join " " ns]
def shRow (z : Str) (ns : List Str) : SH := if ns.isEmpty = true then [] else mk z :: ns.map nme
def treeL (n : Nat) (t : Tr) : List Str := rowL "globals " t.names ++ (rowL "kinds " t.kinds ++ (t.keeps.map (fun e => "keep " ++ exprZ e.c e.ts) ++ t.fns.flatMap (fnL n)))
def shT (n : Nat) (t : Tr) : SH := shRow "globals" t.names ++ (shRow "kinds" t.kinds ++ (t.keeps.flatMap (fun e => mk "keep" :: shE e) ++ t.fns.flatMap (shF n)))
def textS (n : Nat) (t : Tr) : Str := Txt.join "" ((treeL n t).map fun l => l ++ "\n")
/-! what is drawn -/
def GN (x : Str) : Prop := isName x = true ∧ x.length ≤ 3
def GNs (ns : List Str) : Prop := ns.length ≤ 3 ∧ ∀ x ∈ ns, GN x
def GA : Arg → Prop
  | .place n => GN n
  | .value e => GE e
def GC (c : Cal) : Prop := GN c.1 ∧ c.2.length ≤ 2 ∧ ∀ a ∈ c.2, GA a
mutual
def gS : St → Prop
  | .set t e => GN t ∧ GE e
  | .input t => GN t
  | .raise k => GN k
  | .risk ks => ks ≠ [] ∧ GNs ks
  | .call t f as => (∀ x, t = some x → GN x) ∧ GC (f, as)
  | .ret e => GE e
  | .ite a b => gL a ∧ gL b
  | .whl b => gL b
  | .try_ b hs f => hs.length ≤ 2 ∧ gL b ∧ gHs hs ∧ gL f
  | .undo ns b => (ns ≠ [] ∧ GNs ns) ∧ gL b
  | .with_ e l ks b => GC e ∧ GC l ∧ GNs ks ∧ gL b
def gL : List St → Prop
  | [] => True
  | s :: r => gS s ∧ gL r
def gH : Hd → Prop
  | .mk ks b => (ks ≠ [] ∧ GNs ks) ∧ gL b
def gHs : List Hd → Prop
  | [] => True
  | h :: r => gH h ∧ gHs r
end
theorem gL_mem : ∀ {b : List St}, gL b → ∀ {s : St}, s ∈ b → gS s
  | x :: r, h, s, hs => by
    have h : gS x ∧ gL r := h
    rcases List.mem_cons.mp hs with z | z
    · rw [z]; exact h.1
    · exact gL_mem h.2 z
theorem gHs_mem : ∀ {b : List Hd}, gHs b → ∀ {s : Hd}, s ∈ b → gH s
  | x :: r, h, s, hs => by
    have h : gH x ∧ gHs r := h
    rcases List.mem_cons.mp hs with z | z
    · rw [z]; exact h.1
    · exact gHs_mem h.2 z
/-! the tokens of those texts -/
theorem ta_comma : TkA [44, 32] [mk ","] := by
  have h := TkA.lit (w := [44, 32]) (by decide +kernel)
  rwa [show shLit [44, 32] = [mk ","] by decide +kernel] at h
theorem tp_sep : ∀ {l : List (Str × SH)}, (∀ p ∈ l, TP p.1 p.2) → TkP (TL.joinL [44, 32] (l.map fun p => TL.tl p.1)) (sepH (l.map Prod.snd))
  | [], _ => TkA.nil.p
  | [x], h => h x List.mem_cons_self
  | x :: y :: r, h => by
    have ih := tp_sep (l := y :: r) fun p hp => h p (List.mem_cons_of_mem _ hp)
    have h0 := h x List.mem_cons_self
    exact TkP.appP h0 ⟨44, 32 :: _, rfl, by decide +kernel⟩ (ta_comma.appP ih)
theorem tl_comma : TL.tl (", " : Str) = [44, 32] := by decide +kernel
theorem tp_join {α : Type} {f : α → Str} {g : α → SH} {l : List α} (h : ∀ x ∈ l, TP (f x) (g x)) : TP (Txt.join ", " (l.map f)) (sepH (l.map g)) := by
  have := tp_sep (l := l.map fun x => (f x, g x)) fun p hp => by
    obtain ⟨x, hx, rfl⟩ := List.mem_map.mp hp
    exact h x hx
  rw [List.map_map, List.map_map] at this
  show TkP (TL.tl (Txt.join ", " (l.map f))) _
  rw [TL.join_eq, TL.tl_join, tl_comma, List.map_map]
  exact this
theorem tp_nms {ns : List Str} (h : GNs ns) : TP (nmsS ns) (shNs ns) := by
  have := tp_join (f := id) (g := fun x => [nme x]) (l := ns) fun x hx => TkP.name (h.2 x hx).1
  rwa [List.map_id] at this
theorem tp_rowL : ∀ {ns : List Str}, (∀ x ∈ ns, GN x) → TkP (TL.joinL [32] (ns.map TL.tl)) (ns.map nme)
  | [], _ => TkA.nil.p
  | [x], h => TkP.name (h x List.mem_cons_self).1
  | x :: y :: r, h => by
    have ih := tp_rowL (ns := y :: r) fun p hp => h p (List.mem_cons_of_mem _ hp)
    have g : TkA [32] [] := TkA.lit (w := [32]) (by decide +kernel)
    exact TkP.appP (TkP.name (h x List.mem_cons_self).1) ⟨32, _, rfl, by decide +kernel⟩ (g.appP ih)
theorem tp_row {ns : List Str} (h : ∀ x ∈ ns, GN x) : TP (Txt.join " " ns) (ns.map nme) := by
  show TkP (TL.tl (Txt.join " " ns)) _
  rw [TL.join_eq, TL.tl_join, show TL.tl (" " : Str) = [32] by decide +kernel]
  exact tp_rowL h
theorem ta_amp : TA "&" [mk "&"] := TA.lt _ (by decide +kernel) (by decide +kernel)
theorem tp_arg {a : Arg} (h : GA a) : TP (argS a) (shA a) := by
  cases a with
  | place n => exact TA.addP ta_amp (TkP.name h.1)
  | value e => exact tp_expr h
theorem ta_par : TA "(" [mk "("] ∧ BG "(" := ⟨TA.lt _ (by decide +kernel) (by decide +kernel), ⟨40, [], by decide +kernel, by decide +kernel⟩⟩
theorem ta_rap : TA ")" [mk ")"] ∧ BG ")" := ⟨TA.lt _ (by decide +kernel) (by decide +kernel), ⟨41, [], by decide +kernel, by decide +kernel⟩⟩
theorem ta_call {c : Cal} (h : GC c) : TA (callS c) (shC c) := by
  have h1 := TP.add (TkP.name h.1.1) ta_par.2 ta_par.1
  have h2 := TA.addP h1 (tp_join fun a ha => tp_arg (h.2.2 a ha))
  have h3 := TP.add h2 ta_rap.2 ta_rap.1
  have e : ((([nme c.1] ++ [mk "("]) ++ sepH (c.2.map shA)) ++ [mk ")"]) = shC c := by simp [shC]
  rw [← e]
  exact h3
/-- a keyword and a gap -/
theorem ta_kw {x : Str} (h : x ∈ KWS) : TA (x ++ " ") [mk x] := by
  have := TP.add (TkP.kw h) ⟨32, [], by decide +kernel, by decide +kernel⟩ (TA.lt " " (by decide +kernel) (s := []) (by decide +kernel))
  rwa [List.append_nil] at this
theorem ta_lead {z x : Str} (h : x ∈ KWS) (e : x ++ " " = z) : TA z [mk x] := e ▸ ta_kw h
theorem ta_eq : TA " = " [mk "="] ∧ BG " = " := ⟨TA.lt _ (by decide +kernel) (by decide +kernel), ⟨32, [61, 32], by decide +kernel, by decide +kernel⟩⟩
theorem ta_ask : TA " = ?" [mk "=", mk "?"] ∧ BG " = ?" := ⟨TA.lt _ (by decide +kernel) (by decide +kernel), ⟨32, [61, 32, 63], by decide +kernel, by decide +kernel⟩⟩
theorem tp_sim {s : St} (g : gS s) (h : headsS s = []) : TP (simS s) (shSim s) := by
  cases s with
  | set t e => exact TA.addP (TP.add (TkP.name g.1.1) ta_eq.2 ta_eq.1) (tp_expr g.2)
  | input t => exact (TP.add (TkP.name (show GN t from g).1) ta_ask.2 ta_ask.1).p
  | call t f as =>
    cases t with
    | none => exact (ta_call g.2).p
    | some x => exact (TA.add (TP.add (TkP.name (g.1 x rfl).1) ta_eq.2 ta_eq.1) (ta_call g.2)).p
  | risk ks => exact TA.addP (ta_lead (x := "risk") (by decide +kernel) (by decide +kernel)) (tp_nms g.2)
  | raise k => exact TA.addP (ta_lead (x := "raise") (by decide +kernel) (by decide +kernel)) (TkP.name (show GN k from g).1)
  | ret e => exact TA.addP (ta_lead (x := "return") (by decide +kernel) (by decide +kernel)) (tp_expr g)
  | ite a b => simp [headsS] at h
  | whl b => simp [headsS] at h
  | try_ b hs f => simp [headsS] at h
  | undo ns b => simp [headsS] at h
  | with_ e l ks b => simp [headsS] at h
theorem kw_in : ("if" : Str) ∈ KWS ∧ ("else" : Str) ∈ KWS ∧ ("while" : Str) ∈ KWS ∧ ("try" : Str) ∈ KWS := by decide +kernel
theorem kw_fin : ("finally" : Str) ∈ KWS := by decide +kernel
theorem tp_kw {z : Str} (h : z ∈ KWS) : TP z [mk z] := TkP.kw h
theorem tp_heads {s : St} (g : gS s) : ∀ h ∈ headsS s, TP h.1 h.2.1 ∧ gL h.2.2 := by
  intro h hm
  cases s with
  | ite a b =>
    have g : gL a ∧ gL b := g
    unfold headsS at hm
    rcases List.mem_cons.mp hm with rfl | hm
    · exact ⟨tp_kw kw_in.1, g.1⟩
    · split at hm
      · cases hm
      · rw [List.mem_singleton.mp hm]
        exact ⟨tp_kw kw_in.2.1, g.2⟩
  | whl b =>
    rw [List.mem_singleton.mp hm]
    exact ⟨tp_kw kw_in.2.2.1, g⟩
  | try_ b hs f =>
    have g : hs.length ≤ 2 ∧ gL b ∧ gHs hs ∧ gL f := g
    unfold headsS at hm
    rcases List.mem_cons.mp hm with rfl | hm
    · exact ⟨tp_kw kw_in.2.2.2, g.2.1⟩
    rcases List.mem_append.mp hm with hm | hm
    · obtain ⟨x, hx, rfl⟩ := List.mem_map.mp hm
      have gx := gHs_mem g.2.2.1 hx
      cases x with
      | mk ks b =>
        have gx : (ks ≠ [] ∧ GNs ks) ∧ gL b := gx
        exact ⟨TA.addP (ta_lead (x := "except") (by decide +kernel) (by decide +kernel)) (tp_nms gx.1.2), gx.2⟩
    · split at hm
      · cases hm
      · rw [List.mem_singleton.mp hm]
        exact ⟨tp_kw kw_fin, g.2.2.2⟩
  | undo ns b =>
    have g : (ns ≠ [] ∧ GNs ns) ∧ gL b := g
    rw [List.mem_singleton.mp hm]
    exact ⟨TA.addP (ta_lead (x := "undo") (by decide +kernel) (by decide +kernel)) (tp_nms g.1.2), g.2⟩
  | with_ e l ks b =>
    have g : GC e ∧ GC l ∧ GNs ks ∧ gL b := g
    rw [List.mem_singleton.mp hm]
    have h0 : TA ("with " ++ callS e) ([mk "with"] ++ shC e) := TA.add (ta_lead (x := "with") (by decide +kernel) (by decide +kernel)) (ta_call g.1)
    have hc : TA ", " [mk ","] := by
      show TkA (TL.tl ", ") _
      rw [tl_comma]
      exact ta_comma
    have h1 := TA.add (TA.add h0 hc) (ta_call g.2.1)
    have h2 : TP (if ks.isEmpty = true then Str.empty else " swallow " ++ nmsS ks) (if ks.isEmpty = true then [] else mk "swallow" :: shNs ks) := by
      split
      · exact TA.empty.p
      · have hs : TA " swallow " [mk "swallow"] := by
          have := TA.add (TA.lt " " (by decide +kernel) (s := []) (by decide +kernel)) (ta_kw (x := "swallow") (by decide +kernel))
          rwa [show (" " : Str) ++ ("swallow" ++ " ") = " swallow " by decide +kernel] at this
        exact TA.addP hs (tp_nms g.2.2.1)
    refine ⟨?_, g.2.2.2⟩
    have h3 := TA.addP h1 h2
    simpa using h3
  | set t e => cases hm
  | input t => cases hm
  | call t f as => cases hm
  | risk ks => cases hm
  | raise k => cases hm
  | ret e => cases hm
def lnT (ls : List Str) : List Nat := ls.flatMap fun l => TL.tl l ++ [10]
theorem lnT_app (a b : List Str) : lnT (a ++ b) = lnT a ++ lnT b := List.flatMap_append
theorem lnT_cons (a : Str) (b : List Str) : lnT (a :: b) = (TL.tl a ++ [10]) ++ lnT b := List.flatMap_cons
theorem ta_nl {l : Str} {s : SH} (h : TP l s) : TkA (TL.tl l ++ [10]) s := by
  have := TkP.app h ⟨10, [], rfl, by decide +kernel⟩ (TkA.lit (w := [10]) (by decide +kernel))
  rwa [show shLit [10] = [] by decide +kernel, List.append_nil] at this
theorem ta_flat {f : St → List Str} {g : St → SH} : ∀ {b : List St}, (∀ s ∈ b, TkA (lnT (f s)) (g s)) → TkA (lnT (b.flatMap f)) (b.flatMap g)
  | [], _ => TkA.nil
  | s :: r, h => by
    rw [List.flatMap_cons, List.flatMap_cons, lnT_app]
    exact (h s List.mem_cons_self).app (ta_flat fun x hx => h x (List.mem_cons_of_mem _ hx))
theorem ta_close : TA "}" [mk "}"] := TA.lt _ (by decide +kernel) (by decide +kernel)
theorem ta_back : TA "} " [mk "}"] := TA.lt _ (by decide +kernel) (by decide +kernel)
theorem ta_open : TA " {" [mk "{"] ∧ BG " {" := ⟨TA.lt _ (by decide +kernel) (by decide +kernel), ⟨32, [123], by decide +kernel, by decide +kernel⟩⟩
theorem ta_heads {f : List St → List Str} {g : List St → SH} {ind : Str} (hi : TA ind []) : ∀ {l : List HdS} {b : Bool}, (∀ h ∈ l, TP h.1 h.2.1 ∧ TkA (lnT (f h.2.2)) (g h.2.2)) → TkA (lnT (lnHs f ind b l)) (shHs g b l)
  | [], b, _ => by
    show TkA (lnT [ind ++ "}"]) _
    rw [lnT_cons, show lnT [] = [] from rfl, List.append_nil]
    exact ta_nl (TA.add hi ta_close).p
  | h :: r, b, hh => by
    have h1 := hh h List.mem_cons_self
    have ih := ta_heads (b := true) hi fun x hx => hh x (List.mem_cons_of_mem _ hx)
    show TkA (lnT (hdL ind b h.1 :: (f h.2.2 ++ lnHs f ind true r))) ((if b = true then [mk "}"] else []) ++ (h.2.1 ++ mk "{" :: (g h.2.2 ++ shHs g true r)))
    rw [lnT_cons, lnT_app]
    have hb : TA (if b = true then "} " else Str.empty) (if b = true then [mk "}"] else []) := by
      cases b with
      | true => exact ta_back
      | false => exact TA.empty
    have h0 := TP.add (TA.addP (TA.add hi hb) h1.1) ta_open.2 ta_open.1
    have h2 := (ta_nl h0.p).app (h1.2.app ih)
    simpa [hdL] using h2
theorem ind_add {ind : Str} (h : TA ind []) : TA (ind ++ "  ") [] := TA.add h (TA.lt _ (by decide +kernel) (s := []) (by decide +kernel))
theorem ta_lin : ∀ (n : Nat) {ind : Str} {s : St}, TA ind [] → gS s → TkA (lnT (linS n ind s)) (shS n s)
  | 0, _, _, _, _ => TkA.nil
  | n + 1, ind, s, hi, g => by
    unfold linS shS
    by_cases e : (headsS s).isEmpty = true
    · rw [if_pos e, if_pos e, lnT_cons, show lnT [] = [] from rfl, List.append_nil]
      exact ta_nl (TA.addP hi (tp_sim g (List.isEmpty_iff.mp e)))
    · rw [if_neg e, if_neg e]
      refine ta_heads hi fun h hm => ?_
      have := tp_heads g h hm
      exact ⟨this.1, ta_flat fun x hx => ta_lin n (ind_add hi) (gL_mem this.2 hx)⟩
structure GT (n : Nat) (t : Tr) : Prop where
  nm : t.names.length ≤ 2 ∧ ∀ x ∈ t.names, GN x
  kd : t.kinds.length ≤ 2 ∧ ∀ x ∈ t.kinds, GN x
  kp : t.keeps.length ≤ 1 ∧ ∀ e ∈ t.keeps, GE e
  fn : t.fns.length ≤ 3 ∧ ∀ f ∈ t.fns, GN f.name ∧ (f.ps.length ≤ 2 ∧ ∀ p ∈ f.ps, GN p.1) ∧ gL f.b ∧ dpB f.b ≤ n
  sz : (t.fns.map fun f => szB f.b).sum ≤ 33
theorem tp_par {p : Str × Bool} (h : GN p.1) : TP (parS p) (shPar p) := by
  unfold parS shPar
  cases p.2 with
  | true => exact TA.addP ta_amp (TkP.name h.1)
  | false => exact TkP.name h.1
theorem ta_fn {n : Nat} {f : Fn} (h1 : GN f.name) (h2 : ∀ p ∈ f.ps, GN p.1) (h3 : gL f.b) : TkA (lnT (fnL n f)) (shF n f) := by
  unfold fnL shF
  rw [lnT_cons, lnT_app, show lnT [("}" : Str)] = TL.tl "}" ++ [10] by rw [lnT_cons, show lnT [] = [] from rfl, List.append_nil]]
  have e : TA ") {" [mk ")", mk "{"] ∧ BG ") {" := ⟨TA.lt _ (by decide +kernel) (by decide +kernel), ⟨41, [32, 123], by decide +kernel, by decide +kernel⟩⟩
  have h := TP.add (TA.addP (TP.add (TA.addP (ta_lead (z := "def ") (x := "def") (by decide +kernel) (by decide +kernel)) (TkP.name h1.1)) ta_par.2 ta_par.1) (tp_join fun p hp => tp_par (h2 p hp))) e.2 e.1
  have hb : TkA (lnT (linB n "  " f.b)) (shB n f.b) := ta_flat fun s hs => ta_lin n (TA.lt "  " (by decide +kernel) (s := []) (by decide +kernel)) (gL_mem h3 hs)
  have := (ta_nl h.p).app (hb.app (ta_nl ta_close.p))
  simpa using this
theorem ta_row {z x : Str} (hx : x ∈ KWS) (e : x ++ " " = z) {ns : List Str} (h : ∀ n ∈ ns, GN n) : TkA (lnT (rowL z ns)) (shRow x ns) := by
  unfold rowL shRow
  split
  · exact TkA.nil
  · rw [lnT_cons, show lnT [] = [] from rfl, List.append_nil]
    exact ta_nl (TA.addP (ta_lead hx e) (tp_row h))
theorem ta_map {α : Type} {f : α → List Str} {g : α → SH} : ∀ {b : List α}, (∀ s ∈ b, TkA (lnT (f s)) (g s)) → TkA (lnT (b.flatMap f)) (b.flatMap g)
  | [], _ => TkA.nil
  | s :: r, h => by
    rw [List.flatMap_cons, List.flatMap_cons, lnT_app]
    exact (h s List.mem_cons_self).app (ta_map fun x hx => h x (List.mem_cons_of_mem _ hx))
theorem ta_tree {n : Nat} {t : Tr} (h : GT n t) : TkA (lnT (treeL n t)) (shT n t) := by
  unfold treeL shT
  rw [lnT_app, lnT_app, lnT_app]
  refine TkA.app (ta_row (by decide +kernel) (by decide +kernel) h.nm.2) (TkA.app (ta_row (by decide +kernel) (by decide +kernel) h.kd.2) (TkA.app ?_ (ta_map fun f hf => ta_fn (h.fn.2 f hf).1 (h.fn.2 f hf).2.1.2 (h.fn.2 f hf).2.2.1)))
  have e : t.keeps.map (fun e => "keep " ++ exprZ e.c e.ts) = t.keeps.flatMap fun e => ["keep " ++ exprZ e.c e.ts] := by rw [List.map_eq_flatMap]
  rw [e]
  refine ta_map fun e he => ?_
  rw [lnT_cons, show lnT [] = [] from rfl, List.append_nil]
  exact ta_nl (TA.addP (ta_lead (x := "keep") (by decide +kernel) (by decide +kernel)) (tp_expr (h.kp.2 e he)))
theorem tl_text (n : Nat) (t : Tr) : TL.tl (textS n t) = lnT (treeL n t) := by
  unfold textS
  rw [TL.join_eq, TL.tl_join, show TL.tl ("" : Str) = [] from rfl, List.map_map]
  have : ∀ ls : List Str, TL.joinL [] (ls.map (TL.tl ∘ fun l => l ++ "\n")) = lnT ls := fun ls => by
    induction ls with
    | nil => rfl
    | cons a r ih =>
      have e : TL.tl (a ++ "\n") = TL.tl a ++ [10] := by rw [TL.tl_append]; rfl
      cases r with
      | nil =>
        show TL.tl (a ++ "\n") = _
        rw [e, lnT_cons, show lnT [] = [] from rfl, List.append_nil]
      | cons b r =>
        show TL.tl (a ++ "\n") ++ ([] ++ TL.joinL [] _) = _
        rw [lnT_cons, e, List.nil_append]
        exact congrArg _ ih
  exact this _
theorem tk_text {n : Nat} {t : Tr} (h : GT n t) : Tkw (TL.tl (textS n t)) (shT n t ++ [((("end", "") : Str × Str))]) := by
  rw [tl_text]
  have := ta_tree h [] _ .nil
  rwa [List.append_nil] at this

theorem hd_g : ∀ {h : Hd}, gH h → (h.ks ≠ [] ∧ GNs h.ks) ∧ gL h.b
  | .mk _ _, g => g
theorem sum_memZ {l : List Nat} {x : Nat} (h : x ∈ l) : x ≤ l.sum := by
  induction l with
  | nil => cases h
  | cons a r ih =>
    rw [List.sum_cons]
    rcases List.mem_cons.mp h with z | z
    · omega
    · have := ih z
      omega
theorem sz_hs3 : ∀ {hs : List Hd} {h : Hd}, h ∈ hs → szB h.b ≤ szHs hs
  | .mk ks b :: r, h, hm => by
    show szB h.b ≤ szB b + szHs r
    rcases List.mem_cons.mp hm with z | z
    · rw [z]; exact Nat.le_add_right _ _
    · exact Nat.le_trans (sz_hs3 z) (Nat.le_add_left _ _)
theorem hdD_eq : ∀ h : Hd, hdD h = .tuple [nmD h.ks, blD h.b]
  | .mk _ _ => rfl
theorem sep_cons {x : SH} {l : List SH} : sepH (x :: l) = x ++ (l.flatMap fun s => mk "," :: s) := by
  induction l generalizing x with
  | nil => show x = x ++ []; rw [List.append_nil]
  | cons y r ih =>
    show x ++ mk "," :: sepH (y :: r) = _
    rw [ih, List.flatMap_cons]
    rfl
theorem szB_len : ∀ b : List St, b.length ≤ szB b
  | [] => Nat.le_refl _
  | s :: r => by
    have := szB_len r
    show r.length + 1 ≤ 1 + szS s + szB r
    omega
theorem nm_dp {K : PySem.W.Frag} {H : Hp} {p : Addr} {ns : List Str} (h : H p = some (.tup (ns.map V.str))) : Dp K H (.ref p) (nmD ns) := .tup (SqT.of h) (by
  clear h
  induction ns with
  | nil => exact .nil
  | cons n r ih => exact .cons (.str _) ih)
theorem none_same {H H' : Hp} (s : Same H H') {a : Addr} (h : H' a = none) : H a = none := by
  cases e : H a with
  | none => rfl
  | some o => rw [s _ _ e] at h; cases h
theorem bb_abs : bootBuiltins "abs" = some (.builtin "abs") := by decide +kernel

/-! ### k03k, the plain part -/
theorem GE.fac {e : Ex} (g : GE e) : FacOk e.ts ∧ e.c.natAbs < 2 ^ 64 := ⟨⟨Nat.le_trans g.ln (by decide), fun p hp => ⟨Nat.le_trans (g.nm p hp).2.1 (by decide), Nat.lt_of_lt_of_le (g.nm p hp).2.2.2 (by decide)⟩⟩, Nat.lt_of_lt_of_le g.c (by decide)⟩
theorem arg_len {a : Arg} (g : GA a) : (argS a).length ≤ 80 := by
  cases a with
  | place n =>
    have l : ("&" : Str).length = 1 := by decide +kernel
    have := (show GN n from g).2
    show ("&" ++ n).length ≤ 80
    rw [len_add, l]
    omega
  | value e => exact expr_len g
theorem joins_len {ys : List Str} {m : Nat} (h : ∀ y ∈ ys, y.length ≤ m) : (ys.map (·.length)).sum + ys.length * (", " : Str).length ≤ ys.length * (m + 2) := by
  have := sum_len h
  have l : (", " : Str).length = 2 := by decide +kernel
  rw [l, Nat.mul_add]
  omega
theorem call_len {c : Cal} (g : GC c) : (callS c).length ≤ 170 := by
  unfold callS
  have l1 : ("(" : Str).length = 1 := by decide +kernel
  have l2 : (")" : Str).length = 1 := by decide +kernel
  have := join_len ", " (c.2.map argS)
  have hj := joins_len (ys := c.2.map argS) (m := 80) fun y hy => by
    obtain ⟨a, ha, rfl⟩ := List.mem_map.mp hy
    exact arg_len (g.2.2 a ha)
  rw [List.length_map] at hj
  have := g.2.1
  have := g.1.2
  have h3 : c.2.length * 82 ≤ 164 := by omega
  rw [len_add, len_add, len_add, l1, l2]
  have h4 := join_len ", " (c.2.map argS)
  rw [List.length_map] at h4
  omega
theorem nms_len {ns : List Str} (g : GNs ns) : (nmsS ns).length ≤ 15 := by
  unfold nmsS
  have hj := joins_len (ys := ns) (m := 3) fun y hy => (g.2 y hy).2
  have h4 := join_len ", " ns
  have := g.1
  omega
section
variable {P : Program} {w : World} {K : PySem.W.Frag} {mg : Str → Option Value} {base : Heap} {C : Addr}
end

/-! ### k03l, the plain part -/
theorem nm_inv {K : PySem.W.Frag} {H : Hp} {v : V} {ns : List Str} (h : Dp K H v (nmD ns)) : ∃ a, v = .ref a ∧ SqT K H a (ns.map V.str) := by
  obtain ⟨a, xs, rfl, hq, hd⟩ := h.tupInv
  have e : ∀ {xs : List V} {ns : List Str}, DpAll K H xs (ns.map PyData.str) → xs = ns.map V.str := fun {xs ns} => by
    induction ns generalizing xs with
    | nil => intro h; cases h; rfl
    | cons n r ih =>
      intro h
      obtain ⟨x, l, rfl, h1, h2⟩ := DpAll.consInv h
      rw [h1.strInv, ih h2]
      rfl
  rw [e hd] at hq
  exact ⟨a, rfl, hq⟩
theorem sep2 : (", " : Str).length = 2 := by decide +kernel
theorem nms_sum {ns : List Str} (g : GNs ns) : (ns.map (·.length)).sum + ns.length * (", " : Str).length ≤ 15 := by
  have hj := joins_len (ys := ns) (m := 3) fun y hy => (g.2 y hy).2
  have := g.1
  omega
section
variable {P : Program} {w : World} {K : PySem.W.Frag} {mg : Str → Option Value} {base : Heap} {C : Addr}
end

/-! ### k03m, the plain part -/
section
variable {P : Program} {w : World} {K : PySem.W.Frag} {mg : Str → Option Value} {base : Heap} {C : Addr}
end

/-! ### k03n, the plain part -/
theorem sim_len {s : St} (g : gS s) : (simS s).length ≤ 200 := by
  have l3 : (" = " : Str).length = 3 := by decide +kernel
  have l4 : (" = ?" : Str).length = 4 := by decide +kernel
  have l5 : ("risk " : Str).length = 5 := by decide +kernel
  have l6 : ("raise " : Str).length = 6 := by decide +kernel
  have l7 : ("return " : Str).length = 7 := by decide +kernel
  have l0 : ("" : Str).length = 0 := by decide +kernel
  cases s with
  | set t e =>
    have := g.1.2
    have := expr_len g.2
    show (t ++ " = " ++ exprZ e.c e.ts).length ≤ 200
    rw [len_add, len_add, l3]
    omega
  | input t =>
    have := (show GN t from g).2
    show (t ++ " = ?").length ≤ 200
    rw [len_add, l4]
    omega
  | call t f as =>
    have := call_len g.2
    cases t with
    | none => show (callS (f, as)).length ≤ 200; omega
    | some t =>
      have := (g.1 t rfl).2
      show (t ++ " = " ++ callS (f, as)).length ≤ 200
      rw [len_add, len_add, l3]
      omega
  | risk ks =>
    have := nms_len g.2
    show ("risk " ++ nmsS ks).length ≤ 200
    rw [len_add, l5]
    omega
  | raise k =>
    have := (show GN k from g).2
    show ("raise " ++ k).length ≤ 200
    rw [len_add, l6]
    omega
  | ret e =>
    have := expr_len (show GE e from g)
    show ("return " ++ exprZ e.c e.ts).length ≤ 200
    rw [len_add, l7]
    omega
  | _ => show ("" : Str).length ≤ 200; rw [l0]; decide
theorem head_len {s : St} (g : gS s) : ∀ h ∈ headsS s, h.1.length ≤ 400 := by
  intro h hm
  have e1 : ("if" : Str).length = 2 ∧ ("else" : Str).length = 4 ∧ ("while" : Str).length = 5 ∧ ("try" : Str).length = 3 ∧ ("finally" : Str).length = 7 := by decide +kernel
  have e2 : ("except " : Str).length = 7 ∧ ("undo " : Str).length = 5 ∧ ("with " : Str).length = 5 ∧ (" swallow " : Str).length = 9 ∧ (", " : Str).length = 2 := by decide +kernel
  obtain ⟨a1, a2, a3, a4, a5⟩ := e1
  obtain ⟨b1, b2, b3, b4, b5⟩ := e2
  cases s with
  | ite a b =>
    unfold headsS at hm
    rcases List.mem_cons.mp hm with rfl | hm
    · show ("if" : Str).length ≤ 400; omega
    · split at hm
      · cases hm
      · rw [List.mem_singleton.mp hm]
        show ("else" : Str).length ≤ 400; omega
  | whl b =>
    rw [List.mem_singleton.mp hm]
    show ("while" : Str).length ≤ 400; omega
  | try_ b hs f =>
    have g : hs.length ≤ 2 ∧ gL b ∧ gHs hs ∧ gL f := g
    unfold headsS at hm
    rcases List.mem_cons.mp hm with rfl | hm
    · show ("try" : Str).length ≤ 400; omega
    rcases List.mem_append.mp hm with hm | hm
    · obtain ⟨x, hx, rfl⟩ := List.mem_map.mp hm
      have := nms_len (hd_g (gHs_mem g.2.2.1 hx)).1.2
      show ("except " ++ nmsS x.ks).length ≤ 400
      rw [len_add]
      omega
    · split at hm
      · cases hm
      · rw [List.mem_singleton.mp hm]
        show ("finally" : Str).length ≤ 400; omega
  | undo ns b =>
    have g : (ns ≠ [] ∧ GNs ns) ∧ gL b := g
    rw [List.mem_singleton.mp hm]
    have := nms_len g.1.2
    show ("undo " ++ nmsS ns).length ≤ 400
    rw [len_add]
    omega
  | with_ e l ks b =>
    have g : GC e ∧ GC l ∧ GNs ks ∧ gL b := g
    rw [List.mem_singleton.mp hm]
    have := call_len g.1
    have := call_len g.2.1
    have := nms_len g.2.2.1
    show (("with " ++ callS e ++ ", " ++ callS l) ++ (if ks.isEmpty = true then Str.empty else " swallow " ++ nmsS ks)).length ≤ 400
    have l0 : Str.empty.length = 0 := rfl
    split
    · rw [len_add, len_add, len_add, len_add, l0]
      omega
    · rw [len_add, len_add, len_add, len_add, len_add]
      omega
  | set t e => cases hm
  | input t => cases hm
  | call t f as => cases hm
  | risk ks => cases hm
  | raise k => cases hm
  | ret e => cases hm
theorem heads_dp {s : St} : ∀ h ∈ headsS s, dpB h.2.2 ≤ dpS s := by
  intro h hm
  cases s with
  | ite a b =>
    have d : dpS (.ite a b) = max (dpB a) (dpB b) := rfl
    unfold headsS at hm
    rcases List.mem_cons.mp hm with rfl | hm
    · show dpB a ≤ _; omega
    · split at hm
      · cases hm
      · rw [List.mem_singleton.mp hm]
        show dpB b ≤ _; omega
  | whl b => rw [List.mem_singleton.mp hm]; exact Nat.le_refl _
  | try_ b hs f =>
    have d : dpS (.try_ b hs f) = max (dpB b) (max (dpHs hs) (dpB f)) := rfl
    unfold headsS at hm
    rcases List.mem_cons.mp hm with rfl | hm
    · show dpB b ≤ _; omega
    rcases List.mem_append.mp hm with hm | hm
    · obtain ⟨x, hx, rfl⟩ := List.mem_map.mp hm
      have := dp_hs (hs := hs) (List.mem_map.mpr ⟨x, hx, rfl⟩)
      show dpB x.b ≤ _
      omega
    · split at hm
      · cases hm
      · rw [List.mem_singleton.mp hm]
        show dpB f ≤ _; omega
  | undo ns b => rw [List.mem_singleton.mp hm]; exact Nat.le_refl _
  | with_ e l ks b => rw [List.mem_singleton.mp hm]; exact Nat.le_refl _
  | set t e => cases hm
  | input t => cases hm
  | call t f as => cases hm
  | risk ks => cases hm
  | raise k => cases hm
  | ret e => cases hm
theorem heads_sz {l : List HdS} {h : HdS} (hm : h ∈ l) : szB h.2.2 ≤ (l.map fun h => szB h.2.2).sum := sum_memZ (List.mem_map.mpr ⟨h, hm, rfl⟩)
theorem str_emp : ("" : Str) = Str.empty := TL.ext_tl rfl
theorem hs_sum : ∀ hs : List Hd, (hs.map fun h => szB h.b).sum = szHs hs
  | [] => rfl
  | .mk ks b :: r => by
    rw [List.map_cons, List.sum_cons, hs_sum r]
    rfl
theorem heads_cnt {s : St} (g : gS s) : (headsS s).length ≤ 4 ∧ ((headsS s).map fun h => szB h.2.2).sum ≤ szS s := by
  cases s with
  | ite a b =>
    have e : headsS (.ite a b) = (("if", [mk "if"], a) : HdS) :: (if b.isEmpty = true then [] else [(("else", [mk "else"], b) : HdS)]) := rfl
    rw [e]
    by_cases q : b.isEmpty = true
    · rw [if_pos q]
      exact ⟨by show 1 ≤ 4; decide, by show szB a + 0 ≤ szB a + szB b; omega⟩
    · rw [if_neg q]
      exact ⟨by show 2 ≤ 4; decide, by show szB a + (szB b + 0) ≤ szB a + szB b; omega⟩
  | whl b => exact ⟨by show 1 ≤ 4; decide, by show szB b + 0 ≤ szB b; omega⟩
  | try_ b hs f =>
    have g : hs.length ≤ 2 ∧ gL b ∧ gHs hs ∧ gL f := g
    have e := hs_sum hs
    have e0 : headsS (.try_ b hs f) = (("try", [mk "try"], b) : HdS) :: (hs.map excH ++ (if hs.isEmpty = false ∧ f.isEmpty = true then [] else [(("finally", [mk "finally"], f) : HdS)])) := rfl
    rw [e0]
    constructor
    · rw [List.length_cons, List.length_append, List.length_map]
      split
      · show hs.length + 0 + 1 ≤ 4; omega
      · show hs.length + 1 + 1 ≤ 4; omega
    · rw [List.map_cons, List.map_append, List.sum_cons, List.sum_append, List.map_map]
      have e2 : (hs.map ((fun h : HdS => szB h.2.2) ∘ excH)) = hs.map fun h => szB h.b := rfl
      rw [e2, e]
      show szB b + (szHs hs + _) ≤ szB b + (szHs hs + szB f)
      split
      · show szB b + (szHs hs + 0) ≤ _; omega
      · show szB b + (szHs hs + (szB f + 0)) ≤ _; omega
  | undo ns b => exact ⟨by show 1 ≤ 4; decide, by show szB b + 0 ≤ szB b; omega⟩
  | with_ e l ks b => exact ⟨by show 1 ≤ 4; decide, by show szB b + 0 ≤ szB b; omega⟩
  | set t e => exact ⟨Nat.zero_le _, Nat.le_refl _⟩
  | input t => exact ⟨Nat.zero_le _, Nat.le_refl _⟩
  | call t f as => exact ⟨Nat.zero_le _, Nat.le_refl _⟩
  | risk ks => exact ⟨Nat.zero_le _, Nat.le_refl _⟩
  | raise k => exact ⟨Nat.zero_le _, Nat.le_refl _⟩
  | ret e => exact ⟨Nat.zero_le _, Nat.le_refl _⟩
theorem lnHs_len (f : List St → List Str) (ind : Str) : ∀ (l : List HdS) (b : Bool), (∀ h ∈ l, (f h.2.2).length ≤ 5 * szB h.2.2) → (lnHs f ind b l).length ≤ 1 + l.length + 5 * (l.map fun h => szB h.2.2).sum
  | [], _, _ => Nat.le_refl _
  | h :: r, b, hh => by
    have ih := lnHs_len f ind r true fun x hx => hh x (List.mem_cons_of_mem _ hx)
    have h1 := hh h List.mem_cons_self
    show (hdL ind b h.1 :: (f h.2.2 ++ lnHs f ind true r)).length ≤ _
    rw [List.length_cons, List.length_append, List.length_cons, List.map_cons, List.sum_cons]
    omega
theorem flat_cnt {f : St → List Str} : ∀ {b : List St}, (∀ s ∈ b, (f s).length ≤ 5 * (1 + szS s)) → (b.flatMap f).length ≤ 5 * szB b
  | [], _ => Nat.zero_le _
  | s :: r, h => by
    have ih := flat_cnt (b := r) fun x hx => h x (List.mem_cons_of_mem _ hx)
    have h1 := h s List.mem_cons_self
    rw [List.flatMap_cons, List.length_append]
    show _ ≤ 5 * (1 + szS s + szB r)
    omega
theorem lin_cnt : ∀ (n : Nat) {ind : Str} {s : St}, gS s → (linS n ind s).length ≤ 5 * (1 + szS s)
  | 0, _, _, _ => Nat.zero_le _
  | n + 1, ind, s, g => by
    unfold linS
    split
    · show 1 ≤ _; omega
    · have := heads_cnt g
      have := lnHs_len (fun b => b.flatMap (linS n (ind ++ "  "))) ind (headsS s) false fun h hm => flat_cnt fun x hx => lin_cnt n (gL_mem (tp_heads g h hm).2 hx)
      omega
theorem linB_cnt {n : Nat} {ind : Str} {b : List St} (g : gL b) : (linB n ind b).length ≤ 5 * szB b := flat_cnt fun x hx => lin_cnt n (gL_mem g hx)
theorem hdL_len {ind : Str} {b : Bool} {h : Str} (hl : h.length ≤ 400) : (hdL ind b h).length ≤ ind.length + 404 := by
  unfold hdL
  have l1 : ("} " : Str).length = 2 := by decide +kernel
  have l2 : (" {" : Str).length = 2 := by decide +kernel
  have l0 : Str.empty.length = 0 := rfl
  rw [len_add, len_add, len_add, l2]
  split
  · omega
  · omega
theorem lnHs_str {f : List St → List Str} {ind : Str} {m : Nat} (hm : ind.length + 404 ≤ m) : ∀ {l : List HdS} {b : Bool}, (∀ h ∈ l, h.1.length ≤ 400 ∧ ∀ x ∈ f h.2.2, x.length ≤ m) → ∀ x ∈ lnHs f ind b l, x.length ≤ m
  | [], _, _, x, hx => by
    rw [List.mem_singleton.mp hx, len_add]
    have l1 : ("}" : Str).length = 1 := by decide +kernel
    omega
  | h :: r, b, hh, x, hx => by
    have h1 := hh h List.mem_cons_self
    rcases List.mem_cons.mp (show x ∈ hdL ind b h.1 :: (f h.2.2 ++ lnHs f ind true r) from hx) with rfl | hx
    · exact Nat.le_trans (hdL_len h1.1) hm
    rcases List.mem_append.mp hx with hx | hx
    · exact h1.2 x hx
    · exact lnHs_str hm (fun y hy => hh y (List.mem_cons_of_mem _ hy)) x hx
theorem two_len : ("  " : Str).length = 2 := by decide +kernel
theorem lin_str : ∀ (n : Nat) {ind : Str} {s : St} {m : Nat}, gS s → ind.length + 2 * n + 404 ≤ m → ∀ x ∈ linS n ind s, x.length ≤ m
  | 0, _, _, _, _, _, x, hx => nomatch hx
  | n + 1, ind, s, m, g, hm, x, hx => by
    unfold linS at hx
    split at hx
    · rw [List.mem_singleton.mp hx, len_add]
      have := sim_len g
      omega
    · refine lnHs_str (by omega) (fun h hh => ⟨head_len g h hh, fun y hy => ?_⟩) x hx
      obtain ⟨st, hst, hy⟩ := List.mem_flatMap.mp hy
      exact lin_str n (gL_mem (tp_heads g h hh).2 hst) (by rw [len_add, two_len]; omega) y hy
theorem small10 {n : Nat} (h : n ≤ 10000) : n < sizeLine := Nat.lt_of_le_of_lt h (by decide)
structure TxEnu (mg : Str → Option Value) : Prop where
  n_enumerate : mg "enumerate" = none
section
variable {P : Program} {w : World} {K : PySem.W.Frag} {mg : Str → Option Value} {base : Heap} {C : Addr}
end

/-! ### k03o, the plain part -/
theorem par_len {p : Str × Bool} (h : GN p.1) : (parS p).length ≤ 4 := by
  have l : ("&" : Str).length = 1 := by decide +kernel
  have := h.2
  unfold parS
  split
  · rw [len_add, l]; omega
  · omega
theorem pars_sum {ps : List (Str × Bool)} (h : ps.length ≤ 2 ∧ ∀ p ∈ ps, GN p.1) : ((ps.map parS).map (·.length)).sum + (ps.map parS).length * (", " : Str).length ≤ 12 := by
  have hj := joins_len (ys := ps.map parS) (m := 4) fun y hy => by
    obtain ⟨p, hp, rfl⟩ := List.mem_map.mp hy
    exact par_len (h.2 p hp)
  have := h.1
  rw [List.length_map] at hj ⊢
  omega
def fnHead (f : Fn) : Str := "def " ++ f.name ++ "(" ++ Txt.join ", " (f.ps.map parS) ++ ") {"
theorem fnHead_len {f : Fn} (h1 : GN f.name) (h2 : f.ps.length ≤ 2 ∧ ∀ p ∈ f.ps, GN p.1) : (fnHead f).length ≤ 40 := by
  have l4 : ("def " : Str).length = 4 := by decide +kernel
  have l1 : ("(" : Str).length = 1 := by decide +kernel
  have l3 : (") {" : Str).length = 3 := by decide +kernel
  have := h1.2
  have h4 := join_len ", " (f.ps.map parS)
  have h5 := pars_sum h2
  unfold fnHead
  rw [len_add, len_add, len_add, len_add, l4, l1, l3]
  omega
theorem row_len {ns : List Str} (h : ns.length ≤ 2 ∧ ∀ x ∈ ns, GN x) : (ns.map (·.length)).sum + ns.length * (" " : Str).length ≤ 8 := by
  have l : (" " : Str).length = 1 := by decide +kernel
  have := sum_len (ys := ns) (n := 3) fun y hy => (h.2 y hy).2
  have := h.1
  rw [l]
  omega
theorem tree_str {n : Nat} {t : Tr} (g : GT n t) (hn : n ≤ 30) : ∀ l ∈ treeL n t, l.length ≤ 600 := by
  intro l hl
  have g8 : ("globals " : Str).length = 8 := by decide +kernel
  have k6 : ("kinds " : Str).length = 6 := by decide +kernel
  have k5 : ("keep " : Str).length = 5 := by decide +kernel
  have c1 : ("}" : Str).length = 1 := by decide +kernel
  unfold treeL rowL at hl
  rcases List.mem_append.mp hl with hl | hl
  · split at hl
    · cases hl
    · rw [List.mem_singleton.mp hl, len_add, g8]
      have := join_len " " t.names
      have := row_len g.nm
      omega
  rcases List.mem_append.mp hl with hl | hl
  · split at hl
    · cases hl
    · rw [List.mem_singleton.mp hl, len_add, k6]
      have := join_len " " t.kinds
      have := row_len g.kd
      omega
  rcases List.mem_append.mp hl with hl | hl
  · obtain ⟨e, he, rfl⟩ := List.mem_map.mp hl
    rw [len_add, k5]
    have := expr_len (g.kp.2 e he)
    omega
  obtain ⟨f, hf, hl⟩ := List.mem_flatMap.mp hl
  have gf := g.fn.2 f hf
  rcases List.mem_cons.mp (show l ∈ fnHead f :: (linB n "  " f.b ++ [("}" : Str)]) from hl) with rfl | hl
  · exact Nat.le_trans (fnHead_len gf.1 gf.2.1) (by decide)
  rcases List.mem_append.mp hl with hl | hl
  · obtain ⟨s, hs, hl⟩ := List.mem_flatMap.mp hl
    exact lin_str n (gL_mem gf.2.2.1 hs) (by rw [two_len]; omega) l hl
  · rw [List.mem_singleton.mp hl, c1]
    decide
theorem fns_cnt {n : Nat} : ∀ l : List Fn, (∀ f ∈ l, gL f.b) → (l.flatMap (fnL n)).length ≤ 2 * l.length + 5 * (l.map fun f => szB f.b).sum
  | [], _ => Nat.zero_le _
  | f :: r, h => by
    have ih := fns_cnt (n := n) r fun x hx => h x (List.mem_cons_of_mem _ hx)
    have h1 := linB_cnt (n := n) (ind := "  ") (h f List.mem_cons_self)
    rw [List.flatMap_cons, List.length_append, List.map_cons, List.sum_cons, List.length_cons]
    have : (fnL n f).length = (linB n "  " f.b).length + 1 + 1 := by
      show (fnHead f :: (linB n "  " f.b ++ [("}" : Str)])).length = _
      rw [List.length_cons, List.length_append]
      rfl
    omega
theorem tree_cnt {n : Nat} {t : Tr} (g : GT n t) : (treeL n t).length ≤ 200 := by
  have h1 := fns_cnt (n := n) t.fns fun f hf => (g.fn.2 f hf).2.2.1
  have := g.sz
  have := g.fn.1
  have := g.kp.1
  have r : ∀ z ns, (rowL z ns).length ≤ 1 := fun z ns => by
    unfold rowL
    split
    · exact Nat.zero_le _
    · exact Nat.le_refl _
  have := r "globals " t.names
  have := r "kinds " t.kinds
  unfold treeL
  rw [List.length_append, List.length_append, List.length_append, List.length_map]
  omega
theorem text_len {n : Nat} {t : Tr} (g : GT n t) (hn : n ≤ 30) : (((treeL n t).map fun l => l ++ ("\n" : Str)).map (·.length)).sum + ((treeL n t).map fun l => l ++ ("\n" : Str)).length * ("" : Str).length ≤ 121000 ∧ (textS n t).length ≤ 121000 := by
  have l1 : ("\n" : Str).length = 1 := by decide +kernel
  have l0 : ("" : Str).length = 0 := by decide +kernel
  have hs := sum_len (ys := (treeL n t).map fun l => l ++ ("\n" : Str)) (n := 601) fun y hy => by
    obtain ⟨l, hl, rfl⟩ := List.mem_map.mp hy
    rw [len_add, l1]
    have := tree_str g hn l hl
    omega
  have hc := tree_cnt g
  have hj := join_len "" ((treeL n t).map fun l => l ++ ("\n" : Str))
  rw [List.length_map] at hs
  have : (treeL n t).length * 601 ≤ 200 * 601 := Nat.mul_le_mul_right _ hc
  refine ⟨?_, ?_⟩
  · rw [l0]
    omega
  · unfold textS
    rw [l0] at hj
    omega
section
variable {P : Program} {w : World} {K : PySem.W.Frag} {mg : Str → Option Value} {base : Heap} {C : Addr}
theorem row_step {K : PySem.W.Frag} {z : Str} {ns : List Str} (e : ns.isEmpty = false) : rowL z ns = [z ++ Txt.join " " ns] := if_neg (by rw [e]; exact Bool.false_ne_true)
end


/-! ### lemmas of the hub that k03 wants -/
theorem strOk_name {n : Str} (h : isName n = true) : PyData.strOk n = true := by
  unfold PyData.strOk
  rw [← Array.all_toList, List.all_eq_true]
  intro c hc
  obtain ⟨c0, h0⟩ : ∃ c0, n.cps.toList[0]? = some c0 := by
    cases e : n.cps.toList with
    | nil => rw [e] at hc; cases hc
    | cons a r => exact ⟨a, rfl⟩
  rw [isName_at h0] at h
  simp only [Bool.and_eq_true] at h
  have q := List.all_eq_true.mp h.1.2 c hc
  unfold al at q
  simp only [Bool.or_eq_true, decide_eq_true_eq] at q
  have b1 : ∀ x ∈ LET.cps.toList, x < 200 := by decide +kernel
  have b2 : ∀ x ∈ DIG.cps.toList, x < 200 := by decide +kernel
  rcases q with q | q
  · have := b1 c q
    simp only [decide_eq_true_eq]
    omega
  · have := b2 c q
    simp only [decide_eq_true_eq]
    omega
theorem cut_take {xs : List V} {k : Nat} : cutV xs none (some (k : Int)) = xs.take k := by
  unfold cutV
  rw [HT.sIx_none, HT.sIx_nat, List.drop_zero]
  rw [Nat.sub_zero, List.take_eq_take_iff]
  omega
theorem cut_drop {xs : List V} {k : Nat} : cutV xs (some (k : Int)) none = xs.drop k := by
  unfold cutV
  rw [HT.sIx_none, HT.sIx_nat]
  rcases Nat.le_or_ge k xs.length with h | h
  · rw [Nat.min_eq_left h, List.take_of_length_le]
    rw [List.length_drop]
    exact Nat.le_refl _
  · rw [Nat.min_eq_right h, List.drop_of_length_le (Nat.le_refl _), List.drop_of_length_le h]
    simp

/-! ### wiped slots, without looking at the others -/
theorem wipe_hit {σ : L2.St} {i : Nat} : ∀ {vs : List Nat}, i ∈ vs → (wipe σ vs)[i]? = σ[i]?.map fun _ => none
  | v :: vs, h => by
    show ((wipe σ vs).set v none)[i]? = _
    rw [List.getElem?_set]
    by_cases e : v = i
    · subst e
      rw [if_pos rfl, wipe_length]
      by_cases hl : v < σ.length
      · rw [if_pos hl, List.getElem?_eq_getElem hl]; rfl
      · rw [if_neg hl, List.getElem?_eq_none (Nat.le_of_not_lt hl)]; rfl
    · rw [if_neg e]
      exact wipe_hit ((List.mem_cons.mp h).resolve_left fun z => e z.symm)
theorem wipe_in {σ : L2.St} {i : Nat} {x : Option V} {vs : List Nat} (h : i ∈ vs) : wipe (List.set σ i x) vs = wipe σ vs := by
  refine List.ext_getElem? fun j => ?_
  by_cases hj : j ∈ vs
  · rw [wipe_hit hj, wipe_hit hj, List.getElem?_set]
    by_cases e : i = j
    · subst e
      rw [if_pos rfl]
      by_cases hl : i < σ.length
      · rw [if_pos hl, List.getElem?_eq_getElem hl]; rfl
      · rw [if_neg hl, List.getElem?_eq_none (Nat.le_of_not_lt hl)]
    · rw [if_neg e]
  · rw [wipe_out hj, wipe_out hj, List.getElem?_set, if_neg (fun z : i = j => hj (by rw [← z]; exact h))]
theorem wipe_id {σ : L2.St} {vs : List Nat} : wipe (wipe σ vs) vs = wipe σ vs := by
  refine List.ext_getElem? fun j => ?_
  by_cases hj : j ∈ vs
  · rw [wipe_hit hj, wipe_hit hj]
    cases σ[j]? <;> rfl
  · rw [wipe_out hj]
theorem wipe1 {σ : L2.St} {i : Nat} {x : Option V} {vs : List Nat} (h : i ∈ vs) : wipe (List.set (wipe σ vs) i x) vs = wipe σ vs := (wipe_in h).trans wipe_id
theorem wipe2 {σ : L2.St} {i j : Nat} {x y : Option V} {vs : List Nat} (h : i ∈ vs) (h2 : j ∈ vs) : wipe (List.set (List.set (wipe σ vs) i x) j y) vs = wipe σ vs := (wipe_in h2).trans (wipe1 h)
theorem wipe3 {σ : L2.St} {i j k : Nat} {x y z : Option V} {vs : List Nat} (h : i ∈ vs) (h2 : j ∈ vs) (h3 : k ∈ vs) : wipe (List.set (List.set (List.set (wipe σ vs) i x) j y) k z) vs = wipe σ vs := (wipe_in h3).trans (wipe2 h h2)

/-! ### the law's pieces and blocks -/
abbrev sLPi : Stmt := topS 26
abbrev NLPi : List Str := ["_law_pool_here", "_law_env", "_law_depth", "_law_is_last", "_law_names_here", "_law_kinds", "_law_heads_here", "_law_choice", "_law_target", "_law_block_here", "_law_handlers", "_law_kind", "_law_first"]
abbrev PLPi : List Str := ["_law_pool_here", "_law_env", "_law_depth", "_law_is_last"]
theorem scLPi : FnScope NLPi PLPi (defScope sLPi) := ⟨rfl, rfl, rfl, by decide +kernel, rfl, by decide +kernel, by decide +kernel⟩
abbrev sLBk : Stmt := topS 27
abbrev NLBk : List Str := ["_law_pool_here", "_law_env", "_law_depth", "_law_is_last", "_law_found", "_law_k"]
abbrev PLBk : List Str := ["_law_pool_here", "_law_env", "_law_depth", "_law_is_last"]
theorem scLBk : FnScope NLBk PLBk (defScope sLBk) := ⟨rfl, rfl, rfl, by decide +kernel, rfl, by decide +kernel, by decide +kernel⟩
mutual
def wS (own kinds : List Str) (heads : List Head) (last : Bool) : St → Prop
  | .set t e => t ∈ own ∧ EX own e
  | .input t => t ∈ own
  | .raise k => k ∈ kinds
  | .risk ks => ks ≠ [] ∧ ks.length ≤ 2 ∧ ∀ k ∈ ks, k ∈ kinds
  | .call t f as => (∀ x, t = some x → x ∈ own) ∧ WC own heads (f, as)
  | .ret e => last = false ∧ EX own e
  | .ite a b => wL own kinds heads last a ∧ wL own kinds heads last b
  | .whl b => last = false ∧ wL own kinds heads false b
  | .try_ b hs f => last = false ∧ hs.length ≤ 2 ∧ wL own kinds heads false b ∧ wHs own kinds heads hs ∧ wL own kinds heads true f
  | .undo ns b => last = false ∧ (ns ≠ [] ∧ ns.length ≤ 3 ∧ ∀ n ∈ ns, n ∈ own) ∧ wL own kinds heads false b
  | .with_ e l ks b => last = false ∧ WC own heads e ∧ WC own heads l ∧ (ks.length ≤ 2 ∧ ∀ k ∈ ks, k ∈ kinds) ∧ wL own kinds heads false b
def wL (own kinds : List Str) (heads : List Head) (last : Bool) : List St → Prop
  | [] => True
  | s :: r => wS own kinds heads last s ∧ wL own kinds heads last r
def wH (own kinds : List Str) (heads : List Head) : Hd → Prop
  | .mk ks b => (ks ≠ [] ∧ ks.length ≤ 2 ∧ ∀ k ∈ ks, k ∈ kinds) ∧ wL own kinds heads false b
def wHs (own kinds : List Str) (heads : List Head) : List Hd → Prop
  | [] => True
  | h :: r => wH own kinds heads h ∧ wHs own kinds heads r
end
theorem wL_snoc {own kinds : List Str} {heads : List Head} {last : Bool} {s : St} (hs : wS own kinds heads last s) : ∀ {b : List St}, wL own kinds heads last b → wL own kinds heads last (b ++ [s])
  | [], _ => ⟨hs, trivial⟩
  | _ :: _, h => ⟨h.1, wL_snoc hs h.2⟩
theorem wHs_snoc {own kinds : List Str} {heads : List Head} {s : Hd} (hs : wH own kinds heads s) : ∀ {b : List Hd}, wHs own kinds heads b → wHs own kinds heads (b ++ [s])
  | [], _ => ⟨hs, trivial⟩
  | _ :: _, h => ⟨h.1, wHs_snoc hs h.2⟩
theorem szB_snoc {s : St} : ∀ b : List St, szB (b ++ [s]) = szB b + (1 + szS s)
  | [] => by show 1 + szS s + 0 = 0 + _; omega
  | x :: r => by show 1 + szS x + szB (r ++ [s]) = 1 + szS x + szB r + _; rw [szB_snoc r]; omega
theorem szHs_snoc {s : Hd} : ∀ b : List Hd, szHs (b ++ [s]) = szHs b + szH s
  | [] => by show szH s + 0 = 0 + _; omega
  | x :: r => by show szH x + szHs (r ++ [s]) = szH x + szHs r + _; rw [szHs_snoc r]; omega
theorem dpIn_snoc {s : St} : ∀ b : List St, dpIn (b ++ [s]) = max (dpIn b) (dpS s)
  | [] => by show max (dpS s) 0 = max 0 _; omega
  | x :: r => by show max (dpS x) (dpIn (r ++ [s])) = max (max (dpS x) (dpIn r)) _; rw [dpIn_snoc r]; omega
theorem dpHs_snoc {s : Hd} : ∀ b : List Hd, dpHs (b ++ [s]) = max (dpHs b) (dpH s)
  | [] => by show max (dpH s) 0 = max 0 _; omega
  | x :: r => by show max (dpH x) (dpHs (r ++ [s])) = max (max (dpH x) (dpHs r)) _; rw [dpHs_snoc r]; omega
/-- the most draws of a block -/
def cb : Nat → Nat
  | 0 => 0
  | m + 1 => 601 + 12 * cb m
def cp (m : Nat) : Nat := 200 + 4 * cb m
def Lim (bu : Nat) : V := .int (bu : Int)
def spLPi (K : PySem.W.Frag) (m : Nat) : Sp := fun vs H Q _ => ∃ (p c : Addr) (v : V) (n bu d : Nat) (last : Bool) (own kinds : List Str) (heads : List Head), vs = [.ref p, v, .int (d : Int), .bl last] ∧ PoolAt H p c (Lim bu) n ∧ n + cp m ≤ 900000000000 ∧ EnvAt K H p c v own kinds heads ∧ EnvOk own kinds heads ∧
  (last = false → 0 < d → d + 2 ≤ m) ∧ (last = true → d ≤ m) ∧
  ∀ (v : V) (s : St) (bu' : Nat) (H' : Hp), wS own kinds heads last s → dpS s ≤ m → szS s + bu' = bu → Dp K H' v (stD s) → PoolAt H' p c (Lim bu') (n + cp m) → But p c H H' → Q v H'
def spLBk (K : PySem.W.Frag) (m : Nat) : Sp := fun vs H Q _ => ∃ (p c : Addr) (v : V) (n bu d : Nat) (last : Bool) (own kinds : List Str) (heads : List Head), vs = [.ref p, v, .int (d : Int), .bl last] ∧ PoolAt H p c (Lim bu) n ∧ n + cb m ≤ 900000000000 ∧ EnvAt K H p c v own kinds heads ∧ EnvOk own kinds heads ∧
  (last = false → d + 3 ≤ m) ∧ (last = true → d + 1 ≤ m) ∧
  ∀ (v : V) (b : List St) (bu' : Nat) (H' : Hp), wL own kinds heads last b → b.length ≤ 3 → dpB b ≤ m → szB b + bu' = bu → Dp K H' v (blD b) → PoolAt H' p c (Lim bu') (n + cb m) → But p c H H' → Q v H'
theorem pool_lim {H : Hp} {p c : Addr} {bu : Nat} {n : Nat} (h : PoolAt H p c (Lim bu) n) : ∃ xs, H p = some (.lst xs) ∧ atI xs 5 = some (.int (bu : Int)) ∧ xs.length = 6 ∧ ∀ b2 : Nat, PoolAt (upd H p (.lst (xs.set 5 (Lim b2)))) p c (Lim b2) n := by
  obtain ⟨i, cs, cn, sd, md, e1, e2, e⟩ := h
  refine ⟨_, e1, rfl, rfl, fun b2 => ⟨i, cs, cn, sd, md, upd_same, ?_, e⟩⟩
  rw [upd_ne (pool_ne e1 e2).symm]
  exact e2
section
variable {P : Program} {w : World} {K : PySem.W.Frag} {mg : Str → Option Value} {base : Heap}
theorem ok_LBk {m : Nat} {f : Addr} {fd : FuncData} (F : Fun K "_law_block" "_law_block" sLBk f fd) (T : TxGen mg) (GD : Has P w K mg base CX0 2 "_law_draw" PDraw spDraw) (GP : Has P w K mg base CX0 (6 + 2 * m) "_law_piece" PLPi (spLPi K m)) : FnOk P w K mg base CX0 (6 + 2 * m + 1) f fd PLBk (spLBk K (m + 1)) := by
  refine F.ok scLBk (fun vs H Q E h => ?_) (fun cdv A outer s H vs Q E hr h => ?_)
  · obtain ⟨p, c, v, n, bu, d, last, own, kinds, heads, rfl, _⟩ := h
    rfl
  · obtain ⟨p, c, v, n, bu, d, last, own, kinds, heads, rfl, P0, hn, ev, ok, hf, ht, k⟩ := h
    have hr2 := hr.mono (j := 2) (by omega)
    have ecb : cb (m + 1) = 601 + 12 * cb m := rfl
    have ecp : cp m = 200 + 4 * cb m := rfl
    refine ⟨_, (pss_cons (ps_set (i := 4) scLBk.nd rfl (Or.inl rfl) (pe_lst pa_nil))
  (pss_cons (ps_for PassesOwn.never rfl (pi_range1 (by rfl) T.n_range (pa_cons (pe_callH GD hr2 rfl pass0 (pa_cons (pv 0) (pa_cons pe_int pa_nil))) pa_nil)) (pg_name (i := 5) scLBk.nd rfl (Or.inl rfl))
  (pss_one (ps_if (pt_cmpR op_gt (pe_ix (r := rIxL K) ix_list (pv 0) pe_int (fun _ _ => rfl)) pe_int (nomark _))
  (pss_cons (ps_asg (pe_op op_sub (pe_ix (r := rIxL K) ix_list (pv 0) pe_int (fun _ _ => rfl)) pe_int) (pg_sub (pv 0) pe_int set_list))
  (pss_one (ps_expr (pe_bm PySem.F.plainAttrs_list PySem.F.slot_list_append PySem.F.type_list_append mt_append (pv 4) (pa_cons (pe_callH GP hr rfl pass0 (pa_cons (pv 0) (pa_cons (pv 1) (pa_cons (pv 2) (pa_cons (pv 3) pa_nil))))) pa_nil)))))
  pss_nil)))
  (pss_one (ps_ret (pe_callTy call_tuple_of (by rfl) T.n_tuple bb_tuple (pa_cons (pv 4) pa_nil)))))), ?_⟩
    refine ⟨(by show 0 ≤ sizeLine; decide), fun q hq => ?_⟩
    have s1 := same_new (o := .lst []) hq
    have P1 := P0.same s1
    have qp := P0.ne1 hq
    have qc := P0.ne2 hq
    refine ⟨_, rfl, p, c, Lim bu, n, 4, rfl, P1, by omega, by decide, by decide, fun r H1 r0 r1 P2 b2 => ?_⟩
    have eq1 := b2 _ _ (upd_same (H := H)) qp qc
    have b3 := (But.of s1).trans b2
    have ev3 := ev.but b3 P0
    have lr : r.toNat ≤ 3 := by omega
    refine ⟨r, rfl, by omega, by omega, ?_⟩
    refine for_range (lo := 0) (n := r.toNat) (fun i σ H' => (∃ x5 : Option V, σ = [some (.ref p), some v, some (.int (d : Int)), some (.bl last), some (.ref q), x5]) ∧ EnvAt K H' p c v own kinds heads ∧ But p c H H' ∧ ∃ (us : List V) (b : List St) (bu' : Nat), PoolAt H' p c (Lim bu') (n + 1 + i * cp m) ∧ H' q = some (.lst us) ∧ us.length ≤ i ∧ Paired (fun x s => Dp K H' x (stD s)) us b ∧ wL own kinds heads last b ∧ dpIn b ≤ m ∧ szB b + bu' = bu)
      ⟨⟨_, rfl⟩, ev3, b3, [], [], bu, by rw [Nat.zero_mul]; exact P2, eq1, Nat.le_refl _, .nil, trivial, Nat.zero_le _, Nat.zero_add _⟩ ?_ ?_
    · rintro i σ H3 hi ⟨⟨x5, rfl⟩, ev4, b4, us, b, bu', P3, eq3, lu, pu, wl, db, sz⟩
      obtain ⟨xs, ep, e5, l6, upl⟩ := pool_lim P3
      have np : (n + 1 + i * cp m) + cp m = n + 1 + (i + 1) * cp m := by rw [Nat.succ_mul]; omega
      have nle : n + 1 + (i + 1) * cp m ≤ 900000000000 := by
        have : (i + 1) * cp m ≤ 3 * cp m := Nat.mul_le_mul_right _ (by omega)
        omega
      refine ⟨_, rfl, p, _, _, _, rfl, rfl, SqL.of ep, e5, _, _, rfl, rfl, _, rfl, ?_⟩
      by_cases hb : 0 < bu'
      · refine iteS (decide_eq_true (by omega)) ?_
        refine ⟨_, rfl, p, _, _, _, rfl, rfl, SqL.of ep, e5, _, _, rfl, rfl, ?_⟩
        refine ⟨_, rfl, p, xs, _, 5, rfl, rfl, ep, by rw [l6]; rfl, ?_⟩
        have P5 := upl (bu' - 1)
        rw [show Lim (bu' - 1) = V.int ((bu' : Int) - 1) by unfold Lim; congr 1; omega] at P5
        have pq : q ≠ p := qp
        have b5 : But p c H3 (upd H3 p (.lst (xs.set 5 (.int ((bu' : Int) - 1))))) := fun b o z h1 _ => by rw [upd_ne h1]; exact z
        have eq5 : upd H3 p (.lst (xs.set 5 (.int ((bu' : Int) - 1)))) q = some (.lst us) := by rw [upd_ne qp]; exact eq3
        have ev5 := ev4.but b5 P3
        have t5 := b5.tps P3
        generalize upd H3 p (.lst (xs.set 5 (.int ((bu' : Int) - 1)))) = H5 at *
        have P5 : PoolAt H5 p c (Lim (bu' - 1)) (n + 1 + i * cp m) := by rw [show Lim (bu' - 1) = V.int ((bu' : Int) - 1) by unfold Lim; congr 1; omega]; exact P5
        refine ⟨_, rfl, .inl ⟨rfl, _, SqL.of eq5⟩, _, rfl, _, rfl, _, rfl, _, rfl, p, c, v, n + 1 + i * cp m, bu' - 1, d, last, own, kinds, heads, rfl, P5, by omega, ev5, ok, fun h _ => by have := hf h; omega, fun h => by have := ht h; omega, fun x st bu2 H6 ws ds sz2 dp P6 b6 => ?_⟩
        have eq6 := b6 _ _ eq5 qp qc
        refine ⟨q, _, _, rfl, rfl, eq6, small1000 (by omega), ?_⟩
        have t6 : Tps H6 (upd H6 q (.lst (us ++ [x]))) := Tps.lst eq6
        have b7 : But p c H6 (upd H6 q (.lst (us ++ [x]))) → But p c H (upd H6 q (.lst (us ++ [x]))) := fun b b' o z h1 h2 => b _ _ (b6 _ _ (b5 _ _ (b4 _ _ z h1 h2) h1 h2) h1 h2) h1 h2
        have b8 : But p c H (upd H6 q (.lst (us ++ [x]))) := fun b o z h1 h2 => by
          rw [upd_ne (ne_of_none z hq)]
          exact b6 _ _ (b5 _ _ (b4 _ _ z h1 h2) h1 h2) h1 h2
        refine ⟨⟨_, rfl⟩, ev.but b8 P0, b8, us ++ [x], b ++ [st], bu2, ?_, upd_same, by rw [List.length_append]; show us.length + 1 ≤ _; omega, ?_, wL_snoc ws wl, ?_, ?_⟩
        · rw [← np]
          exact P6.upd qp qc
        · exact Paired.snoc (Paired.mapP pu fun _ s z => Dp.tps (((t5.trans (b6.tps P5))).trans t6) z (noL_st s)) (Dp.tps t6 dp (noL_st st))
        · rw [dpIn_snoc]; exact Nat.max_le.mpr ⟨db, ds⟩
        · rw [szB_snoc]; omega
      · refine iteE (decide_eq_false (by omega)) ?_
        exact ⟨⟨_, rfl⟩, ev4, b4, us, b, bu', P3.mono (by omega), eq3, by omega, pu, wl, db, sz⟩
    · rintro σ H3 ⟨⟨x5, rfl⟩, ev4, b4, us, b, bu', P3, eq3, lu, pu, wl, db, sz⟩
      have n3 : r.toNat * cp m ≤ 3 * cp m := Nat.mul_le_mul_right _ lr
      refine ⟨_, rfl, q, us, rfl, .inl ⟨SqL.of eq3, fun l hl => ?_⟩⟩
      have s5 := same_new (o := .tup us) hl
      have lub := Paired.length pu
      have edb := dpB_eq b
      exact k _ b bu' _ wl (by omega) (by omega) sz (.tup (SqT.of upd_same) (by rw [stsD_map]; exact DpAll.ofPaired (Paired.mapP pu fun _ _ z => z.same s5))) ((P3.same s5).mono (by omega)) (fun b o z h1 h2 => s5 _ _ (b4 _ _ z h1 h2))
theorem cut_mem {xs : List V} {lo hi : Option Int} {x : V} (h : x ∈ cutV xs lo hi) : x ∈ xs := List.mem_of_mem_drop (List.mem_of_mem_take h)
theorem eqv_ne {d : PyData} {ds : List PyData} : PyData.eqv (.list (d :: ds)) (.list []) = false := by simp [PyData.eqv, PyData.eqvAll]
theorem shaped_hds {heads : List Head} (h : ∀ x ∈ heads, isName x.1 = true ∧ ∀ p ∈ x.2, isName p.1 = true) : SeqAt.shaped (.list (heads.map hdaD)) = true := by
  have l1 : ∀ ps : List (Str × Bool), (∀ p ∈ ps, isName p.1 = true) → PyData.canLayAll0 (ps.map prD) = true := fun ps => by
    induction ps with
    | nil => intro _; simp [PyData.canLayAll0]
    | cons x r ih =>
      intro h
      simp only [List.map_cons, PyData.canLayAll0, prD, PyData.canLay0, strOk_name (h x List.mem_cons_self), Bool.true_and]
      exact ih fun p hp => h p (List.mem_cons_of_mem _ hp)
  have d1 : ∀ ps : List (Str × Bool), PyData.depthAll (ps.map prD) ≤ 1 := fun ps => by
    induction ps with
    | nil => simp [PyData.depthAll]
    | cons x r ih => simp only [List.map_cons, PyData.depthAll, prD, PyData.depth]; omega
  have l2 : PyData.canLayAll0 (heads.map hdaD) = true := by
    induction heads with
    | nil => simp [PyData.canLayAll0]
    | cons x r ih =>
      obtain ⟨h1, h2⟩ := h x List.mem_cons_self
      simp only [List.map_cons, PyData.canLayAll0, hdaD, PyData.canLay0, strOk_name h1, l1 x.2 h2, Bool.true_and, Bool.and_true]
      exact ih fun p hp => h p (List.mem_cons_of_mem _ hp)
  have d2 : PyData.depthAll (heads.map hdaD) ≤ 3 := by
    clear l2 h
    induction heads with
    | nil => simp [PyData.depthAll]
    | cons x r ih =>
      have := d1 x.2
      simp only [List.map_cons, PyData.depthAll, hdaD, PyData.depth]
      omega
  unfold SeqAt.shaped
  simp only [PyData.canLay0, PyData.depth, l2, Bool.true_and]
  exact decide_eq_true (by omega)
theorem dpAll_strs {K : PySem.W.Frag} {H : Hp} : ∀ l : List Str, DpAll K H (l.map V.str) (l.map PyData.str)
  | [] => .nil
  | x :: r => .cons (.str _) (dpAll_strs r)
theorem cut_two {l : List Str} {r : Int} (r0 : 0 ≤ r) (r1 : r < l.length) : ∃ ns : List Str, cutV (l.map V.str) (some r) (some (r + 2)) = ns.map V.str ∧ ns ≠ [] ∧ ns.length ≤ 2 ∧ ∀ n ∈ ns, n ∈ l := by
  obtain ⟨a, rfl⟩ : ∃ a : Nat, r = (a : Int) := ⟨r.toNat, by omega⟩
  have ha : a < l.length := by omega
  refine ⟨(l.drop a).take (min (a + 2) l.length - a), ?_, fun z => ?_, by rw [List.length_take, List.length_drop]; omega, fun n hn => List.mem_of_mem_drop (List.mem_of_mem_take hn)⟩
  · unfold cutV
    rw [show ((a : Int) + 2) = ((a + 2 : Nat) : Int) by omega, HT.sIx_nat, HT.sIx_nat, List.length_map, Nat.min_eq_left (Nat.le_of_lt ha), List.map_take, List.map_drop]
  · have := congrArg List.length z
    rw [List.length_take, List.length_drop, List.length_nil] at this
    omega
theorem cut_upto {l : List Str} {r : Int} (r0 : 0 ≤ r) : cutV (l.map V.str) none (some r) = (l.take r.toNat).map V.str := by
  obtain ⟨a, rfl⟩ : ∃ a : Nat, r = (a : Int) := ⟨r.toNat, by omega⟩
  rw [cut_take, List.map_take, Int.toNat_natCast]
theorem ite_tC {c : Bool} {a b : V} {σ : L2.St} {H : Hp} {Q : VK} (k : tC (if c = true then a else b) σ H Q) : if c = true then tC a σ H Q else tC b σ H Q := by
  cases c
  · exact k
  · exact k
theorem ok_LPi {m : Nat} {f : Addr} {fd : FuncData} (F : Fun K "_law_piece" "_law_piece" sLPi f fd) (T : TxGen mg) (GD : Has P w K mg base CX0 2 "_law_draw" PDraw spDraw) (GE : Has P w K mg base CX0 3 "_law_expression" PLEx (spLEx K)) (GC : Has P w K mg base CX0 5 "_law_call" PLCa (spLCa K)) (GB : Has P w K mg base CX0 (5 + 2 * m) "_law_block" PLBk (spLBk K m)) : FnOk P w K mg base CX0 (5 + 2 * m + 1) f fd PLPi (spLPi K m) := by
  refine F.ok scLPi (fun vs H Q E h => ?_) (fun cdv A outer s H vs Q E hr h => ?_)
  · obtain ⟨p, c, v, n, bu, d, last, own, kinds, heads, rfl, _⟩ := h
    rfl
  · obtain ⟨p, c, v, n, bu, d, last, own, kinds, heads, rfl, P0, hn, ev, ok, hf, ht, k⟩ := h
    have hr2 := hr.mono (j := 2) (by omega)
    have hr3 := hr.mono (j := 3) (by omega)
    have hr5 := hr.mono (j := 5) (by omega)
    have ecp : cp m = 200 + 4 * cb m := rfl
    refine ⟨_, (pss_cons (ps_asg (pv 1) (pg_tup (by rfl) (pgs_cons (pg_name (i := 4) scLPi.nd rfl (Or.inl rfl)) (pgs_cons (pg_name (i := 5) scLPi.nd rfl (Or.inl rfl)) (pgs_cons (pg_name (i := 6) scLPi.nd rfl (Or.inl rfl)) pgs_nil)))))
  (pss_cons (ps_set (i := 7) scLPi.nd rfl (Or.inl rfl) (pe_callH GD hr2 rfl pass0 (pa_cons (pv 0) (pa_cons (pe_ifExp (pt_cmpR op_gt (pv 2) pe_int (nomark _)) pe_int pe_int) pa_nil))))
  (pss_cons (ps_set (i := 8) scLPi.nd rfl (Or.inl rfl) (pe_ix (r := rIxL K) ix_list (pv 4) (pe_callH GD hr2 rfl pass0 (pa_cons (pv 0) (pa_cons (pe_callB call_len_seq (by rfl) T.n_len bb_len (pa_cons (pv 4) pa_nil)) pa_nil))) (fun _ _ => rfl)))
  (pss_cons (ps_if (pt_cmpR op_lt (pv 7) pe_int (nomark _))
  (pss_one (ps_ret (pe_tup (pa_cons pe_str (pa_cons (pv 8) (pa_cons (pe_callH GE hr3 rfl pass0 (pa_cons (pv 0) (pa_cons (pv 4) (pa_cons pe_int pa_nil)))) pa_nil))))))
  pss_nil)
  (pss_cons (ps_if (pt_cmpR op_lt (pv 7) pe_int (nomark _))
  (pss_one (ps_ret (pe_ifExp (pt_cmpR op_eq (pv 7) pe_int (nomark _)) (pe_tup (pa_cons pe_str (pa_cons (pe_ix (r := rIxL K) ix_list (pv 5) (pe_callH GD hr2 rfl pass0 (pa_cons (pv 0) (pa_cons (pe_callB call_len_seq (by rfl) T.n_len bb_len (pa_cons (pv 5) pa_nil)) pa_nil))) (fun _ _ => rfl)) pa_nil))) (pe_tup (pa_cons pe_str (pa_cons (pv 8) pa_nil))))))
  pss_nil)
  (pss_cons (ps_if (pt_cmpR op_lt (pv 7) pe_int (nomark _))
  (pss_one (ps_ret (pe_tup (pa_cons pe_str (pa_cons (pe_callTy call_tuple_of (by rfl) T.n_tuple bb_tuple (pa_cons (pe_slice sl_list (pv 5) po_none (po_some (pe_op op_add pe_int (pe_callH GD hr2 rfl pass0 (pa_cons (pv 0) (pa_cons (pe_callB call_len_seq (by rfl) T.n_len bb_len (pa_cons (pv 5) pa_nil)) pa_nil)))))) pa_nil)) pa_nil)))))
  pss_nil)
  (pss_cons (ps_if (PW.pt (pw_and (pt_cmpR op_lt (pv 7) pe_int (nomark _)) (pw_and1 (pt_cmpR (op_neD hr.units) (pv 6) (pe_lst pa_nil) (nomark _)))))
  (pss_one (ps_ret (pe_op op_catT (pe_tup (pa_cons pe_str (pa_cons (pe_ix (r := rIxL K) ix_list (pe_lst (pa_cons pe_non (pa_cons (pv 8) pa_nil))) (pe_callH GD hr2 rfl pass0 (pa_cons (pv 0) (pa_cons pe_int pa_nil))) (fun _ _ => rfl)) pa_nil))) (pe_callH GC hr5 rfl pass0 (pa_cons (pv 0) (pa_cons (pv 1) pa_nil))))))
  pss_nil)
  (pss_cons (ps_if (pt_cmpR op_lt (pv 7) pe_int (nomark _))
  (pss_one (ps_ret (pe_ifExp (pt_val (pv 3)) (pe_tup (pa_cons pe_str (pa_cons (pv 8) pa_nil))) (pe_tup (pa_cons pe_str (pa_cons (pe_callH GE hr3 rfl pass0 (pa_cons (pv 0) (pa_cons (pv 4) (pa_cons pe_int pa_nil)))) pa_nil))))))
  pss_nil)
  (pss_cons (ps_set (i := 9) scLPi.nd rfl (Or.inl rfl) (pe_callH GB hr rfl pass0 (pa_cons (pv 0) (pa_cons (pv 1) (pa_cons (pe_op op_sub (pv 2) pe_int) (pa_cons (pv 3) pa_nil))))))
  (pss_cons (ps_if (PW.pt (pw_or (pt_cmpR op_lt (pv 7) pe_int (nomark _)) (pw_or1 (pt_val (pv 3)))))
  (pss_one (ps_ret (pe_tup (pa_cons pe_str (pa_cons (pv 9) (pa_cons (pe_callH GB hr rfl pass0 (pa_cons (pv 0) (pa_cons (pv 1) (pa_cons (pe_op op_sub (pv 2) pe_int) (pa_cons (pv 3) pa_nil))))) pa_nil))))))
  pss_nil)
  (pss_cons (ps_if (pt_cmpR op_lt (pv 7) pe_int (nomark _))
  (pss_one (ps_ret (pe_tup (pa_cons pe_str (pa_cons (pv 9) pa_nil)))))
  pss_nil)
  (pss_cons (ps_if (pt_cmpR op_lt (pv 7) pe_int (nomark _))
  (pss_cons (ps_setLc (i := 10) (own := [("_law_kind", 11)]) (g := gName 11) (tt := tYes) rfl scLPi.nd rfl rfl (sw_true rfl rfl rfl (by decide +kernel)) (pi_list (pe_slice sl_list (pv 5) po_none (po_some (pe_callH GD hr2 rfl pass0 (pa_cons (pv 0) (pa_cons pe_int pa_nil)))))) (blkOk_by (own := [("_law_kind", 11)]) (N := NLPi) (sc := (defScope sLPi)) (by decide +kernel)) (fun _ _ _ _ _ => (pg_name (i := 11) scLPi.nd rfl (Or.inl rfl))) (fun _ _ _ _ _ => pts_nil) (fun _ _ _ _ _ => (pe_tup (pa_cons (pe_tup (pa_cons (pv 11) pa_nil)) (pa_cons (pe_callH GB hr rfl pass0 (pa_cons (pv 0) (pa_cons (pv 1) (pa_cons (pe_op op_sub (pv 2) pe_int) (pa_cons pe_bl pa_nil))))) pa_nil)))))
  (pss_one (ps_ret (pe_tup (pa_cons pe_str (pa_cons (pv 9) (pa_cons (pe_callTy call_tuple_of (by rfl) T.n_tuple bb_tuple (pa_cons (pv 10) pa_nil)) (pa_cons (pe_callH GB hr rfl pass0 (pa_cons (pv 0) (pa_cons (pv 1) (pa_cons pe_int (pa_cons pe_bl pa_nil))))) pa_nil))))))))
  pss_nil)
  (pss_cons (ps_set (i := 12) scLPi.nd rfl (Or.inl rfl) (pe_callH GD hr2 rfl pass0 (pa_cons (pv 0) (pa_cons (pe_callB call_len_seq (by rfl) T.n_len bb_len (pa_cons (pv 4) pa_nil)) pa_nil))))
  (pss_cons (ps_if (PW.pt (pw_or (pt_cmpR op_lt (pv 7) pe_int (nomark _)) (pw_or1 (pt_cmpR (op_eqD hr.units) (pv 6) (pe_lst pa_nil) (nomark _)))))
  (pss_one (ps_ret (pe_tup (pa_cons pe_str (pa_cons (pe_callTy call_tuple_of (by rfl) T.n_tuple bb_tuple (pa_cons (pe_slice sl_list (pv 4) (po_some (pv 12)) (po_some (pe_op op_add (pv 12) pe_int))) pa_nil)) (pa_cons (pv 9) pa_nil))))))
  pss_nil)
  (pss_one (ps_ret (pe_tup (pa_cons pe_str (pa_cons (pe_callH GC hr5 rfl pass0 (pa_cons (pv 0) (pa_cons (pv 1) pa_nil))) (pa_cons (pe_callH GC hr5 rfl pass0 (pa_cons (pv 0) (pa_cons (pv 1) pa_nil))) (pa_cons (pe_callTy call_tuple_of (by rfl) T.n_tuple bb_tuple (pa_cons (pe_slice sl_list (pv 5) po_none (po_some (pe_callH GD hr2 rfl pass0 (pa_cons (pv 0) (pa_cons pe_int pa_nil))))) pa_nil)) (pa_cons (pv 9) pa_nil)))))))))))))))))))))), ?_⟩
    obtain ⟨e, nl, kl, hl, hs, rfl, e2, e3, e4, e5, e6, e7, e8, e9⟩ := id ev
    have lo : 0 < own.length := List.length_pos_iff.mpr ok.o.2.1
    have l8 := ok.o.2.2
    have lk : 0 < kinds.length := List.length_pos_iff.mpr ok.k.1
    have l2 := ok.k.2
    have shh : SeqAt.shaped (.list (heads.map hdaD)) = true := shaped_hds fun x hx => (ok.ps x hx).2
    have eqh : PyData.eqv (.list (heads.map hdaD)) (.list []) = false := by
      cases heads with
      | nil => exact absurd rfl ok.h.1
      | cons x r => exact eqv_ne
    refine ⟨_, rfl, e, _, rfl, e2, rfl, _, _, rfl, _, _, rfl, _, _, rfl, rfl, ?_⟩
    refine ⟨_, rfl, _, rfl, _, _, rfl, rfl, _, rfl, ite_tC ?_⟩
    obtain ⟨mx, hmx, m0, m18, mz⟩ : ∃ mx : Int, V.int mx = (if decide ((d : Int) > 0) = true then V.int 18 else V.int 10) ∧ 0 < mx ∧ mx ≤ 18 ∧ (d = 0 → mx = 10) := by
      by_cases h : 0 < d
      · exact ⟨18, by rw [decide_eq_true (by omega)]; rfl, by decide, by decide, fun z => by omega⟩
      · exact ⟨10, by rw [decide_eq_false (by omega)]; rfl, by decide, by decide, fun z => rfl⟩
    rw [← hmx]
    refine ⟨p, c, Lim bu, n, mx, rfl, P0, by omega, m0, by omega, fun r H1 r0 r1 P1 b1 => ?_⟩
    refine ⟨_, rfl, _, rfl, _, rfl, nl, _, rfl, .inl (SqL.of (b1 _ _ e3 e7.1 e7.2)), p, c, Lim bu, n + 1, _, rfl, P1, by omega, by rw [List.length_map]; omega, by rw [List.length_map]; omega, fun rt H2 t0 t1 P2 b2' => ?_⟩
    have b2 : But p c H H2 := fun b o z h1 h2 => b2' _ _ (b1 _ _ z h1 h2) h1 h2
    have ev2 := ev.but b2 P0
    have en2 := b2 _ _ e3 e7.1 e7.2
    have ek2 := b2 _ _ e4 e8.1 e8.2
    have eh2 := b2 _ _ e5 e9.1 e9.2
    have e62 : Paired (fun x h => Dp K H2 x (hdaD h)) hs heads := Paired.mapP e6 fun _ h z => Dp.tps (b2.tps P0) z (noL_hda h)
    obtain ⟨w, hw, mw⟩ := atI_in (xs := own.map V.str) t0 t1
    obtain ⟨tg, htg, rfl⟩ := List.mem_map.mp mw
    refine ⟨nl, _, _, _, rfl, rfl, SqL.of en2, hw, ?_⟩
    clear b1 b2' P1 H1 hw mw t0 t1 e3 e4 e5 e6
    -- set
    refine ⟨_, rfl, _, _, rfl, rfl, _, rfl, ?_⟩
    by_cases h3 : r < 3
    · refine iteS (decide_eq_true h3) ?_
      refine ⟨_, rfl, _, rfl, _, rfl, p, c, nl, Lim bu, n + 2, own, rfl, P2, by omega, en2, e7.1, e7.2, ok.o.1, by omega, fun x ex H3 hex dx P3 b3 => ?_⟩
      refine ⟨(by show 3 ≤ sizeLine; decide), fun t ht => ?_⟩
      have s4 := same_new (o := .tup [V.str "set", V.str tg, x]) ht
      exact k _ (.set tg ex) bu _ ⟨htg, hex⟩ (Nat.zero_le _) (Nat.zero_add _) (.tup (SqT.of upd_same) (.cons (.str _) (.cons (.str _) (.cons (dx.same s4) .nil)))) ((P3.same s4).mono (by omega)) (fun b o z h1 h2 => s4 _ _ (b3 _ _ (b2 _ _ z h1 h2) h1 h2))
    refine iteE (decide_eq_false h3) ?_
    refine ⟨_, rfl, _, _, rfl, rfl, _, rfl, ?_⟩
    by_cases h5 : r < 5
    · refine iteS (decide_eq_true h5) ?_
      refine ⟨_, rfl, rfl, _, rfl, ?_⟩
      by_cases hr3 : r = 3
      · refine iteS (decide_eq_true (by rw [hr3])) ?_
        refine ⟨_, rfl, _, rfl, _, rfl, kl, _, rfl, .inl (SqL.of ek2), p, c, Lim bu, n + 2, _, rfl, P2, by omega, by rw [List.length_map]; omega, by rw [List.length_map]; omega, fun rk H3 k0 k1 P3 b3 => ?_⟩
        obtain ⟨w, hw, mw⟩ := atI_in (xs := kinds.map V.str) k0 k1
        obtain ⟨kd, hkd, rfl⟩ := List.mem_map.mp mw
        refine ⟨kl, _, _, _, rfl, rfl, SqL.of (b3 _ _ ek2 e8.1 e8.2), hw, (by show 2 ≤ sizeLine; decide), fun t ht => ?_⟩
        have s4 := same_new (o := .tup [V.str "raise", V.str kd]) ht
        exact k _ (.raise kd) bu _ hkd (Nat.zero_le _) (Nat.zero_add _) (.tup (SqT.of upd_same) (.cons (.str _) (.cons (.str _) .nil))) ((P3.same s4).mono (by omega)) (fun b o z h1 h2 => s4 _ _ (b3 _ _ (b2 _ _ z h1 h2) h1 h2))
      · refine iteE (decide_eq_false fun z => hr3 (V.int.inj z)) ?_
        refine ⟨_, rfl, (by show 2 ≤ sizeLine; decide), fun t ht => ?_⟩
        have s4 := same_new (o := .tup [V.str "input", V.str tg]) ht
        exact k _ (.input tg) bu _ htg (Nat.zero_le _) (Nat.zero_add _) (.tup (SqT.of upd_same) (.cons (.str _) (.cons (.str _) .nil))) ((P2.same s4).mono (by omega)) (fun b o z h1 h2 => s4 _ _ (b2 _ _ z h1 h2))
    refine iteE (decide_eq_false h5) ?_
    refine ⟨_, rfl, _, _, rfl, rfl, _, rfl, ?_⟩
    by_cases h7 : r < 7
    · refine iteS (decide_eq_true h7) ?_
      refine ⟨_, rfl, _, rfl, _, rfl, kl, _, rfl, .inl (SqL.of ek2), p, c, Lim bu, n + 2, _, rfl, P2, by omega, by rw [List.length_map]; omega, by rw [List.length_map]; omega, fun rk H3 k0 k1 P3 b3 => ?_⟩
      rw [List.length_map] at k1
      refine ⟨_, _, rfl, rfl, _, rfl, kl, _, rfl, SqL.of (b3 _ _ ek2 e8.1 e8.2), fun q hq => ?_⟩
      have ec : cutV (kinds.map V.str) none (some (1 + rk)) = (kinds.take (rk.toNat + 1)).map V.str := by
        rw [show (1 + rk : Int) = ((rk.toNat + 1 : Nat) : Int) by omega, cut_take, List.map_take]
      have s4 := same_new (o := .lst (cutV (kinds.map V.str) none (some (1 + rk)))) hq
      have eq4 : upd H3 q (.lst (cutV (kinds.map V.str) none (some (1 + rk)))) q = some (.lst ((kinds.take (rk.toNat + 1)).map V.str)) := by rw [upd_same, ec]
      have P4 := P3.same s4
      generalize upd H3 q (.lst (cutV (kinds.map V.str) none (some (1 + rk)))) = H4 at *
      refine ⟨q, _, rfl, .inl ⟨SqL.of eq4, fun l hl => ?_⟩⟩
      have s5 := same_new (o := .tup ((kinds.take (rk.toNat + 1)).map V.str)) hl
      refine ⟨(by show 2 ≤ sizeLine; decide), fun t ht => ?_⟩
      have s6 := same_new (o := .tup [V.str "risk", V.ref l]) ht
      have dks := dpAll_strs (K := K) (H := upd (upd H4 l (.tup ((kinds.take (rk.toNat + 1)).map V.str))) t (.tup [V.str "risk", V.ref l])) (kinds.take (rk.toNat + 1))
      refine k _ (.risk (kinds.take (rk.toNat + 1))) bu _ ⟨fun z => ?_, by rw [List.length_take]; omega, fun x hx => List.mem_of_mem_take hx⟩ (Nat.zero_le _) (Nat.zero_add _) (.tup (SqT.of upd_same) (.cons (.str _) (.cons (.tup (SqT.of (s6 _ _ upd_same)) dks) .nil))) (((P4.same s5).same s6).mono (by omega)) (fun b o z h1 h2 => s6 _ _ (s5 _ _ (s4 _ _ (b3 _ _ (b2 _ _ z h1 h2) h1 h2))))
      have := congrArg List.length z
      rw [List.length_take, List.length_nil] at this
      omega
    refine iteE (decide_eq_false h7) ?_
    -- call
    refine ⟨_, rfl, _, _, rfl, rfl, _, rfl, ?_⟩
    by_cases h9 : r < 9
    · refine iteS (decide_eq_true h9) ?_
      refine ⟨_, rfl, (by show 0 ≤ sizeLine; decide), fun z hz => ?_⟩
      have s3 := same_new (o := .lst []) hz
      refine ⟨.list (heads.map hdaD), .list [], .lst (SqL.of (s3 _ _ eh2)) (DpAll.ofPaired (Paired.mapP e62 fun _ _ z => z.same s3)), .lst (SqL.of upd_same) .nil, shh, by decide +kernel, _, rfl, iteS (by rw [eqh]; rfl) ?_⟩
      have P3 := P2.same s3
      have ev3 := ev2.but (But.of s3) P2
      have b3 : But p c H _ := fun b o z h1 h2 => s3 _ _ (b2 b o z h1 h2)
      clear hz
      generalize upd H2 z (.lst []) = H3 at *
      refine ⟨_, rfl, (by show 2 ≤ sizeLine; decide), fun D hD => ?_⟩
      have s4 := same_new (o := .lst [V.non, V.str tg]) hD
      have P4 := P3.same s4
      refine ⟨_, rfl, p, c, Lim bu, n + 2, 2, rfl, P4, by omega, by decide, by decide, fun rk H5 k0 k1 P5 b5 => ?_⟩
      have eD := b5 _ _ (upd_same (H := H3) (a := D) (o := .lst [V.non, V.str tg])) (P3.ne1 hD) (P3.ne2 hD)
      obtain ⟨to, hto, hat⟩ : ∃ to : Option Str, (∀ x, to = some x → x ∈ own) ∧ ∃ u, atI [V.non, V.str tg] rk = some u ∧ ∀ H : Hp, Dp K H u (optD to) := by
        have : rk = 0 ∨ rk = 1 := by omega
        rcases this with rfl | rfl
        · exact ⟨none, fun _ z => (nomatch z), _, rfl, fun _ => .non⟩
        · exact ⟨some tg, fun x z => by injection z with z; rw [← z]; exact htg, _, rfl, fun _ => .str _⟩
      obtain ⟨u, hat, du⟩ := hat
      have b35 : But p c H3 H5 := fun b o z h1 h2 => b5 _ _ (s4 _ _ z) h1 h2
      have ev5 := ev3.but b35 P3
      refine ⟨D, _, _, _, rfl, rfl, SqL.of eD, hat, (by show 2 ≤ sizeLine; decide), fun t1 ht1 => ?_⟩
      have s6 := same_new (o := .tup [V.str "call", u]) ht1
      have P6 := P5.same s6
      refine ⟨_, rfl, _, rfl, p, c, _, Lim bu, n + 2 + 1, own, kinds, heads, rfl, P6, by omega, ev5.but (But.of s6) P5, ok, fun x cl H7 hwc dx P7 b7 => ?_⟩
      have dx : Dp K H7 x (.tuple [.str cl.1, .tuple (cl.2.map argD)]) := dx
      obtain ⟨x0, xs, rfl, hx0, hxd⟩ := dx.tupInv
      obtain ⟨x1, x2, rfl, g1, g2⟩ := hxd.two
      have et1 : SqT K H7 t1 [V.str "call", u] := (b7.tps P6).sqt (SqT.of upd_same)
      refine ⟨t1, x0, _, _, rfl, rfl, et1, hx0, (by intro z; cases z), (by show 2 + 2 ≤ sizeLine; decide), (fun z => nomatch z), fun _ q hq => ?_⟩
      have s8 := same_new (o := .tup ([V.str "call", u] ++ [x1, x2])) hq
      exact k _ (.call to cl.1 cl.2) bu _ ⟨hto, hwc⟩ (Nat.zero_le _) (Nat.zero_add _) (.tup (SqT.of upd_same) (.cons (.str _) (.cons (du _) (.cons (g1.same s8) (.cons (g2.same s8) .nil))))) ((P7.same s8).mono (by omega)) (fun b o z h1 h2 => s8 _ _ (b7 _ _ (s6 _ _ (b35 _ _ (b3 _ _ z h1 h2) h1 h2)) h1 h2))
    refine iteE (decide_eq_false h9) (iteF ?_)
    refine ⟨_, rfl, _, _, rfl, rfl, _, rfl, ?_⟩
    by_cases h10 : r < 10
    · refine iteS (decide_eq_true h10) ?_
      cases last with
      | true =>
        refine ⟨_, rfl, true, rfl, iteS rfl ?_⟩
        refine ⟨_, rfl, (by show 2 ≤ sizeLine; decide), fun t ht => ?_⟩
        have s4 := same_new (o := .tup [V.str "input", V.str tg]) ht
        exact k _ (.input tg) bu _ htg (Nat.zero_le _) (Nat.zero_add _) (.tup (SqT.of upd_same) (.cons (.str _) (.cons (.str _) .nil))) ((P2.same s4).mono (by omega)) (fun b o z h1 h2 => s4 _ _ (b2 _ _ z h1 h2))
      | false =>
        refine ⟨_, rfl, false, rfl, iteE rfl ?_⟩
        refine ⟨_, rfl, _, rfl, p, c, nl, Lim bu, n + 2, own, rfl, P2, by omega, en2, e7.1, e7.2, ok.o.1, by omega, fun x ex H3 hex dx P3 b3 => ?_⟩
        refine ⟨(by show 2 ≤ sizeLine; decide), fun t ht => ?_⟩
        have s4 := same_new (o := .tup [V.str "return", x]) ht
        exact k _ (.ret ex) bu _ ⟨rfl, hex⟩ (Nat.zero_le _) (Nat.zero_add _) (.tup (SqT.of upd_same) (.cons (.str _) (.cons (dx.same s4) .nil))) ((P3.same s4).mono (by omega)) (fun b o z h1 h2 => s4 _ _ (b3 _ _ (b2 _ _ z h1 h2) h1 h2))
    refine iteE (decide_eq_false h10) ?_
    -- the first block
    obtain ⟨d, rfl⟩ : ∃ d', d = d' + 1 := by
      cases d with
      | zero => have := mz rfl; omega
      | succ d => exact ⟨d, rfl⟩
    clear hmx mz m18 m0 h3 h5 h7 h9
    have ed : (((d + 1 : Nat) : Int) - 1) = (d : Int) := by omega
    refine ⟨_, rfl, _, rfl, _, rfl, _, _, rfl, rfl, _, rfl, p, c, .ref e, n + 2, bu, d, last, own, kinds, heads, (by show [V.ref p, V.ref e, V.int (((d + 1 : Nat) : Int) - 1), V.bl last] = _; rw [ed]), P2, by omega, ev2, ok, fun h => by have := hf h (Nat.succ_pos _); omega, fun h => by have := ht h; omega, fun x b1 bu1 H3 w1 l1 d1 z1 dx1 P3 b3' => ?_⟩
    have b3 : But p c H H3 := fun b o z h1 h2 => b3' _ _ (b2 _ _ z h1 h2) h1 h2
    have ev3 := ev.but b3 P0
    have en3 := b3' _ _ en2 e7.1 e7.2
    have ek3 := b3' _ _ ek2 e8.1 e8.2
    have eh3 := b3' _ _ eh2 e9.1 e9.2
    have e63 : Paired (fun x h => Dp K H3 x (hdaD h)) hs heads := Paired.mapP e62 fun _ h z => Dp.tps (b3'.tps P2) z (noL_hda h)
    clear e62 en2 ek2 eh2 ev2 P2 b2 b3'
    -- if
    refine ⟨_, rfl, _, _, rfl, rfl, _, rfl, ?_⟩
    by_cases h12 : r < 12
    · refine iteS (decide_eq_true h12) (iteT ?_)
      refine ⟨_, rfl, _, rfl, _, rfl, _, rfl, _, _, rfl, rfl, _, rfl, p, c, .ref e, n + 2 + cb m, bu1, d, last, own, kinds, heads, (by show [V.ref p, V.ref e, V.int (((d + 1 : Nat) : Int) - 1), V.bl last] = _; rw [ed]), P3, by omega, ev3, ok, fun h => by have := hf h (Nat.succ_pos _); omega, fun h => by have := ht h; omega, fun y b2 bu2 H4 w2 l2 d2 z2 dx2 P4 b4 => ?_⟩
      refine ⟨(by show 3 ≤ sizeLine; decide), fun t ht => ?_⟩
      have s5 := same_new (o := .tup [V.str "if", x, y]) ht
      exact k _ (.ite b1 b2) bu2 _ ⟨w1, w2⟩ (Nat.max_le.mpr ⟨d1, d2⟩) (by show szB b1 + szB b2 + bu2 = bu; omega) (.tup (SqT.of upd_same) (.cons (.str _) (.cons ((Dp.tps (b4.tps P3) dx1 (noL_bl b1)).same s5) (.cons (dx2.same s5) .nil)))) ((P4.same s5).mono (by omega)) (fun b o z h1 h2 => s5 _ _ (b4 _ _ (b3 _ _ z h1 h2) h1 h2))
    refine iteE (decide_eq_false h12) ?_
    cases last with
    | true =>
      refine ⟨_, rfl, true, rfl, iteS rfl ?_⟩
      refine ⟨_, rfl, _, rfl, _, rfl, _, rfl, _, _, rfl, rfl, _, rfl, p, c, .ref e, n + 2 + cb m, bu1, d, true, own, kinds, heads, (by show [V.ref p, V.ref e, V.int (((d + 1 : Nat) : Int) - 1), V.bl true] = _; rw [ed]), P3, by omega, ev3, ok, fun h => (nomatch h), fun h => by have := ht h; omega, fun y b2 bu2 H4 w2 l2 d2 z2 dx2 P4 b4 => ?_⟩
      refine ⟨(by show 3 ≤ sizeLine; decide), fun t ht => ?_⟩
      have s5 := same_new (o := .tup [V.str "if", x, y]) ht
      exact k _ (.ite b1 b2) bu2 _ ⟨w1, w2⟩ (Nat.max_le.mpr ⟨d1, d2⟩) (by show szB b1 + szB b2 + bu2 = bu; omega) (.tup (SqT.of upd_same) (.cons (.str _) (.cons ((Dp.tps (b4.tps P3) dx1 (noL_bl b1)).same s5) (.cons (dx2.same s5) .nil)))) ((P4.same s5).mono (by omega)) (fun b o z h1 h2 => s5 _ _ (b4 _ _ (b3 _ _ z h1 h2) h1 h2))
    | false =>
    have hd := hf rfl (Nat.succ_pos _)
    refine ⟨_, rfl, false, rfl, iteE rfl ?_⟩
    -- while
    refine ⟨_, rfl, _, _, rfl, rfl, _, rfl, ?_⟩
    by_cases h13 : r < 13
    · refine iteS (decide_eq_true h13) ?_
      refine ⟨_, rfl, (by show 2 ≤ sizeLine; decide), fun t ht => ?_⟩
      have s5 := same_new (o := .tup [V.str "while", x]) ht
      exact k _ (.whl b1) bu1 _ ⟨rfl, w1⟩ d1 z1 (.tup (SqT.of upd_same) (.cons (.str _) (.cons (dx1.same s5) .nil))) ((P3.same s5).mono (by omega)) (fun b o z h1 h2 => s5 _ _ (b3 _ _ z h1 h2))
    refine iteE (decide_eq_false h13) ?_
    -- try
    refine ⟨_, rfl, _, _, rfl, rfl, _, rfl, ?_⟩
    by_cases h15 : r < 15
    · refine iteS (decide_eq_true h15) ?_
      refine ⟨_, rfl, _, rfl, p, c, Lim bu1, n + 2 + cb m, 3, rfl, P3, by omega, by decide, by decide, fun rh H4 k0 k1 P4 b4 => ?_⟩
      have ek4 := b4 _ _ ek3 e8.1 e8.2
      refine ⟨_, rfl, kl, _, rfl, SqL.of ek4, fun KL hKL => ?_⟩
      rw [cut_upto k0]
      have s5 := same_new (o := .lst ((kinds.take rh.toNat).map V.str)) hKL
      have KLp := P4.ne1 hKL
      have KLc := P4.ne2 hKL
      have P5 := P4.same s5
      have b5 : But p c H3 (upd H4 KL (.lst ((kinds.take rh.toNat).map V.str))) := fun b o z h1 h2 => s5 _ _ (b4 _ _ z h1 h2)
      have eKL : upd H4 KL (.lst ((kinds.take rh.toNat).map V.str)) KL = some (.lst ((kinds.take rh.toNat).map V.str)) := upd_same
      generalize upd H4 KL (.lst ((kinds.take rh.toNat).map V.str)) = H5 at *
      refine ⟨KL, rfl, ⟨_, SqL.of eKL⟩, fun D hD => ?_⟩
      have Dp' := P5.ne1 hD
      have Dc := P5.ne2 hD
      have DK : D ≠ KL := fun z => by rw [z, eKL] at hD; cases hD
      have s6 := same_new (o := .lst []) hD
      have lkt : (kinds.take rh.toNat).length ≤ 2 := by rw [List.length_take]; omega
      refine lc_it (walk_list (K := K) (a := KL) (xs := (kinds.take rh.toNat).map V.str)) (fun i H' => But p c H5 H' ∧ ∃ (us : List V) (hds : List Hd) (bu2 : Nat), H' D = some (.lst us) ∧ us.length = i ∧ Paired (fun x g => Dp K H' x (hdD g)) us hds ∧ wHs own kinds heads hds ∧ dpHs hds ≤ m ∧ szHs hds + bu2 = bu1 ∧ PoolAt H' p c (Lim bu2) (n + 2 + cb m + 1 + i * cb m)) ⟨But.of s6, [], [], bu1, upd_same, rfl, .nil, trivial, Nat.zero_le _, Nat.zero_add _, by rw [Nat.zero_mul]; exact P5.same s6⟩ (fun i H' _ h' => SqL.of (h'.1 _ _ eKL KLp KLc)) ?_ ?_
      · rintro i z HX H6 hi ⟨b6, us, hds, bu2, eD, lu, pu, wh, dh, zh, P6⟩ ⟨rfl, hz⟩
        have hi : i < (kinds.take rh.toNat).length := by rwa [List.length_map] at hi
        obtain ⟨kd, hkd⟩ : ∃ kd, (kinds.take rh.toNat)[i]? = some kd := ⟨_, List.getElem?_eq_getElem hi⟩
        have mk : kd ∈ kinds := List.mem_of_mem_take (List.mem_of_getElem? hkd)
        rw [List.getElem?_map, hkd] at hz
        simp only [Option.map_some, Option.some.injEq] at hz
        subst hz
        have im : (i + 1) * cb m = i * cb m + cb m := Nat.succ_mul _ _
        have i2 : (i + 1) * cb m ≤ 2 * cb m := Nat.mul_le_mul_right _ (by omega)
        refine ⟨wipe1 (by decide), V.str kd, by kernel_rfl, (by show 1 ≤ sizeLine; decide), fun t1 ht1 => ?_⟩
        have s7 := same_new (o := .tup [V.str kd]) ht1
        have b57 : But p c H (upd H6 t1 (.tup [V.str kd])) := fun b o z h1 h2 => s7 _ _ (b6 _ _ (b5 _ _ (b3 _ _ z h1 h2) h1 h2) h1 h2)
        refine ⟨V.ref p, by kernel_rfl, V.ref e, by kernel_rfl, V.int ((d + 1 : Nat) : Int), by kernel_rfl, _, _, rfl, rfl, p, c, .ref e, n + 2 + cb m + 1 + i * cb m, bu2, d, false, own, kinds, heads, (by show [V.ref p, V.ref e, V.int (((d + 1 : Nat) : Int) - 1), V.bl false] = _; rw [ed]), P6.same s7, by omega, ev.but b57 P0, ok, fun _ => by omega, fun h => (nomatch h), fun y b2 bu3 H8 w2 l2 d2 z2 dx2 P8 b8 => ?_⟩
        refine ⟨(by show 2 ≤ sizeLine; decide), fun t2 ht2 => ?_⟩
        have s9 := same_new (o := .tup [V.ref t1, y]) ht2
        have b69 : But p c H6 (upd H8 t2 (.tup [V.ref t1, y])) := fun b o z h1 h2 => s9 _ _ (b8 _ _ (s7 _ _ z) h1 h2)
        have t69 := b69.tps P6
        have eD9 := b69 _ _ eD Dp' Dc
        have et1 : SqT K (upd H8 t2 (.tup [V.ref t1, y])) t1 [V.str kd] := (Tps.of s9).sqt ((b8.tps (P6.same s7)).sqt (SqT.of upd_same))
        have t10 : Tps (upd H8 t2 (.tup [V.ref t1, y])) (upd (upd H8 t2 (.tup [V.ref t1, y])) D (.lst (us ++ [.ref t2]))) := Tps.lst eD9
        refine ⟨us, eD9, small1000 (by omega), fun b o z h1 h2 => ?_, us ++ [.ref t2], hds ++ [.mk [kd] b2], bu3, upd_same, by rw [List.length_append, lu]; rfl, ?_, wHs_snoc (s := .mk [kd] b2) (show ([kd] ≠ [] ∧ [kd].length ≤ 2 ∧ ∀ x ∈ [kd], x ∈ kinds) ∧ wL own kinds heads false b2 from ⟨⟨by simp, by simp, fun x hx => by rw [List.mem_singleton.mp hx]; exact mk⟩, w2⟩) wh, ?_, ?_, ?_⟩
        · rw [upd_ne (ne_of_none z hD)]
          exact b69 _ _ (b6 _ _ z h1 h2) h1 h2
        · refine Paired.snoc (Paired.mapP pu fun _ g z => Dp.tps (t69.trans t10) z (noL_hd g)) ?_
          exact .tup (t10.sqt (SqT.of upd_same)) (.cons (.tup (t10.sqt et1) (.cons (.str _) .nil)) (.cons (Dp.tps t10 (dx2.same s9) (noL_bl b2)) .nil))
        · rw [dpHs_snoc]; exact Nat.max_le.mpr ⟨dh, d2⟩
        · rw [szHs_snoc]; show szHs hds + szB b2 + bu3 = bu1; omega
        · rw [im]
          exact ((P8.same s9).upd Dp' Dc).mono (by omega)
      · rintro H6 ⟨b6, us, hds, bu2, eD, lu, pu, wh, dh, zh, P6⟩
        rw [List.length_map] at P6 lu
        have lhd := Paired.length pu
        have i2 : (kinds.take rh.toNat).length * cb m ≤ 2 * cb m := Nat.mul_le_mul_right _ lkt
        have b36 : But p c H3 H6 := fun b o z h1 h2 => b6 _ _ (b5 _ _ z h1 h2) h1 h2
        refine ⟨_, rfl, _, rfl, D, us, rfl, .inl ⟨SqL.of eD, fun l hl => ?_⟩⟩
        have s7 := same_new (o := .tup us) hl
        refine ⟨_, rfl, _, rfl, p, c, .ref e, _, bu2, 1, true, own, kinds, heads, rfl, P6.same s7, by omega, (ev3.but b36 P3).but (But.of s7) P6, ok, fun h => (nomatch h), fun _ => by omega, fun y b2 bu3 H8 w2 l2 d2 z2 dx2 P8 b8 => ?_⟩
        refine ⟨(by show 4 ≤ sizeLine; decide), fun t ht => ?_⟩
        have s9 := same_new (o := .tup [V.str "try", x, V.ref l, y]) ht
        have t68 := (Tps.of s7).trans (b8.tps (P6.same s7))
        refine k _ (.try_ b1 hds b2) bu3 _ ⟨rfl, by omega, w1, wh, w2⟩ (Nat.max_le.mpr ⟨d1, Nat.max_le.mpr ⟨dh, d2⟩⟩) (by show szB b1 + (szHs hds + szB b2) + bu3 = bu; omega) (.tup (SqT.of upd_same) (.cons (.str _) (.cons ((Dp.tps ((b36.tps P3).trans t68) dx1 (noL_bl b1)).same s9) (.cons (.tup (SqT.same s9 ((b8.tps (P6.same s7)).sqt (SqT.of upd_same))) ?_) (.cons (dx2.same s9) .nil))))) ((P8.same s9).mono (by omega)) (fun b o z h1 h2 => s9 _ _ (b8 _ _ (s7 _ _ (b36 _ _ (b3 _ _ z h1 h2) h1 h2)) h1 h2))
        rw [hdsD_map]
        exact DpAll.ofPaired (Paired.mapP pu fun _ g z => (Dp.tps t68 z (noL_hd g)).same s9)
    refine iteE (decide_eq_false h15) ?_
    -- undo
    refine ⟨_, rfl, _, rfl, nl, _, rfl, .inl (SqL.of en3), p, c, Lim bu1, n + 2 + cb m, _, rfl, P3, by omega, by rw [List.length_map]; omega, by rw [List.length_map]; omega, fun rf H4 f0 f1 P4 b4 => ?_⟩
    rw [List.length_map] at f1
    have en4 := b4 _ _ en3 e7.1 e7.2
    have eh4 := b4 _ _ eh3 e9.1 e9.2
    have t34 := b4.tps P3
    have b04 : But p c H H4 := fun b o z h1 h2 => b4 _ _ (b3 _ _ z h1 h2) h1 h2
    obtain ⟨ns, ecut, nne, nl2, nmem⟩ := cut_two f0 f1
    refine ⟨_, rfl, _, _, rfl, rfl, _, rfl, ?_⟩
    by_cases h17 : r < 17
    · refine iteS (decide_eq_true h17) (iteT ?_)
      refine ⟨_, rfl, _, rfl, _, rfl, _, rfl, _, _, rfl, rfl, _, rfl, nl, _, rfl, SqL.of en4, fun q hq => ?_⟩
      have s5 := same_new (o := .lst (cutV (own.map V.str) (some rf) (some (rf + 2)))) hq
      have eq5 : upd H4 q (.lst (cutV (own.map V.str) (some rf) (some (rf + 2)))) q = some (.lst (ns.map V.str)) := by rw [upd_same, ecut]
      have P5 := P4.same s5
      generalize upd H4 q (.lst (cutV (own.map V.str) (some rf) (some (rf + 2)))) = H5 at *
      refine ⟨q, _, rfl, .inl ⟨SqL.of eq5, fun l hl => ?_⟩⟩
      have s6 := same_new (o := .tup (ns.map V.str)) hl
      refine ⟨_, rfl, (by show 3 ≤ sizeLine; decide), fun t ht => ?_⟩
      have s7 := same_new (o := .tup [V.str "undo", V.ref l, x]) ht
      exact k _ (.undo ns b1) bu1 _ ⟨rfl, ⟨nne, by omega, nmem⟩, w1⟩ d1 z1 (.tup (SqT.of upd_same) (.cons (.str _) (.cons (.tup (SqT.of (s7 _ _ upd_same)) (dpAll_strs ns)) (.cons ((Dp.tps t34 dx1 (noL_bl b1)).same ((s5.trans s6).trans s7)) .nil)))) (((P5.same s6).same s7).mono (by omega)) (fun b o z h1 h2 => s7 _ _ (s6 _ _ (s5 _ _ (b04 _ _ z h1 h2))))
    refine iteE (decide_eq_false h17) ?_
    refine ⟨_, rfl, (by show 0 ≤ sizeLine; decide), fun z hz => ?_⟩
    have s5 := same_new (o := .lst []) hz
    refine ⟨.list (heads.map hdaD), .list [], .lst (SqL.of (s5 _ _ eh4)) (DpAll.ofPaired (Paired.mapP e63 fun _ h z => (Dp.tps t34 z (noL_hda h)).same s5)), .lst (SqL.of upd_same) .nil, shh, by decide +kernel, _, rfl, iteE eqh ?_⟩
    have P5 := P4.same s5
    have b05 : But p c H (upd H4 z (.lst [])) := fun b o z h1 h2 => s5 _ _ (b04 _ _ z h1 h2)
    have t35 := t34.trans (Tps.of s5)
    have b35 : But p c H3 (upd H4 z (.lst [])) := fun b o z h1 h2 => s5 _ _ (b4 _ _ z h1 h2)
    clear hz s5
    generalize upd H4 z (.lst []) = H5 at *
    -- with
    refine ⟨_, rfl, _, rfl, p, c, _, Lim bu1, _, own, kinds, heads, rfl, P5, by omega, ev.but b05 P0, ok, fun y1 c1 H6 wc1 dc1 P6 b6 => ?_⟩
    have b06 : But p c H H6 := fun b o z h1 h2 => b6 _ _ (b05 _ _ z h1 h2) h1 h2
    refine ⟨_, rfl, _, rfl, p, c, _, Lim bu1, _, own, kinds, heads, rfl, P6, by omega, ev.but b06 P0, ok, fun y2 c2 H7 wc2 dc2 P7 b7 => ?_⟩
    have b07 : But p c H H7 := fun b o z h1 h2 => b7 _ _ (b06 _ _ z h1 h2) h1 h2
    refine ⟨_, rfl, _, rfl, p, c, Lim bu1, _, 3, rfl, P7, by omega, by decide, by decide, fun rk H8 k0 k1 P8 b8 => ?_⟩
    have b08 : But p c H H8 := fun b o z h1 h2 => b8 _ _ (b07 _ _ z h1 h2) h1 h2
    have b58 : But p c H5 H8 := fun b o z h1 h2 => b8 _ _ (b7 _ _ (b6 _ _ z h1 h2) h1 h2) h1 h2
    have ek8 := b58 _ _ (b35 _ _ ek3 e8.1 e8.2) e8.1 e8.2
    refine ⟨_, rfl, kl, _, rfl, SqL.of ek8, fun q hq => ?_⟩
    rw [cut_upto k0]
    have s9 := same_new (o := .lst ((kinds.take rk.toNat).map V.str)) hq
    have eq9 : upd H8 q (.lst ((kinds.take rk.toNat).map V.str)) q = some (.lst ((kinds.take rk.toNat).map V.str)) := upd_same
    have P9 := P8.same s9
    generalize upd H8 q (.lst ((kinds.take rk.toNat).map V.str)) = H9 at *
    refine ⟨q, _, rfl, .inl ⟨SqL.of eq9, fun l hl => ?_⟩⟩
    have s10 := same_new (o := .tup ((kinds.take rk.toNat).map V.str)) hl
    refine ⟨_, rfl, (by show 5 ≤ sizeLine; decide), fun t ht => ?_⟩
    have s11 := same_new (o := .tup [V.str "with", y1, y2, V.ref l, x]) ht
    have s911 := (s9.trans s10).trans s11
    have t78 := b8.tps P7
    have t68 := (b7.tps P6).trans t78
    have t58 := b58.tps P5
    exact k _ (.with_ c1 c2 (kinds.take rk.toNat) b1) bu1 _ ⟨rfl, wc1, wc2, ⟨by rw [List.length_take]; omega, fun x hx => List.mem_of_mem_take hx⟩, w1⟩ d1 z1 (.tup (SqT.of upd_same) (.cons (.str _) (.cons ((Dp.tps t68 dc1 (noL_cal c1)).same s911) (.cons ((Dp.tps t78 dc2 (noL_cal c2)).same s911) (.cons (.tup (SqT.of (s11 _ _ upd_same)) (dpAll_strs _)) (.cons ((Dp.tps (t35.trans t58) dx1 (noL_bl b1)).same s911) .nil)))))) (((P9.same s10).same s11).mono (by omega)) (fun b o z h1 h2 => s11 _ _ (s10 _ _ (s9 _ _ (b08 _ _ z h1 h2))))
end

/-! ### the law's drawn tree -/
abbrev sLTr : Stmt := topS 28
abbrev NLTr : List Str := ["_law_pool_here", "_law_words", "_law_names_here", "_law_kinds", "_law_heads_here", "_law_k", "_law_params", "_law_keeps", "_law_functions", "_law_head", "_law_own", "_law_param", "_law_first"]
abbrev PLTr : List Str := ["_law_pool_here"]
theorem scLTr : FnScope NLTr PLTr (defScope sLTr) := ⟨rfl, rfl, rfl, by decide +kernel, rfl, by decide +kernel, by decide +kernel⟩
def rCatU (K : PySem.W.Frag) : R2 := fun x y H Q => ∃ a b xs ys, x = .ref a ∧ y = .ref b ∧ SqT K H a xs ∧ SqT K H b ys ∧ xs ≠ [] ∧ xs.length + ys.length ≤ sizeLine ∧ ∀ p H', Same H H' → SqT K H' p (xs ++ ys) → Q (.ref p) H'
theorem op_catU {X : Cx} : OpR X (binaryOp .Add) (rCatU X.K) := fun pins s σ H x y v u Q I rx ry ⟨a, b, xs, ys, e1, e2, q1, q2, ne, sz, k⟩ =>
  op_catT pins s σ H x y v u Q I rx ry ⟨a, b, xs, ys, e1, e2, q1, q2, ne, sz, fun e => k a H (Same.refl _) (by rw [e, List.append_nil]; exact q1), fun _ p hp => k p _ (same_new hp) (SqT.of upd_same)⟩
structure LsAt (H : Hp) (p c q : Addr) (xs : List V) : Prop where
  e : H q = some (.lst xs)
  n1 : q ≠ p
  n2 : q ≠ c
theorem LsAt.but {H H' : Hp} {p c q : Addr} {xs : List V} (h : LsAt H p c q xs) (b : But p c H H') : LsAt H' p c q xs := ⟨b _ _ h.e h.n1 h.n2, h.n1, h.n2⟩
theorem LsAt.same {H H' : Hp} {p c q : Addr} {xs : List V} (h : LsAt H p c q xs) (b : Same H H') : LsAt H' p c q xs := ⟨b _ _ h.e, h.n1, h.n2⟩
theorem LsAt.new {H : Hp} {p c q : Addr} {xs : List V} {lim : V} {n : Nat} (h : PoolAt H p c lim n) (hq : H q = none) : LsAt (upd H q (.lst xs)) p c q xs := ⟨upd_same, h.ne1 hq, h.ne2 hq⟩
theorem LsAt.upd {H : Hp} {p c q r : Addr} {xs : List V} {o : HO} (h : LsAt H p c q xs) (n : q ≠ r) : LsAt (upd H r o) p c q xs := ⟨by rw [upd_ne n]; exact h.e, h.n1, h.n2⟩
theorem cut_3 {l : List Str} {r : Int} (r0 : 0 ≤ r) : cutV (l.map V.str) (some 3) (some (4 + r)) = ((l.drop 3).take (1 + r.toNat)).map V.str := by
  obtain ⟨a, rfl⟩ : ∃ a : Nat, r = (a : Int) := ⟨r.toNat, by omega⟩
  unfold cutV
  rw [show (3 : Int) = ((3 : Nat) : Int) from rfl, show ((4 : Int) + (a : Int)) = ((4 + a : Nat) : Int) by omega, HT.sIx_nat, HT.sIx_nat, List.length_map, List.map_take, List.map_drop, Int.toNat_natCast]
  rcases Nat.le_or_ge l.length 3 with h | h
  · rw [Nat.min_eq_right h, List.drop_of_length_le (by rw [List.length_map]; exact Nat.le_refl _), List.drop_of_length_le (by rw [List.length_map]; exact h)]
    simp
  · rw [Nat.min_eq_left h, List.take_eq_take_iff, List.length_drop, List.length_map]
    omega
theorem dpAll_take {K : PySem.W.Frag} {H : Hp} : ∀ {xs : List V} {ds : List PyData} (k : Nat), DpAll K H xs ds → DpAll K H (xs.take k) (ds.take k)
  | _, _, 0, _ => by rw [List.take_zero, List.take_zero]; exact .nil
  | _, _, _ + 1, .nil => by rw [List.take_nil, List.take_nil]; exact .nil
  | _, _, k + 1, .cons a b => by rw [List.take_succ_cons, List.take_succ_cons]; exact .cons a (dpAll_take k b)
theorem cut_last {l : List V} {x : V} : cutV (l ++ [x]) none (some (-1)) = l := by
  unfold cutV
  rw [HT.sIx_none, List.drop_zero]
  show (l ++ [x]).take ((if (-1 : Int) < 0 then ((-1 : Int) + ((l ++ [x]).length : Int)).toNat else min (-1 : Int).toNat (l ++ [x]).length) - 0) = l
  rw [if_pos (by decide), List.length_append]
  have e : ((-1 : Int) + ((l.length + [x].length : Nat) : Int)).toNat - 0 = l.length := by
    show ((-1 : Int) + ((l.length + 1 : Nat) : Int)).toNat - 0 = _
    omega
  rw [e, List.take_append_of_le_length (Nat.le_refl _), List.take_length]
theorem split8 {ws : List Str} {w8 w9 w10 : Str} (h8 : ws[8]? = some w8) (h9 : ws[9]? = some w9) (h10 : ws[10]? = some w10) : ∃ r, ws.drop 8 = w8 :: w9 :: w10 :: r := by
  have e : ∀ i, (ws.drop 8)[i]? = ws[8 + i]? := fun i => List.getElem?_drop
  have e0 := e 0
  have e1 := e 1
  have e2 := e 2
  rw [h8] at e0
  rw [h9] at e1
  rw [h10] at e2
  cases h : ws.drop 8 with
  | nil => rw [h] at e0; cases e0
  | cons a r =>
    rw [h] at e0 e1 e2
    cases r with
    | nil => cases e1
    | cons b r =>
      cases r with
      | nil => cases e2
      | cons d r =>
        simp at e0 e1 e2
        subst e0 e1 e2
        exact ⟨r, rfl⟩
theorem take2_sub {a b : Str} (k : Nat) : ([a, b].take k).Sublist [a, b] := List.take_sublist _ _
theorem own_sub {ws : List Str} {w8 w9 w10 : Str} (h8 : ws[8]? = some w8) (h9 : ws[9]? = some w9) (h10 : ws[10]? = some w10) {nN : Nat} (hN : nN ≤ 8) {q : List Str} (hq : q.Sublist [w8, w9]) : (ws.take nN ++ (q ++ [w10])).Sublist ws := by
  obtain ⟨r, e⟩ := split8 h8 h9 h10
  have z : ws = ws.take 8 ++ (w8 :: w9 :: w10 :: r) := by rw [← e, List.take_append_drop]
  have s1 : (ws.take nN).Sublist (ws.take 8) := List.take_sublist_take_left hN
  have s2 : (q ++ [w10]).Sublist (w8 :: w9 :: w10 :: r) := by
    have z2 : (q ++ [w10]).Sublist ([w8, w9] ++ (w10 :: r)) := List.Sublist.append hq (List.Sublist.cons₂ _ (List.nil_sublist _))
    exact z2
  exact (s1.append s2).trans (by rw [← z]; exact List.Sublist.refl _)
/-- what is drawn -/
structure DrawnT (t : Tr) : Prop where
  ex : ∃ ws : List Str, NamesOk ws ∧ ws.length = 16 ∧ ∃ nN nK : Nat, nN ≤ 2 ∧ 1 ≤ nK ∧ nK ≤ 2 ∧ t.names = ws.take nN ∧ t.kinds = (ws.drop 3).take nK ∧
    (∀ e ∈ t.keeps, e.c = 0 ∧ EX t.names e) ∧ t.keeps.length ≤ 1 ∧ 1 ≤ t.fns.length ∧ t.fns.length ≤ 3 ∧ t.fns.map Fn.name = (ws.drop 5).take t.fns.length ∧
    (t.fns.map fun f => szB f.b).sum ≤ 33 ∧
    ∃ w8 w9 w10, ws[8]? = some w8 ∧ ws[9]? = some w9 ∧ ws[10]? = some w10 ∧
      ∀ f ∈ t.fns, (∃ b1 b2 k, f.ps = [(w8, b1), (w9, b2)].take k) ∧ ∃ e blk, f.b = .set w10 e :: blk ∧ blk.length ≤ 3 ∧ dpB blk ≤ 5 ∧ EX (t.names ++ prs f) e ∧
        wL (t.names ++ (prs f ++ [w10])) t.kinds (t.fns.map fun f => (f.name, f.ps)) false blk
def ct : Nat := 200 + 3 * (100 + cb 5)
theorem ct_eq : ct = 200 + 3 * (100 + cb 5) := rfl
theorem cb5 : cb 5 ≤ 20000000 := by decide
def spLTr (K : PySem.W.Frag) : Sp := fun vs H Q _ => ∃ (p c : Addr) (b0 n : Nat), vs = [.ref p] ∧ PoolAt H p c (Lim b0) n ∧ b0 ≤ 30 ∧ n ≤ 1000000000 ∧
  ∀ (v : V) (t : Tr) (bu : Nat) (H' : Hp), DrawnT t → Dp K H' v (trD t) → PoolAt H' p c (Lim bu) (n + ct) → But p c H H' → Q v H'
section
variable {P : Program} {w : World} {K : PySem.W.Frag} {mg : Str → Option Value} {base : Heap}
theorem ok_pb {fp fb : Addr} {dp db : FuncData} (FP : Fun K "_law_piece" "_law_piece" sLPi fp dp) (FB : Fun K "_law_block" "_law_block" sLBk fb db) (T : TxGen mg)
    (mp : mg "_law_piece" = some (.ref fp)) (kp : PySem.W.keepIn K (.ref fp) = true) (bp : Binds K dp PLPi []) (mb : mg "_law_block" = some (.ref fb)) (kb : PySem.W.keepIn K (.ref fb) = true) (bb : Binds K db PLBk [])
    (GD : Has P w K mg base CX0 2 "_law_draw" PDraw spDraw) (GE : Has P w K mg base CX0 3 "_law_expression" PLEx (spLEx K)) (GC : Has P w K mg base CX0 5 "_law_call" PLCa (spLCa K)) : ∀ m, FnOk P w K mg base CX0 (5 + 2 * m) fb db PLBk (spLBk K m) := by
  have vac : ∀ {vs : List V} {H : Hp} {Q : VK} {E : XK}, spLBk K 0 vs H Q E → False := fun h => by
    obtain ⟨p, c, v, n, bu, d, last, own, kinds, heads, rfl, P0, hn, ev, ok, hf, ht, k⟩ := h
    cases last with
    | true => have := ht rfl; omega
    | false => have := hf rfl; omega
  intro m
  induction m with
  | zero => exact ⟨fun vs H Q E h => (vac h).elim, fun _ _ _ _ _ _ _ _ _ _ _ _ _ h => (vac h).elim⟩
  | succ m ih =>
    have GB : Has P w K mg base CX0 (5 + 2 * m) "_law_block" PLBk (spLBk K m) := ⟨fb, db, ih, mb, kb, bb⟩
    have GP : Has P w K mg base CX0 (5 + 2 * m + 1) "_law_piece" PLPi (spLPi K m) := ⟨fp, dp, ok_LPi FP T GD GE GC GB, mp, kp, bp⟩
    rw [show 5 + 2 * m + 1 = 6 + 2 * m by omega] at GP
    have r := ok_LBk FB T GD GP
    rw [show 6 + 2 * m + 1 = 5 + 2 * (m + 1) by omega] at r
    exact r
theorem ok_LTr {f : Addr} {fd : FuncData} (F : Fun K "_law_tree" "_law_tree" sLTr f fd) (T : TxGen mg) (GD : Has P w K mg base CX0 2 "_law_draw" PDraw spDraw) (GN : Has P w K mg base CX0 3 "_law_names" PNames spNames) (GE : Has P w K mg base CX0 3 "_law_expression" PLEx (spLEx K)) (GB : Has P w K mg base CX0 15 "_law_block" PLBk (spLBk K 5)) : FnOk P w K mg base CX0 16 f fd PLTr (spLTr K) := by
  refine F.ok scLTr (fun vs H Q E h => ?_) (fun cdv A outer s H vs Q E hr h => ?_)
  · obtain ⟨p, c, b0, n, rfl, _⟩ := h
    rfl
  · obtain ⟨p, c, b0, n, rfl, P0, hb0, hn, k⟩ := h
    have hr2 := hr.mono (j := 2) (by omega)
    have hr3 := hr.mono (j := 3) (by omega)
    have hcb := cb5
    have hct := ct_eq
    obtain ⟨c5, hc5⟩ : ∃ c5, c5 = cb 5 := ⟨_, rfl⟩
    rw [← hc5] at hcb hct
    refine ⟨_, (pss_cons (ps_set (i := 1) scLTr.nd rfl (Or.inl rfl) (pe_callH GN hr3 rfl pass0 (pa_cons (pv 0) pa_nil)))
  (pss_cons (ps_set (i := 2) scLTr.nd rfl (Or.inl rfl) (pe_slice sl_list (pv 1) po_none (po_some (pe_callH GD hr2 rfl pass0 (pa_cons (pv 0) (pa_cons pe_int pa_nil))))))
  (pss_cons (ps_set (i := 3) scLTr.nd rfl (Or.inl rfl) (pe_slice sl_list (pv 1) (po_some pe_int) (po_some (pe_op op_add pe_int (pe_callH GD hr2 rfl pass0 (pa_cons (pv 0) (pa_cons pe_int pa_nil)))))))
  (pss_cons (ps_set (i := 4) scLTr.nd rfl (Or.inl rfl) (pe_lst pa_nil))
  (pss_cons (ps_for PassesOwn.never rfl (pi_range1 (by rfl) T.n_range (pa_cons (pe_op op_add pe_int (pe_callH GD hr2 rfl pass0 (pa_cons (pv 0) (pa_cons pe_int pa_nil)))) pa_nil)) (pg_name (i := 5) scLTr.nd rfl (Or.inl rfl))
  (pss_cons (ps_set (i := 6) scLTr.nd rfl (Or.inl rfl) (pe_lst (pa_cons (pe_tup (pa_cons (pe_ix (r := rIxL K) ix_list (pv 1) pe_int (fun _ _ => rfl)) (pa_cons (pe_cmpR op_eq (pe_callH GD hr2 rfl pass0 (pa_cons (pv 0) (pa_cons pe_int pa_nil))) pe_int (nomark _)) pa_nil))) (pa_cons (pe_tup (pa_cons (pe_ix (r := rIxL K) ix_list (pv 1) pe_int (fun _ _ => rfl)) (pa_cons (pe_cmpR op_eq (pe_callH GD hr2 rfl pass0 (pa_cons (pv 0) (pa_cons pe_int pa_nil))) pe_int (nomark _)) pa_nil))) pa_nil))))
  (pss_one (ps_expr (pe_bm PySem.F.plainAttrs_list PySem.F.slot_list_append PySem.F.type_list_append mt_append (pv 4) (pa_cons (pe_tup (pa_cons (pe_ix (r := rIxL K) ix_list (pv 1) (pe_op op_add pe_int (pv 5)) (fun _ _ => rfl)) (pa_cons (pe_callTy call_tuple_of (by rfl) T.n_tuple bb_tuple (pa_cons (pe_slice sl_list (pv 6) po_none (po_some (pe_callH GD hr2 rfl pass0 (pa_cons (pv 0) (pa_cons pe_int pa_nil))))) pa_nil)) pa_nil))) pa_nil))))))
  (pss_cons (ps_set (i := 7) scLTr.nd rfl (Or.inl rfl) (pe_lst pa_nil))
  (C8.pss_cut (ps_if (PW.pt (pw_and (pt_cmpR op_gt (pe_callB call_len_seq (by rfl) T.n_len bb_len (pa_cons (pv 2) pa_nil)) pe_int (nomark _)) (pw_and1 (pt_cmpR op_eq (pe_callH GD hr2 rfl pass0 (pa_cons (pv 0) (pa_cons pe_int pa_nil))) pe_int (nomark _)))))
  (pss_one (ps_expr (pe_bm PySem.F.plainAttrs_list PySem.F.slot_list_append PySem.F.type_list_append mt_append (pv 7) (pa_cons (pe_tup (pa_cons pe_int (pa_cons (pe_ix (r := rIxT K) ix_tup (pe_callH GE hr3 rfl pass0 (pa_cons (pv 0) (pa_cons (pv 2) (pa_cons pe_int pa_nil)))) pe_int (fun _ _ => rfl)) pa_nil))) pa_nil))))
  pss_nil)
  (pss_cons (ps_set (i := 8) scLTr.nd rfl (Or.inl rfl) (pe_lst pa_nil))
  (pss_cons (ps_for PassesOwn.never rfl (pi_list (pv 4)) (pg_name (i := 9) scLTr.nd rfl (Or.inl rfl))
  (pss_cons (ps_set (i := 10) scLTr.nd rfl (Or.inl rfl) (pe_op op_cat (pe_op op_cat (pv 2) (pe_lc (own := [("_law_param", 11)]) (g := gName 11) (tt := tYes) rfl scLTr.nd (pi_tup (pe_ix (r := rIxT K) ix_tup (pv 9) pe_int (fun _ _ => rfl))) (blkOk_by (own := [("_law_param", 11)]) (N := NLTr) (sc := (defScope sLTr)) (by decide +kernel)) (fun _ _ _ _ _ => (pg_name (i := 11) scLTr.nd rfl (Or.inl rfl))) (fun _ _ _ _ _ => pts_nil) (fun _ _ _ _ _ => (pe_ix (r := rIxT K) ix_tup (pv 11) pe_int (fun _ _ => rfl))))) (pe_lst (pa_cons (pe_ix (r := rIxL K) ix_list (pv 1) pe_int (fun _ _ => rfl)) pa_nil))))
  (pss_cons (ps_set (i := 12) scLTr.nd rfl (Or.inl rfl) (pe_tup (pa_cons pe_str (pa_cons (pe_ix (r := rIxL K) ix_list (pv 1) pe_int (fun _ _ => rfl)) (pa_cons (pe_callH GE hr3 rfl pass0 (pa_cons (pv 0) (pa_cons (pe_slice sl_list (pv 10) po_none (po_some (pe_un un_neg pe_int))) (pa_cons pe_int pa_nil)))) pa_nil)))))
  (pss_one (ps_expr (pe_bm PySem.F.plainAttrs_list PySem.F.slot_list_append PySem.F.type_list_append mt_append (pv 8) (pa_cons (pe_op op_catU (pv 9) (pe_tup (pa_cons (pe_op op_catU (pe_tup (pa_cons (pv 12) pa_nil)) (pe_callH GB hr rfl pass0 (pa_cons (pv 0) (pa_cons (pe_tup (pa_cons (pv 10) (pa_cons (pv 3) (pa_cons (pv 4) pa_nil)))) (pa_cons pe_int (pa_cons pe_bl pa_nil)))))) pa_nil))) pa_nil)))))))
  (pss_one (ps_ret (pe_tup (pa_cons (pe_callTy call_tuple_of (by rfl) T.n_tuple bb_tuple (pa_cons (pv 2) pa_nil)) (pa_cons (pe_callTy call_tuple_of (by rfl) T.n_tuple bb_tuple (pa_cons (pv 3) pa_nil)) (pa_cons (pe_callTy call_tuple_of (by rfl) T.n_tuple bb_tuple (pa_cons (pv 7) pa_nil)) (pa_cons (pe_callTy call_tuple_of (by rfl) T.n_tuple bb_tuple (pa_cons (pv 8) pa_nil)) pa_nil)))))))))))))))), ?_⟩
    refine ⟨_, rfl, p, c, Lim b0, n, rfl, P0, by omega, fun wl ws H1 nok l16 P1 b1 nw ew => ?_⟩
    have lw : LsAt H1 p c wl (ws.map V.str) := ⟨ew, P0.ne1 nw, P0.ne2 nw⟩
    have fw := nw
    clear ew nw
    refine ⟨_, rfl, _, rfl, p, c, Lim b0, n + 2, 3, rfl, P1, by omega, by decide, by decide, fun rN H2 rN0 rN1 P2 b2 => ?_⟩
    have lw := lw.but b2
    refine ⟨_, rfl, wl, _, rfl, SqL.of lw.e, fun nl hnl => ?_⟩
    rw [cut_upto rN0]
    have ln : LsAt (upd H2 nl (.lst ((ws.take rN.toNat).map V.str))) p c nl _ := LsAt.new P2 hnl
    have s3 := same_new (o := .lst ((ws.take rN.toNat).map V.str)) hnl
    have P3 := P2.same s3
    have lw := lw.same s3
    have b3 : But p c H _ := fun b o z h1 h2 => s3 _ _ (b2 _ _ (b1 _ _ z h1 h2) h1 h2)
    clear hnl s3 b2 P2 P1 b1
    generalize upd H2 nl (.lst ((ws.take rN.toNat).map V.str)) = H3 at *
    refine ⟨_, rfl, _, rfl, _, rfl, p, c, Lim b0, n + 3, 2, rfl, P3, by omega, by decide, by decide, fun rK H4 rK0 rK1 P4 b4 => ?_⟩
    have lw := lw.but b4
    have ln := ln.but b4
    refine ⟨_, _, rfl, rfl, _, rfl, wl, _, rfl, SqL.of lw.e, fun kl hkl => ?_⟩
    rw [cut_3 rK0]
    have lk : LsAt (upd H4 kl (.lst (((ws.drop 3).take (1 + rK.toNat)).map V.str))) p c kl _ := LsAt.new P4 hkl
    have s5 := same_new (o := .lst (((ws.drop 3).take (1 + rK.toNat)).map V.str)) hkl
    have P5 := P4.same s5
    have lw := lw.same s5
    have ln := ln.same s5
    have b5 : But p c H _ := fun b o z h1 h2 => s5 _ _ (b4 _ _ (b3 _ _ z h1 h2) h1 h2)
    clear hkl s5 b4 P4 P3 b3
    generalize upd H4 kl (.lst (((ws.drop 3).take (1 + rK.toNat)).map V.str)) = H5 at *
    refine ⟨(by show 0 ≤ sizeLine; decide), fun hl hhl => ?_⟩
    have lh : LsAt (upd H5 hl (.lst [])) p c hl [] := LsAt.new P5 hhl
    have s6 := same_new (o := .lst []) hhl
    have hw : hl ≠ wl := fun z => by rw [z, lw.e] at hhl; cases hhl
    have hN : hl ≠ nl := fun z => by rw [z, ln.e] at hhl; cases hhl
    have hK : hl ≠ kl := fun z => by rw [z, lk.e] at hhl; cases hhl
    have P6 := P5.same s6
    have lw := lw.same s6
    have ln := ln.same s6
    have lk := lk.same s6
    have b6 : But p c H _ := fun b o z h1 h2 => s6 _ _ (b5 _ _ z h1 h2)
    have hlp := P5.ne1 hhl
    have hlc := P5.ne2 hhl
    have fh : H hl = none := by
      cases q : H hl with
      | none => rfl
      | some o =>
        have z : H5 hl = some o := b5 _ _ q hlp hlc
        rw [hhl] at z; cases z
    clear hhl s6 b5 P5
    generalize upd H5 hl (.lst []) = H6 at *
    obtain ⟨w8, h8⟩ : ∃ x, ws[8]? = some x := ⟨_, List.getElem?_eq_getElem (by omega)⟩
    obtain ⟨w9, h9⟩ : ∃ x, ws[9]? = some x := ⟨_, List.getElem?_eq_getElem (by omega)⟩
    obtain ⟨w10, h10⟩ : ∃ x, ws[10]? = some x := ⟨_, List.getElem?_eq_getElem (by omega)⟩
    have a8 : atI (ws.map V.str) 8 = some (.str w8) := atI_nat (j := 8) (by rw [List.getElem?_map, h8]; rfl)
    have a9 : atI (ws.map V.str) 9 = some (.str w9) := atI_nat (j := 9) (by rw [List.getElem?_map, h9]; rfl)
    have a10 : atI (ws.map V.str) 10 = some (.str w10) := atI_nat (j := 10) (by rw [List.getElem?_map, h10]; rfl)
    refine ⟨_, rfl, p, c, Lim b0, n + 4, 3, rfl, P6, by omega, by decide, by decide, fun rh H7 rh0 rh1 P7 b7 => ?_⟩
    have b67 : But p c H H7 := fun b o z h1 h2 => b7 _ _ (b6 _ _ z h1 h2) h1 h2
    have lw := lw.but b7
    have ln := ln.but b7
    have lk := lk.but b7
    have lh := lh.but b7
    refine ⟨_, _, rfl, rfl, _, rfl, by omega, by omega, ?_⟩
    refine for_range (lo := 0) (n := (1 + rh).toNat) (fun i σ H' => (∃ x5 x6 : Option V, σ = [some (.ref p), some (.ref wl), some (.ref nl), some (.ref kl), some (.ref hl), x5, x6, none, none, none, none, none, none]) ∧ PoolAt H' p c (Lim b0) (n + 5 + 3 * i) ∧ But p c H H' ∧ LsAt H' p c wl (ws.map V.str) ∧ LsAt H' p c nl ((ws.take rN.toNat).map V.str) ∧ LsAt H' p c kl (((ws.drop 3).take (1 + rK.toNat)).map V.str) ∧
      ∃ hs heads, LsAt H' p c hl hs ∧ hs.length = i ∧ Paired (fun x h => Dp K H' x (hdaD h)) hs heads ∧ heads.map Prod.fst = (ws.drop 5).take i ∧ ∀ h ∈ heads, ∃ b1 b2 k, h.2 = [(w8, b1), (w9, b2)].take k)
      ⟨⟨_, _, rfl⟩, P7, b67, lw, ln, lk, [], [], lh, rfl, .nil, by simp, fun _ z => (nomatch z)⟩ ?_ ?_
    · rintro i σ H8 hi ⟨⟨x5, x6, rfl⟩, P8, b8, lw8, ln, lk, hs, heads, lh, lhs, ph, hf, hp⟩
      have lw := lw8
      have hi3 : i < 3 := by omega
      obtain ⟨wi, hwi⟩ : ∃ x, ws[5 + i]? = some x := ⟨_, List.getElem?_eq_getElem (by omega)⟩
      have ai : atI (ws.map V.str) (5 + (0 + (i : Int))) = some (.str wi) := by
        rw [show (5 + (0 + (i : Int))) = ((5 + i : Nat) : Int) by omega]
        exact atI_nat (by rw [List.getElem?_map, hwi]; rfl)
      refine ⟨_, rfl, wl, _, _, _, rfl, rfl, SqL.of lw.e, a8, ?_⟩
      refine ⟨_, rfl, p, c, Lim b0, n + 5 + 3 * i, 2, rfl, P8, by omega, by decide, by decide, fun r1 H9 r10 r11 P9 b9 => ?_⟩
      have lw := lw.but b9
      refine ⟨rfl, (by show 2 ≤ sizeLine; decide), fun t1 ht1 => ?_⟩
      have s10 := same_new (o := .tup [V.str w8, V.bl (decide (V.int r1 = V.int 1))]) ht1
      have P10 := P9.same s10
      have lw := lw.same s10
      have b810 : But p c H8 (upd H9 t1 (.tup [V.str w8, V.bl (decide (V.int r1 = V.int 1))])) := fun b o z h1 h2 => s10 _ _ (b9 _ _ z h1 h2)
      have e1 : upd H9 t1 (.tup [V.str w8, V.bl (decide (V.int r1 = V.int 1))]) t1 = some (.tup [V.str w8, V.bl (decide (V.int r1 = V.int 1))]) := upd_same
      generalize upd H9 t1 (.tup [V.str w8, V.bl (decide (V.int r1 = V.int 1))]) = H10 at *
      refine ⟨_, rfl, wl, _, _, _, rfl, rfl, SqL.of lw.e, a9, ?_⟩
      refine ⟨_, rfl, p, c, Lim b0, n + 5 + 3 * i + 1, 2, rfl, P10, by omega, by decide, by decide, fun r2 H11 r20 r21 P11 b11 => ?_⟩
      have lw := lw.but b11
      have t11 := b11.tps P10
      refine ⟨rfl, (by show 2 ≤ sizeLine; decide), fun t2 ht2 => ?_⟩
      have s12 := same_new (o := .tup [V.str w9, V.bl (decide (V.int r2 = V.int 1))]) ht2
      have P12 := P11.same s12
      have lw := lw.same s12
      have b812 : But p c H8 (upd H11 t2 (.tup [V.str w9, V.bl (decide (V.int r2 = V.int 1))])) := fun b o z h1 h2 => s12 _ _ (b11 _ _ (b810 _ _ z h1 h2) h1 h2)
      have e2 : upd H11 t2 (.tup [V.str w9, V.bl (decide (V.int r2 = V.int 1))]) t2 = some (.tup [V.str w9, V.bl (decide (V.int r2 = V.int 1))]) := upd_same
      have e1 := s12 _ _ (t11.1 _ _ e1)
      clear s12 P11 b11 t11 P10 ht1 s10 b9 P9 b810
      generalize upd H11 t2 (.tup [V.str w9, V.bl (decide (V.int r2 = V.int 1))]) = H12 at *
      refine ⟨(by show 2 ≤ sizeLine; decide), fun pl hpl => ?_⟩
      have lp : LsAt (upd H12 pl (.lst [V.ref t1, V.ref t2])) p c pl _ := LsAt.new P12 hpl
      have s13 := same_new (o := .lst [V.ref t1, V.ref t2]) hpl
      have P13 := P12.same s13
      have lw := lw.same s13
      have e1 := s13 _ _ e1
      have e2 := s13 _ _ e2
      have b813 : But p c H8 (upd H12 pl (.lst [V.ref t1, V.ref t2])) := fun b o z h1 h2 => s13 _ _ (b812 _ _ z h1 h2)
      clear s13 P12 hpl b812
      generalize upd H12 pl (.lst [V.ref t1, V.ref t2]) = H13 at *
      have lh13 := lh.but b813
      -- heads.append
      refine ⟨_, rfl, .inl ⟨rfl, _, SqL.of lh13.e⟩, _, rfl, _, rfl, _, _, rfl, rfl, wl, _, _, _, rfl, rfl, SqL.of lw.e, ai, ?_⟩
      refine ⟨_, rfl, _, rfl, p, c, Lim b0, n + 5 + 3 * i + 2, 3, rfl, P13, by omega, by decide, by decide, fun rk H14 rk0 rk1 P14 b14 => ?_⟩
      have lp := lp.but b14
      have t14 := b14.tps P13
      obtain ⟨kk, rfl⟩ : ∃ a : Nat, rk = (a : Int) := ⟨rk.toNat, by omega⟩
      refine ⟨_, rfl, pl, _, rfl, SqL.of lp.e, fun q hq => ?_⟩
      rw [cut_take]
      have s15 := same_new (o := .lst ([V.ref t1, V.ref t2].take kk)) hq
      refine ⟨q, _, rfl, .inl ⟨SqL.of upd_same, fun l hll => ?_⟩⟩
      have s16 := same_new (o := .tup ([V.ref t1, V.ref t2].take kk)) hll
      refine ⟨(by show 2 ≤ sizeLine; decide), fun t3 ht3 => ?_⟩
      have s17 := same_new (o := .tup [V.str wi, V.ref l]) ht3
      have s1417 := (s15.trans s16).trans s17
      have P17 := P14.same s1417
      have e1 := s1417 _ _ (t14.1 _ _ e1)
      have e2 := s1417 _ _ (t14.1 _ _ e2)
      have el := s17 _ _ (upd_same (H := upd H14 q (.lst ([V.ref t1, V.ref t2].take kk))) (a := l) (o := .tup ([V.ref t1, V.ref t2].take kk)))
      have e3 : upd (upd (upd H14 q (.lst ([V.ref t1, V.ref t2].take kk))) l (.tup ([V.ref t1, V.ref t2].take kk))) t3 (.tup [V.str wi, V.ref l]) t3 = some (.tup [V.str wi, V.ref l]) := upd_same
      have b817 : But p c H8 (upd (upd (upd H14 q (.lst ([V.ref t1, V.ref t2].take kk))) l (.tup ([V.ref t1, V.ref t2].take kk))) t3 (.tup [V.str wi, V.ref l])) := fun b o z h1 h2 => s1417 _ _ (b14 _ _ (b813 _ _ z h1 h2) h1 h2)
      clear s1417 s17 s16 s15 ht3 hll hq P14 lp
      generalize upd (upd (upd H14 q (.lst ([V.ref t1, V.ref t2].take kk))) l (.tup ([V.ref t1, V.ref t2].take kk))) t3 (.tup [V.str wi, V.ref l]) = H17 at *
      have lh17 := lh.but b817
      refine ⟨hl, _, _, rfl, rfl, lh17.e, small1000 (by omega), ?_⟩
      have t18 : Tps H17 (upd H17 hl (.lst (hs ++ [.ref t3]))) := Tps.lst lh17.e
      have dh : Dp K (upd H17 hl (.lst (hs ++ [.ref t3]))) (.ref t3) (hdaD (wi, [(w8, decide (V.int r1 = V.int 1)), (w9, decide (V.int r2 = V.int 1))].take kk)) := by
        have d1 : Dp K (upd H17 hl (.lst (hs ++ [.ref t3]))) (.ref t1) (prD (w8, decide (V.int r1 = V.int 1))) := .tup (SqT.of (t18.1 _ _ e1)) (.cons (.str _) (.cons (.bl _) .nil))
        have d2 : Dp K (upd H17 hl (.lst (hs ++ [.ref t3]))) (.ref t2) (prD (w9, decide (V.int r2 = V.int 1))) := .tup (SqT.of (t18.1 _ _ e2)) (.cons (.str _) (.cons (.bl _) .nil))
        refine .tup (SqT.of (t18.1 _ _ e3)) (.cons (.str _) (.cons (.tup (SqT.of (t18.1 _ _ el)) ?_) .nil))
        rw [List.map_take]
        exact dpAll_take kk (.cons d1 (.cons d2 .nil))
      refine ⟨⟨_, _, rfl⟩, ?_, fun b o z h1 h2 => ?_, (lw8.but b817).upd hw.symm, (ln.but b817).upd hN.symm, (lk.but b817).upd hK.symm, hs ++ [.ref t3], heads ++ [(wi, [(w8, decide (V.int r1 = V.int 1)), (w9, decide (V.int r2 = V.int 1))].take kk)], ⟨upd_same, hlp, hlc⟩, by rw [List.length_append, lhs]; rfl, Paired.snoc (Paired.mapP ph fun _ h z => Dp.tps ((b817.tps P8).trans t18) z (noL_hda h)) dh, ?_, fun h hh => ?_⟩
      · rw [show n + 5 + 3 * (i + 1) = n + 5 + 3 * i + 2 + 1 by omega]
        exact P17.upd hlp hlc
      · rw [upd_ne (ne_of_none z fh)]
        exact b817 _ _ (b8 _ _ z h1 h2) h1 h2
      · rw [List.map_append, hf, take_snoc (l := ws.drop 5) (z := wi) (by rw [List.getElem?_drop]; exact hwi)]
        rfl
      · rcases List.mem_append.mp hh with z | z
        · exact hp h z
        · rw [List.mem_singleton.mp z]
          exact ⟨_, _, kk, rfl⟩
    · rintro σ H8 ⟨⟨x5, x6, rfl⟩, P8, b8, lw, ln, lk, hs, heads, lh, lhs, ph, hf, hp⟩
      have lnn : (ws.take rN.toNat).length ≤ 2 := by rw [List.length_take]; omega
      have nnd : (ws.take rN.toNat).Nodup := nok.nd.sublist (List.take_sublist _ _)
      have lhs3 : hs.length ≤ 3 := by omega
      have lhd : hs.length = heads.length := Paired.length ph
      have e1h : (1 + rh).toNat = heads.length := by omega
      rw [e1h] at P8 hf
      have hd1 : 1 ≤ heads.length ∧ heads.length ≤ 3 := by omega
      clear e1h
      have P8 : PoolAt H8 p c (Lim b0) (n + 14) := P8.mono (by omega)
      refine ⟨(by show 0 ≤ sizeLine; decide), fun kp hkp => ?_⟩
      have s9 := same_new (o := .lst []) hkp
      have lkp : LsAt (upd H8 kp (.lst [])) p c kp [] := LsAt.new P8 hkp
      have kw : kp ≠ wl := fun z => by rw [z, lw.e] at hkp; cases hkp
      have kN : kp ≠ nl := fun z => by rw [z, ln.e] at hkp; cases hkp
      have kK : kp ≠ kl := fun z => by rw [z, lk.e] at hkp; cases hkp
      have kH : kp ≠ hl := fun z => by rw [z, lh.e] at hkp; cases hkp
      have fk : H kp = none := by
        cases q : H kp with
        | none => rfl
        | some o =>
          have z : H8 kp = some o := b8 _ _ q lkp.n1 lkp.n2
          rw [hkp] at z; cases z
      have P9 := P8.same s9
      have lw := lw.same s9
      have ln := ln.same s9
      have lk := lk.same s9
      have lh := lh.same s9
      have ph := Paired.mapP ph fun _ h z => Dp.same s9 z
      have b9 : But p c H (upd H8 kp (.lst [])) := fun b o z h1 h2 => s9 _ _ (b8 _ _ z h1 h2)
      clear hkp s9 P8 b8
      generalize upd H8 kp (.lst []) = H9 at *
      refine ⟨fun σ H' => σ = [some (.ref p), some (.ref wl), some (.ref nl), some (.ref kl), some (.ref hl), x5, x6, some (.ref kp), none, none, none, none, none] ∧ PoolAt H' p c (Lim b0) (n + 25) ∧ But p c H H' ∧ LsAt H' p c wl (ws.map V.str) ∧ LsAt H' p c nl ((ws.take rN.toNat).map V.str) ∧ LsAt H' p c kl (((ws.drop 3).take (1 + rK.toNat)).map V.str) ∧ LsAt H' p c hl hs ∧ Paired (fun x h => Dp K H' x (hdaD h)) hs heads ∧
        ∃ us keeps, LsAt H' p c kp us ∧ Paired (fun x e => Dp K H' x (exD e)) us keeps ∧ keeps.length ≤ 1 ∧ ∀ e ∈ keeps, e.c = 0 ∧ EX (ws.take rN.toNat) e, ?_, ?_⟩
      · refine ⟨_, rfl, nl, _, rfl, .inl (SqL.of ln.e), _, _, rfl, rfl, _, rfl, ?_⟩
        refine ite2 (fun hg => ?_) (fun hg => iteF ?_)
        · refine ⟨_, rfl, p, c, Lim b0, n + 14, 2, rfl, P9, by omega, by decide, by decide, fun rk H10 rk0 rk1 P10 b10 => ?_⟩
          have b910 : But p c H H10 := fun b o z h1 h2 => b10 _ _ (b9 _ _ z h1 h2) h1 h2
          have lw := lw.but b10
          have ln := ln.but b10
          have lk := lk.but b10
          have lh := lh.but b10
          have lkp := lkp.but b10
          have ph := Paired.mapP ph fun _ h z => Dp.tps (b10.tps P9) z (noL_hda h)
          refine ⟨rfl, _, rfl, ?_⟩
          refine ite2 (fun hg2 => ?_) (fun hg2 => ?_)
          · refine ⟨_, rfl, .inl ⟨rfl, _, SqL.of lkp.e⟩, _, rfl, _, rfl, p, c, nl, Lim b0, n + 15, ws.take rN.toNat, rfl, P10, by omega, ln.e, ln.n1, ln.n2, nnd, by omega, fun v e H11 hex dx P11 b11 => ?_⟩
            have dx : Dp K H11 v (.tuple [.int e.c, .tuple (e.ts.map fun p => .tuple [.str p.1, .int p.2])]) := dx
            obtain ⟨va, vx, rfl, hva, hvd⟩ := dx.tupInv
            obtain ⟨v1, v2, rfl, _, g2⟩ := hvd.two
            refine ⟨va, _, _, _, rfl, rfl, hva, rfl, (by show 2 ≤ sizeLine; decide), fun t ht => ?_⟩
            have s12 := same_new (o := .tup [V.int 0, v2]) ht
            have b1012 : But p c H10 (upd H11 t (.tup [V.int 0, v2])) := fun b o z h1 h2 => s12 _ _ (b11 _ _ z h1 h2)
            have lw := lw.but b1012
            have ln := ln.but b1012
            have lk := lk.but b1012
            have lh := lh.but b1012
            have lkp := lkp.but b1012
            have ph := Paired.mapP ph fun _ h z => Dp.tps (b1012.tps P10) z (noL_hda h)
            refine ⟨kp, _, _, rfl, rfl, lkp.e, by show 0 < sizeLine; decide, ?_⟩
            have t13 : Tps (upd H11 t (.tup [V.int 0, v2])) (upd (upd H11 t (.tup [V.int 0, v2])) kp (.lst ([] ++ [.ref t]))) := Tps.lst lkp.e
            refine ⟨rfl, ((P11.same s12).upd lkp.n1 lkp.n2).mono (by omega), fun b o z h1 h2 => ?_, lw.upd kw.symm, ln.upd kN.symm, lk.upd kK.symm, lh.upd kH.symm, Paired.mapP ph fun _ h z => Dp.tps t13 z (noL_hda h), [] ++ [.ref t], [⟨0, e.ts⟩], ⟨upd_same, lkp.n1, lkp.n2⟩, .cons ?_ .nil, Nat.le_refl _, fun x hx => ?_⟩
            · rw [upd_ne (ne_of_none z fk)]
              exact b1012 _ _ (b910 _ _ z h1 h2) h1 h2
            · exact .tup (t13.sqt (SqT.of upd_same)) (.cons (.int _) (.cons (Dp.tps t13 (g2.same s12) (noLs_map (fun _ => rfl) _)) .nil))
            · rw [List.mem_singleton.mp hx]
              exact ⟨rfl, ⟨by show (-3 : Int) ≤ 0; decide, by show (0 : Int) ≤ 3; decide⟩, hex.nm, hex.up, hex.ln⟩
          · exact ⟨rfl, P10.mono (by omega), b910, lw, ln, lk, lh, ph, [], [], lkp, .nil, by show 0 ≤ 1; decide, fun _ z => (nomatch z)⟩
        · exact ⟨rfl, P9.mono (by omega), b9, lw, ln, lk, lh, ph, [], [], lkp, .nil, by show 0 ≤ 1; decide, fun _ z => (nomatch z)⟩
      · rintro σ H10 ⟨rfl, P10, b10, lw, ln, lk, lh, ph, kus, keeps, lkp, pk, lkk, kk⟩
        refine ⟨(by show 0 ≤ sizeLine; decide), fun fl hfl => ?_⟩
        have s11 := same_new (o := .lst []) hfl
        have lf : LsAt (upd H10 fl (.lst [])) p c fl [] := LsAt.new P10 hfl
        have fw' : fl ≠ wl := fun z => by rw [z, lw.e] at hfl; cases hfl
        have fN : fl ≠ nl := fun z => by rw [z, ln.e] at hfl; cases hfl
        have fK : fl ≠ kl := fun z => by rw [z, lk.e] at hfl; cases hfl
        have fH : fl ≠ hl := fun z => by rw [z, lh.e] at hfl; cases hfl
        have fP : fl ≠ kp := fun z => by rw [z, lkp.e] at hfl; cases hfl
        have ff : H fl = none := by
          cases q : H fl with
          | none => rfl
          | some o =>
            have z : H10 fl = some o := b10 _ _ q lf.n1 lf.n2
            rw [hfl] at z; cases z
        have P11 := P10.same s11
        have lw := lw.same s11
        have ln := ln.same s11
        have lk := lk.same s11
        have lh := lh.same s11
        have lkp := lkp.same s11
        have ph := Paired.mapP ph fun _ h z => Dp.same s11 z
        have pk := Paired.mapP pk fun _ h z => Dp.same s11 z
        have b11 : But p c H (upd H10 fl (.lst [])) := fun b o z h1 h2 => s11 _ _ (b10 _ _ z h1 h2)
        clear hfl s11 P10 b10
        generalize upd H10 fl (.lst []) = H11 at *
        refine ⟨_, rfl, hl, rfl, ⟨_, SqL.of lh.e⟩, ?_⟩
        refine for_list (K := K) (a := hl) (xs := hs) (fun i σ H' => (∃ x9 x10 x12 : Option V, σ = [some (.ref p), some (.ref wl), some (.ref nl), some (.ref kl), some (.ref hl), x5, x6, some (.ref kp), some (.ref fl), x9, x10, none, x12]) ∧ But p c H H' ∧ LsAt H' p c wl (ws.map V.str) ∧ LsAt H' p c nl ((ws.take rN.toNat).map V.str) ∧ LsAt H' p c kl (((ws.drop 3).take (1 + rK.toNat)).map V.str) ∧ LsAt H' p c hl hs ∧ Paired (fun x h => Dp K H' x (hdaD h)) hs heads ∧ LsAt H' p c kp kus ∧ Paired (fun x e => Dp K H' x (exD e)) kus keeps ∧
          ∃ (us : List V) (fns : List Fn) (bu : Nat), PoolAt H' p c (Lim bu) (n + 25 + i * (10 + c5)) ∧ LsAt H' p c fl us ∧ us.length = i ∧ Paired (fun x f => Dp K H' x (fnD f)) us fns ∧ (fns.map fun f => (f.name, f.ps)) = heads.take i ∧ (fns.map fun f => szB f.b).sum + bu = b0 + i ∧
            ∀ f ∈ fns, ∃ e blk, f.b = .set w10 e :: blk ∧ blk.length ≤ 3 ∧ dpB blk ≤ 5 ∧ EX (ws.take rN.toNat ++ prs f) e ∧ wL (ws.take rN.toNat ++ (prs f ++ [w10])) ((ws.drop 3).take (1 + rK.toNat)) heads false blk)
          ⟨⟨_, _, _, rfl⟩, b11, lw, ln, lk, lh, ph, lkp, pk, [], [], b0, by rw [Nat.zero_mul]; exact P11, lf, rfl, .nil, by simp, Nat.zero_add _, fun _ z => (nomatch z)⟩ (fun i σ H' _ h' => SqL.of h'.2.2.2.2.2.1.e) ?_ ?_
        · rintro i x σ H12 hx ⟨⟨x9, x10, x12, rfl⟩, b12, lw, ln, lk, lh, ph, lkp, pk, us, fns, bu, P12, lf, lus, pf, hfn, hsz, hfs⟩
          obtain ⟨hd, hhd, hdd⟩ := Paired.at ph hx
          have hi : i < hs.length := (List.getElem?_eq_some_iff.mp hx).1
          have mh := List.mem_of_getElem? hhd
          obtain ⟨ba1, ba2, bk, hps⟩ := hp hd mh
          have hdd' : Dp K H12 x (.tuple [.str hd.1, .tuple (hd.2.map prD)]) := hdd
          obtain ⟨ha, hx2, rfl, hha, hhd2⟩ := hdd'.tupInv
          obtain ⟨hv1, hv2, rfl, hg1, hg2⟩ := hhd2.two
          rw [hg1.strInv] at hha
          obtain ⟨pa, px, rfl, hpa, hpd⟩ := hg2.tupInv
          have pp := DpAll.map hpd
          have lpx : px.length = hd.2.length := Paired.length pp
          have l22 : hd.2.length ≤ 2 := by rw [hps, List.length_take]; exact Nat.min_le_right _ _
          have nb : i * (10 + c5) ≤ 2 * (10 + c5) := Nat.mul_le_mul_right _ (by omega)
          refine ⟨_, rfl, _, rfl, ha, _, _, _, rfl, rfl, hha, rfl, pa, rfl, ⟨_, hpa⟩, fun D hD => ?_⟩
          have Dp' := P12.ne1 hD
          have Dc := P12.ne2 hD
          refine lc_tup (K := K) (a := pa) (xs := px) (fun j H' => Same H12 H' ∧ H' D = some (.lst (((hd.2.take j).map Prod.fst).map V.str))) ⟨same_new hD, upd_same⟩ (fun j H' _ h' => SqT.same h'.1 hpa) ?_ ?_
          · rintro j z H13 hz ⟨s13, eD⟩
            obtain ⟨pr, hpr, hpr2⟩ := Paired.at pp hz
            have hj : j < px.length := (List.getElem?_eq_some_iff.mp hz).1
            have hpr2 : Dp K H12 z (.tuple [.str pr.1, .bool pr.2]) := hpr2
            obtain ⟨pz, pzs, rfl, hpz, hpzd⟩ := hpr2.tupInv
            obtain ⟨z1, z2, rfl, zg1, _⟩ := hpzd.two
            rw [zg1.strInv] at hpz
            refine ⟨wipe1 (by decide), V.ref pz, by kernel_rfl, pz, _, _, _, rfl, rfl, SqT.same s13 hpz, rfl, ?_⟩
            refine ⟨_, eD, small1000 (by rw [List.length_map, List.length_map, List.length_take]; omega), fun b o z => ?_, ?_⟩
            · rw [upd_ne (ne_of_none z hD)]
              exact s13 _ _ z
            · rw [upd_same, take_snoc hpr, List.map_append, List.map_append]
              rfl
          · rintro H13 ⟨s13, eD⟩
            rw [lpx, List.take_length] at eD
            have lw13 := lw.same s13
            have ln13 := ln.same s13
            have lps : (hd.2.map Prod.fst).length ≤ 2 := by rw [List.length_map]; exact l22
            refine ⟨nl, D, _, _, rfl, rfl, ln13.e, eD, Nat.le_of_lt (small1000 (by rw [List.length_map, List.length_map]; omega)), fun q1 hq1 => ?_⟩
            have s14 := same_new (o := .lst ((ws.take rN.toNat).map V.str ++ (hd.2.map Prod.fst).map V.str)) hq1
            have eq1 : upd H13 q1 (.lst ((ws.take rN.toNat).map V.str ++ (hd.2.map Prod.fst).map V.str)) q1 = some (.lst ((ws.take rN.toNat).map V.str ++ (hd.2.map Prod.fst).map V.str)) := upd_same
            have s1214 := s13.trans s14
            have lw14 := lw.same s1214
            generalize upd H13 q1 (.lst ((ws.take rN.toNat).map V.str ++ (hd.2.map Prod.fst).map V.str)) = H14 at *
            refine ⟨_, rfl, wl, _, _, _, rfl, rfl, SqL.of lw14.e, a10, (by show 1 ≤ sizeLine; decide), fun q2 hq2 => ?_⟩
            have s15 := same_new (o := .lst [V.str w10]) hq2
            refine ⟨q1, q2, _, _, rfl, rfl, s15 _ _ eq1, upd_same, Nat.le_of_lt (small1000 (by rw [List.length_append, List.length_map, List.length_map]; show _ + _ + 1 ≤ _; omega)), fun ol hol => ?_⟩
            have s16 := same_new (o := .lst (((ws.take rN.toNat).map V.str ++ (hd.2.map Prod.fst).map V.str) ++ [V.str w10])) hol
            have s1216 := (s1214.trans s15).trans s16
            have eol : upd (upd H14 q2 (.lst [V.str w10])) ol (.lst (((ws.take rN.toNat).map V.str ++ (hd.2.map Prod.fst).map V.str) ++ [V.str w10])) ol = some (.lst (((ws.take rN.toNat).map V.str ++ (hd.2.map Prod.fst).map V.str) ++ [V.str w10])) := upd_same
            have nol : H12 ol = none := none_same (s1214.trans s15) hol
            clear s16 s15 s14 hq2 hq1 hol
            generalize upd (upd H14 q2 (.lst [V.str w10])) ol (.lst (((ws.take rN.toNat).map V.str ++ (hd.2.map Prod.fst).map V.str) ++ [V.str w10])) = H16 at *
            have P16 := P12.same s1216
            have lol : LsAt H16 p c ol _ := ⟨eol, P12.ne1 nol, P12.ne2 nol⟩
            -- first
            refine ⟨_, rfl, wl, _, _, _, rfl, rfl, SqL.of (lw.same s1216).e, a10, ?_⟩
            refine ⟨_, rfl, _, rfl, _, rfl, _, rfl, ol, _, rfl, SqL.of lol.e, fun q3 hq3 => ?_⟩
            rw [cut_last]
            have eqs : (ws.take rN.toNat).map V.str ++ (hd.2.map Prod.fst).map V.str = (ws.take rN.toNat ++ hd.2.map Prod.fst).map V.str := by rw [List.map_append]
            have s17 := same_new (o := .lst ((ws.take rN.toNat).map V.str ++ (hd.2.map Prod.fst).map V.str)) hq3
            have eq3 : upd H16 q3 (.lst ((ws.take rN.toNat).map V.str ++ (hd.2.map Prod.fst).map V.str)) q3 = some (.lst ((ws.take rN.toNat ++ hd.2.map Prod.fst).map V.str)) := by rw [upd_same, eqs]
            have nq3 := P16.ne1 hq3
            have nq4 := P16.ne2 hq3
            have P17 := P16.same s17
            have lol := lol.same s17
            have s1217 := s1216.trans s17
            generalize upd H16 q3 (.lst ((ws.take rN.toNat).map V.str ++ (hd.2.map Prod.fst).map V.str)) = H17 at *
            have psub : (hd.2.map Prod.fst).Sublist [w8, w9] := by rw [hps, List.map_take]; exact take2_sub bk
            have osub : (ws.take rN.toNat ++ (hd.2.map Prod.fst ++ [w10])).Sublist ws := own_sub h8 h9 h10 (by omega) psub
            have ond : (ws.take rN.toNat ++ (hd.2.map Prod.fst ++ [w10])).Nodup := nok.nd.sublist osub
            have ond2 : (ws.take rN.toNat ++ hd.2.map Prod.fst).Nodup := by
              rw [← List.append_assoc] at ond
              exact ond.sublist (List.sublist_append_left _ _)
            have l5 : (ws.take rN.toNat ++ hd.2.map Prod.fst).length ≤ 4 := by rw [List.length_append]; omega
            refine ⟨p, c, q3, Lim bu, _, ws.take rN.toNat ++ hd.2.map Prod.fst, rfl, P17, by omega, eq3, nq3, nq4, ond2, by rw [List.length_append]; omega, fun v e H18 hex dx P18 b18 => ?_⟩
            have lol := lol.but b18
            refine ⟨(by show 3 ≤ sizeLine; decide), fun ft hft => ?_⟩
            have s19 := same_new (o := .tup [V.str "set", V.str w10, v]) hft
            have P19 := P18.same s19
            have lol := lol.same s19
            have b1219 : But p c H12 (upd H18 ft (.tup [V.str "set", V.str w10, v])) := fun b o z h1 h2 => s19 _ _ (b18 _ _ (s1217 _ _ z) h1 h2)
            have eft : upd H18 ft (.tup [V.str "set", V.str w10, v]) ft = some (.tup [V.str "set", V.str w10, v]) := upd_same
            have dv := dx.same s19
            clear s19 hft P18 b18 dx P17 s1217 s17 hq3 eq3 P16 lw14 lw13 ln13
            generalize upd H18 ft (.tup [V.str "set", V.str w10, v]) = H19 at *
            have dfirst : Dp K H19 (.ref ft) (stD (.set w10 e)) := .tup (SqT.of eft) (.cons (.str _) (.cons (.str _) (.cons dv .nil)))
            -- functions.append(head + ((first,) + block,))
            have lf19 := lf.but b1219
            refine ⟨_, rfl, .inl ⟨rfl, _, SqL.of lf19.e⟩, _, rfl, _, rfl, (by show 1 ≤ sizeLine; decide), fun u1 hu1 => ?_⟩
            have s20 := same_new (o := .tup [V.ref ft]) hu1
            refine ⟨_, rfl, _, rfl, _, rfl, _, rfl, (by show 3 ≤ sizeLine; decide), fun ev hev => ?_⟩
            have s21 := same_new (o := .tup [V.ref ol, V.ref kl, V.ref hl]) hev
            have s1921 := s20.trans s21
            have P21 := P19.same s1921
            have b1221 : But p c H12 (upd (upd H19 u1 (.tup [V.ref ft])) ev (.tup [V.ref ol, V.ref kl, V.ref hl])) := fun b o z h1 h2 => s1921 _ _ (b1219 _ _ z h1 h2)
            have eu1 := s21 _ _ (upd_same (H := H19) (a := u1) (o := .tup [V.ref ft]))
            have eev : upd (upd H19 u1 (.tup [V.ref ft])) ev (.tup [V.ref ol, V.ref kl, V.ref hl]) ev = some (.tup [V.ref ol, V.ref kl, V.ref hl]) := upd_same
            have dfirst := dfirst.same s1921
            have lol := lol.same s1921
            clear s1921 s21 s20 hev hu1 P19
            generalize upd (upd H19 u1 (.tup [V.ref ft])) ev (.tup [V.ref ol, V.ref kl, V.ref hl]) = H21 at *
            have lk21 := lk.but b1221
            have lh21 := lh.but b1221
            have eown : (ws.take rN.toNat).map V.str ++ (hd.2.map Prod.fst).map V.str ++ [V.str w10] = (ws.take rN.toNat ++ (hd.2.map Prod.fst ++ [w10])).map V.str := by
              rw [List.map_append, List.map_append, List.append_assoc]
              rfl
            have env : EnvAt K H21 p c (.ref ev) (ws.take rN.toNat ++ (hd.2.map Prod.fst ++ [w10])) ((ws.drop 3).take (1 + rK.toNat)) heads :=
              ⟨ev, ol, kl, hl, hs, rfl, SqT.of eev, by rw [lol.e, eown], lk21.e, lh21.e, Paired.mapP ph fun _ h z => Dp.tps (b1221.tps P12) z (noL_hda h), ⟨lol.n1, lol.n2⟩, ⟨lk21.n1, lk21.n2⟩, ⟨lh21.n1, lh21.n2⟩⟩
            have envok : EnvOk (ws.take rN.toNat ++ (hd.2.map Prod.fst ++ [w10])) ((ws.drop 3).take (1 + rK.toNat)) heads := by
              refine ⟨⟨ond, by simp, by rw [List.length_append, List.length_append]; show _ + (_ + 1) ≤ 8; omega⟩, ⟨fun z => ?_, by rw [List.length_take]; omega⟩, ⟨List.ne_nil_of_mem mh, hd1.2⟩, fun h hh => ?_⟩
              · have := congrArg List.length z
                rw [List.length_take, List.length_drop, List.length_nil] at this
                omega
              · obtain ⟨c1, c2, ck, hc⟩ := hp h hh
                have m1 : h.1 ∈ ws := by
                  have : h.1 ∈ heads.map Prod.fst := List.mem_map.mpr ⟨h, hh, rfl⟩
                  rw [hf] at this
                  exact List.mem_of_mem_drop (List.mem_of_mem_take this)
                refine ⟨by rw [hc, List.length_take]; exact Nat.min_le_right _ _, nok.name _ m1, fun pr hpr => ?_⟩
                rw [hc] at hpr
                have hpr := List.mem_of_mem_take hpr
                simp only [List.mem_cons, List.not_mem_nil, or_false] at hpr
                rcases hpr with rfl | rfl
                · exact nok.name _ (List.mem_of_getElem? h8)
                · exact nok.name _ (List.mem_of_getElem? h9)
            refine ⟨p, c, .ref ev, _, bu, 2, false, _, _, heads, rfl, P21, by omega, env, envok, fun _ => (by decide), fun h => (nomatch h), fun bv blk bu2 H22 wl2 bl3 bdp bsz bdx P22 b22 => ?_⟩
            have bdx : Dp K H22 bv (.tuple (stsD blk)) := bdx
            obtain ⟨bb, bxs, rfl, hbb, hbbd⟩ := bdx.tupInv
            have t22 := b22.tps P21
            have t1222 := (b1221.tps P12).trans t22
            have b1222 : But p c H12 H22 := fun b o z h1 h2 => b22 _ _ (b1221 _ _ z h1 h2) h1 h2
            have lbx : bxs.length = blk.length := by rw [stsD_map] at hbbd; exact Paired.length hbbd.map
            refine ⟨u1, bb, _, _, rfl, rfl, t22.sqt (SqT.of eu1), hbb, (fun z => nomatch z), Nat.le_of_lt (small1000 (by show 1 + bxs.length ≤ 1000; omega)), fun bp H23 s23 hbp => ?_⟩
            refine ⟨(by show 1 ≤ sizeLine; decide), fun u2 hu2 => ?_⟩
            have s24 := same_new (o := .tup [V.ref bp]) hu2
            refine ⟨ha, u2, _, _, rfl, rfl, SqT.same (s23.trans s24) (t1222.sqt hha), SqT.of upd_same, (fun z => nomatch z), (by show 2 + 1 ≤ sizeLine; decide), fun fp H25 s25 hfp => ?_⟩
            have s2225 := (s23.trans s24).trans s25
            have s2325 := s24.trans s25
            have b1225 : But p c H12 H25 := fun b o z h1 h2 => s2225 _ _ (b1222 _ _ z h1 h2)
            have P25 := P22.same s2225
            have lf25 := lf.but b1225
            refine ⟨fl, _, _, rfl, rfl, lf25.e, small1000 (by omega), ?_⟩
            have t26 : Tps H25 (upd H25 fl (.lst (us ++ [.ref fp]))) := Tps.lst lf25.e
            have t1225 := t1222.trans (Tps.of s2225)
            have dblk : DpAll K H25 (V.ref ft :: bxs) (stsD (.set w10 e :: blk)) := .cons ((Dp.tps t22 dfirst (noL_st _)).same s2225) (DpAll.same s2225 hbbd)
            have dfn : Dp K H25 (.ref fp) (fnD ⟨hd.1, hd.2, .set w10 e :: blk⟩) := by
              refine .tup hfp (.cons (.str _) (.cons (.tup (t1225.sqt hpa) ?_) (.cons (.tup (SqT.same s2325 hbp) dblk) .nil)))
              exact DpAll.tps t1225 hpd (noLs_map noL_pr _)
            have prq : prs ⟨hd.1, hd.2, .set w10 e :: blk⟩ = hd.2.map Prod.fst := rfl
            refine ⟨⟨_, _, _, rfl⟩, fun b o z h1 h2 => ?_, (lw.but b1225).upd fw'.symm, (ln.but b1225).upd fN.symm, (lk.but b1225).upd fK.symm, (lh.but b1225).upd fH.symm, Paired.mapP ph fun _ h z => Dp.tps (t1225.trans t26) z (noL_hda h), (lkp.but b1225).upd fP.symm, Paired.mapP pk fun _ h z => Dp.tps (t1225.trans t26) z (noL_ex h), us ++ [.ref fp], fns ++ [⟨hd.1, hd.2, .set w10 e :: blk⟩], bu2, ?_, ⟨upd_same, lf.n1, lf.n2⟩, by rw [List.length_append, lus]; rfl, Paired.snoc (Paired.mapP pf fun _ f z => Dp.tps (t1225.trans t26) z (noL_fn f)) (Dp.tps t26 dfn (noL_fn _)), ?_, ?_, fun f hf => ?_⟩
            · rw [upd_ne (ne_of_none z ff)]
              exact b1225 _ _ (b12 _ _ z h1 h2) h1 h2
            · refine (P25.upd lf.n1 lf.n2).mono ?_
              rw [Nat.succ_mul]
              omega
            · rw [List.map_append, hfn, take_snoc hhd]
              rfl
            · rw [List.map_append, List.sum_append]
              show _ + (1 + 0 + szB blk + 0) + bu2 = _
              omega
            · rcases List.mem_append.mp hf with z | z
              · exact hfs f z
              · rw [List.mem_singleton.mp z]
                exact ⟨e, blk, rfl, bl3, bdp, hex, wl2⟩
        · rintro σ H12 ⟨⟨x9, x10, x12, rfl⟩, b12, lw, ln, lk, lh, ph, lkp, pk, us, fns, bu, P12, lf, lus, pf, hfn, hsz, hfs⟩
          rw [lhd, List.take_length] at hfn
          have lfn : fns.length = heads.length := by rw [← hfn, List.length_map]
          rw [lhd] at P12 hsz
          have nb : heads.length * (10 + c5) ≤ 3 * (10 + c5) := Nat.mul_le_mul_right _ hd1.2
          refine ⟨_, rfl, nl, _, rfl, .inl ⟨SqL.of ln.e, fun l1 hl1 => ?_⟩⟩
          have s1 := same_new (o := .tup ((ws.take rN.toNat).map V.str)) hl1
          refine ⟨_, rfl, kl, _, rfl, .inl ⟨SqL.of (s1 _ _ lk.e), fun l2 hl2 => ?_⟩⟩
          have s2 := same_new (o := .tup (((ws.drop 3).take (1 + rK.toNat)).map V.str)) hl2
          have s12 := s1.trans s2
          refine ⟨_, rfl, kp, _, rfl, .inl ⟨SqL.of (s12 _ _ lkp.e), fun l3 hl3 => ?_⟩⟩
          have s3 := same_new (o := .tup kus) hl3
          have s13 := s12.trans s3
          refine ⟨_, rfl, fl, _, rfl, .inl ⟨SqL.of (s13 _ _ lf.e), fun l4 hl4 => ?_⟩⟩
          have s4 := same_new (o := .tup us) hl4
          have s14 := s13.trans s4
          refine ⟨(by show 4 ≤ sizeLine; decide), fun tt htt => ?_⟩
          have s5 := same_new (o := .tup [V.ref l1, V.ref l2, V.ref l3, V.ref l4]) htt
          have s15 := s14.trans s5
          have e1 := s5 _ _ (s4 _ _ (s3 _ _ (s2 _ _ (upd_same (H := H12) (a := l1) (o := .tup ((ws.take rN.toNat).map V.str))))))
          have e2 := s5 _ _ (s4 _ _ (s3 _ _ (upd_same (H := upd H12 l1 (.tup ((ws.take rN.toNat).map V.str))) (a := l2) (o := .tup (((ws.drop 3).take (1 + rK.toNat)).map V.str)))))
          have e3 := s5 _ _ (s4 _ _ (upd_same (H := upd (upd H12 l1 (.tup ((ws.take rN.toNat).map V.str))) l2 (.tup (((ws.drop 3).take (1 + rK.toNat)).map V.str))) (a := l3) (o := .tup kus)))
          have e4 := s5 _ _ (upd_same (H := upd (upd (upd H12 l1 (.tup ((ws.take rN.toNat).map V.str))) l2 (.tup (((ws.drop 3).take (1 + rK.toNat)).map V.str))) l3 (.tup kus)) (a := l4) (o := .tup us))
          refine k _ ⟨ws.take rN.toNat, (ws.drop 3).take (1 + rK.toNat), keeps, fns⟩ bu _ ⟨ws, nok, l16, rN.toNat, 1 + rK.toNat, by omega, by omega, by omega, rfl, rfl, kk, lkk, by show 1 ≤ fns.length; omega, by show fns.length ≤ 3; omega, ?_, by show (fns.map fun f => szB f.b).sum ≤ 33; omega, w8, w9, w10, h8, h9, h10, fun f hf => ⟨?_, ?_⟩⟩ ?_ ((P12.same s15).mono (by omega)) (fun b o z h1 h2 => s15 _ _ (b12 _ _ z h1 h2))
          · show fns.map Fn.name = (ws.drop 5).take fns.length
            rw [lfn, ← hf, ← hfn, List.map_map]
            rfl
          · exact hp (f.name, f.ps) (by rw [← hfn]; exact List.mem_map.mpr ⟨f, hf, rfl⟩)
          · obtain ⟨e, blk, q1, q2, q3, q4, q5⟩ := hfs f hf
            refine ⟨e, blk, q1, q2, q3, q4, ?_⟩
            show wL _ _ (fns.map fun f => (f.name, f.ps)) false blk
            rw [hfn]
            exact q5
          · refine .tup (SqT.of upd_same) (.cons (.tup (SqT.of e1) (dpAll_strs _)) (.cons (.tup (SqT.of e2) (dpAll_strs _)) (.cons (.tup (SqT.of e3) ?_) (.cons (.tup (SqT.of e4) ?_) .nil))))
            · exact DpAll.ofPaired (Paired.mapP pk fun _ _ z => z.same s15)
            · exact DpAll.ofPaired (Paired.mapP pf fun _ _ z => z.same s15)
end

/-! ### _law_parts, _law_size -/
abbrev sLPt : Stmt := topS 29
abbrev NLPt : List Str := ["_law_statement", "_law_handler"]
abbrev PLPt : List Str := ["_law_statement"]
theorem scLPt : FnScope NLPt PLPt (defScope sLPt) := ⟨rfl, rfl, rfl, by decide +kernel, rfl, by decide +kernel, by decide +kernel⟩
theorem Paired.mapR {α β γ : Type} {F : α → γ → Prop} {f : β → γ} : ∀ {xs : List α} {l : List β}, Paired (fun x g => F x (f g)) xs l → Paired F xs (l.map f)
  | _, _, .nil => .nil
  | _, _, .cons a b => .cons a (Paired.mapR b)
def spLPt (K : PySem.W.Frag) : Sp := fun vs H Q _ => ∃ (v : V) (s : St), vs = [v] ∧ Dp K H v (stD s) ∧ gS s ∧
  ∀ (q : Addr) (xs : List V) (H' : Hp), Same H H' → H q = none → H' q = some (.lst xs) → Paired (fun x b => Dp K H' x (blD b)) xs (parts s) → Q (.ref q) H'
section
variable {P : Program} {w : World} {K : PySem.W.Frag} {mg : Str → Option Value} {base : Heap}
theorem ok_LPt {f : Addr} {fd : FuncData} (F : Fun K "_law_parts" "_law_parts" sLPt f fd) : FnOk P w K mg base CX0 1 f fd PLPt (spLPt K) := by
  refine F.ok scLPt (fun vs H Q E h => ?_) (fun cdv A outer sh H vs Q E hr h => ?_)
  · obtain ⟨v, s, rfl, _⟩ := h
    rfl
  · obtain ⟨v, st, rfl, hv, oks, k⟩ := h
    refine ⟨_, (pss_cons (ps_if (pt_cmpR op_eq (pe_ix (r := rIxT K) ix_tup (pv 0) pe_int (fun _ _ => rfl)) pe_str (nomark _))
  (pss_one (ps_ret (pe_lst (pa_cons (pe_ix (r := rIxT K) ix_tup (pv 0) pe_int (fun _ _ => rfl)) (pa_cons (pe_ix (r := rIxT K) ix_tup (pv 0) pe_int (fun _ _ => rfl)) pa_nil)))))
  pss_nil)
  (pss_cons (ps_if (pt_cmpR op_eq (pe_ix (r := rIxT K) ix_tup (pv 0) pe_int (fun _ _ => rfl)) pe_str (nomark _))
  (pss_one (ps_ret (pe_lst (pa_cons (pe_ix (r := rIxT K) ix_tup (pv 0) pe_int (fun _ _ => rfl)) pa_nil))))
  pss_nil)
  (pss_cons (ps_if (pt_cmpR op_eq (pe_ix (r := rIxT K) ix_tup (pv 0) pe_int (fun _ _ => rfl)) pe_str (nomark _))
  (pss_one (ps_ret (pe_op op_cat (pe_op op_cat (pe_lst (pa_cons (pe_ix (r := rIxT K) ix_tup (pv 0) pe_int (fun _ _ => rfl)) pa_nil)) (pe_lc (own := [("_law_handler", 1)]) (g := gName 1) (tt := tYes) rfl scLPt.nd (pi_tup (pe_ix (r := rIxT K) ix_tup (pv 0) pe_int (fun _ _ => rfl))) (blkOk_by (own := [("_law_handler", 1)]) (N := NLPt) (sc := (defScope sLPt)) (by decide +kernel)) (fun _ _ _ _ _ => (pg_name (i := 1) scLPt.nd rfl (Or.inl rfl))) (fun _ _ _ _ _ => pts_nil) (fun _ _ _ _ _ => (pe_ix (r := rIxT K) ix_tup (pv 1) pe_int (fun _ _ => rfl))))) (pe_lst (pa_cons (pe_ix (r := rIxT K) ix_tup (pv 0) pe_int (fun _ _ => rfl)) pa_nil)))))
  pss_nil)
  (pss_cons (ps_if (pt_cmpR op_eq (pe_ix (r := rIxT K) ix_tup (pv 0) pe_int (fun _ _ => rfl)) pe_str (nomark _))
  (pss_one (ps_ret (pe_lst (pa_cons (pe_ix (r := rIxT K) ix_tup (pv 0) pe_int (fun _ _ => rfl)) pa_nil))))
  pss_nil)
  (pss_cons (ps_if (pt_cmpR op_eq (pe_ix (r := rIxT K) ix_tup (pv 0) pe_int (fun _ _ => rfl)) pe_str (nomark _))
  (pss_one (ps_ret (pe_lst (pa_cons (pe_ix (r := rIxT K) ix_tup (pv 0) pe_int (fun _ _ => rfl)) pa_nil))))
  pss_nil)
  (pss_one (ps_ret (pe_lst pa_nil)))))))), ?_⟩
    obtain ⟨va, xs, rfl, hq, hd⟩ := stInv hv
    have one : ∀ {x : V} {b : List St}, Dp K H x (blD b) → parts st = [b] → ∀ q, H q = none → Q (.ref q) (upd H q (.lst [x])) := fun {x b} hx hp q hq => by
      have s1 := same_new (o := .lst [x]) hq
      exact k q [x] _ s1 hq upd_same (by rw [hp]; exact .cons (hx.same s1) .nil)
    have emp : parts st = [] → ∀ q, H q = none → Q (.ref q) (upd H q (.lst [])) := fun hp q hq => k q [] _ (same_new hq) hq upd_same (by rw [hp]; exact .nil)
    cases st <;> simp only [wordS] at hq
    case ite a b =>
      obtain ⟨x, y, rfl, h1, h2⟩ := DpAll.two hd
      refine ⟨_, rfl, va, _, _, _, rfl, rfl, hq, rfl, rfl, _, rfl, iteS rfl ?_⟩
      refine ⟨_, rfl, va, _, _, _, rfl, rfl, hq, rfl, _, rfl, va, _, _, _, rfl, rfl, hq, rfl, (by show 2 ≤ sizeLine; decide), fun q hn => ?_⟩
      have s1 := same_new (o := .lst [x, y]) hn
      exact k q [x, y] _ s1 hn upd_same (.cons (h1.same s1) (.cons (h2.same s1) .nil))
    case whl b =>
      obtain ⟨x, rfl, h1⟩ := DpAll.one hd
      refine ⟨_, rfl, va, _, _, _, rfl, rfl, hq, rfl, rfl, _, rfl, iteE rfl ?_⟩
      refine ⟨_, rfl, va, _, _, _, rfl, rfl, hq, rfl, rfl, _, rfl, iteS rfl ?_⟩
      exact ⟨_, rfl, va, _, _, _, rfl, rfl, hq, rfl, (by show 1 ≤ sizeLine; decide), one h1 rfl⟩
    case try_ b hs f =>
      obtain ⟨x, y, z, rfl, h1, h2, h3⟩ := DpAll.three hd
      refine ⟨_, rfl, va, _, _, _, rfl, rfl, hq, rfl, rfl, _, rfl, iteE rfl ?_⟩
      refine ⟨_, rfl, va, _, _, _, rfl, rfl, hq, rfl, rfl, _, rfl, iteE rfl ?_⟩
      refine ⟨_, rfl, va, _, _, _, rfl, rfl, hq, rfl, rfl, _, rfl, iteS rfl ?_⟩
      refine ⟨_, rfl, va, _, _, _, rfl, rfl, hq, rfl, (by show 1 ≤ sizeLine; decide), fun q1 hn1 => ?_⟩
      have s1 := same_new (o := .lst [x]) hn1
      have e1 : upd H q1 (.lst [x]) q1 = some (.lst [x]) := upd_same
      generalize upd H q1 (.lst [x]) = H1 at *
      have h2' : Dp K H1 y (.tuple (hdsD hs)) := h2.same s1
      obtain ⟨ha, zs, rfl, hza, hzd⟩ := h2'.tupInv
      rw [hdsD_map] at hzd
      have pz := DpAll.map hzd
      have lz : zs.length = hs.length := Paired.length pz
      have oks' : hs.length ≤ 2 ∧ gL b ∧ gHs hs ∧ gL f := oks
      refine ⟨_, rfl, va, _, _, _, rfl, rfl, SqT.same s1 hq, rfl, ha, rfl, ⟨_, hza⟩, fun D hD => ?_⟩
      refine lc_tup (K := K) (a := ha) (xs := zs) (fun i H' => Same H1 H' ∧ ∃ us, H' D = some (.lst us) ∧ us.length = i ∧ Paired (fun x (g : Hd) => Dp K H' x (blD g.b)) us (hs.take i)) ⟨same_new hD, [], upd_same, rfl, .nil⟩ (fun i H' _ h' => SqT.same h'.1 hza) ?_ ?_
      · rintro i v H2 hx ⟨s2, us, eD, lus, pus⟩
        obtain ⟨g, hg, hgd⟩ := Paired.at pz hx
        have hi : i < zs.length := (List.getElem?_eq_some_iff.mp hx).1
        obtain ⟨ks, gb⟩ := g
        have hgd : Dp K H1 v (.tuple [nmD ks, .tuple (stsD gb)]) := hgd
        obtain ⟨ga, gs, rfl, hga, hgd2⟩ := hgd.tupInv
        obtain ⟨g1, g2, rfl, k1, k2⟩ := hgd2.two
        refine ⟨wipe1 (by decide), V.ref ga, by kernel_rfl, ga, _, _, _, rfl, rfl, SqT.same s2 hga, rfl, us, eD, small1000 (by omega), fun c o z => ?_, _, upd_same, by rw [List.length_append, lus]; rfl, ?_⟩
        · rw [upd_ne (ne_of_none z hD)]
          exact s2 _ _ z
        · have tp : Tps H2 (upd H2 D (.lst (us ++ [g2]))) := Tps.lst eD
          rw [take_snoc hg]
          exact Paired.snoc (Paired.mapP pus fun _ g z => Dp.tps tp z (noL_bl g.b)) (Dp.tps tp (k2.same s2) (noL_bl gb))
      · rintro H2 ⟨s2, us, eD, lus, pus⟩
        rw [lz, List.take_length] at pus
        have e1' := s2 _ _ e1
        refine ⟨q1, D, _, _, rfl, rfl, e1', eD, Nat.le_of_lt (small1000 (by show 1 + us.length ≤ _; omega)), fun q2 hq2 => ?_⟩
        have s3 := same_new (o := .lst ([x] ++ us)) hq2
        refine ⟨_, rfl, va, _, _, _, rfl, rfl, SqT.same (s1.trans (s2.trans s3)) hq, rfl, (by show 1 ≤ sizeLine; decide), fun q3 hq3 => ?_⟩
        have s4 := same_new (o := .lst [z]) hq3
        refine ⟨q2, q3, _, _, rfl, rfl, s4 _ _ upd_same, upd_same, Nat.le_of_lt (small1000 (by show ([x] ++ us).length + 1 ≤ _; rw [List.length_append]; show 1 + us.length + 1 ≤ _; omega)), fun q4 hq4 => ?_⟩
        have s5 := same_new (o := .lst (([x] ++ us) ++ [z])) hq4
        have s25 := s2.trans (s3.trans (s4.trans s5))
        have s05 := s1.trans s25
        refine k q4 _ _ s05 (none_same (s1.trans (s2.trans (s3.trans s4))) hq4) upd_same ?_
        exact Paired.app (l₁ := [x] ++ us) (l₂ := b :: hs.map Hd.b) (.cons (h1.same s05) (Paired.mapR (Paired.mapP pus fun _ _ z => z.same (s3.trans (s4.trans s5))))) (.cons (h3.same s05) .nil)
    case undo ns b =>
      obtain ⟨x, y, rfl, h1, h2⟩ := DpAll.two hd
      refine ⟨_, rfl, va, _, _, _, rfl, rfl, hq, rfl, rfl, _, rfl, iteE rfl ?_⟩
      refine ⟨_, rfl, va, _, _, _, rfl, rfl, hq, rfl, rfl, _, rfl, iteE rfl ?_⟩
      refine ⟨_, rfl, va, _, _, _, rfl, rfl, hq, rfl, rfl, _, rfl, iteE rfl ?_⟩
      refine ⟨_, rfl, va, _, _, _, rfl, rfl, hq, rfl, rfl, _, rfl, iteS rfl ?_⟩
      exact ⟨_, rfl, va, _, _, _, rfl, rfl, hq, rfl, (by show 1 ≤ sizeLine; decide), one h2 rfl⟩
    case with_ e l ks b =>
      obtain ⟨x, y, z, u, rfl, h1, h2, h3, h4⟩ := DpAll.four hd
      refine ⟨_, rfl, va, _, _, _, rfl, rfl, hq, rfl, rfl, _, rfl, iteE rfl ?_⟩
      refine ⟨_, rfl, va, _, _, _, rfl, rfl, hq, rfl, rfl, _, rfl, iteE rfl ?_⟩
      refine ⟨_, rfl, va, _, _, _, rfl, rfl, hq, rfl, rfl, _, rfl, iteE rfl ?_⟩
      refine ⟨_, rfl, va, _, _, _, rfl, rfl, hq, rfl, rfl, _, rfl, iteE rfl ?_⟩
      refine ⟨_, rfl, va, _, _, _, rfl, rfl, hq, rfl, rfl, _, rfl, iteS rfl ?_⟩
      exact ⟨_, rfl, va, _, _, _, rfl, rfl, hq, rfl, (by show 1 ≤ sizeLine; decide), one h4 rfl⟩
    all_goals
      refine ⟨_, rfl, va, _, _, _, rfl, rfl, hq, (atI_nat (j := 0) rfl), rfl, _, rfl, iteE (by decide +kernel) ?_⟩
      refine ⟨_, rfl, va, _, _, _, rfl, rfl, hq, (atI_nat (j := 0) rfl), rfl, _, rfl, iteE (by decide +kernel) ?_⟩
      refine ⟨_, rfl, va, _, _, _, rfl, rfl, hq, (atI_nat (j := 0) rfl), rfl, _, rfl, iteE (by decide +kernel) ?_⟩
      refine ⟨_, rfl, va, _, _, _, rfl, rfl, hq, (atI_nat (j := 0) rfl), rfl, _, rfl, iteE (by decide +kernel) ?_⟩
      refine ⟨_, rfl, va, _, _, _, rfl, rfl, hq, (atI_nat (j := 0) rfl), rfl, _, rfl, iteE (by decide +kernel) ?_⟩
      exact ⟨(by show 0 ≤ sizeLine; decide), emp rfl⟩
end

/-! ### the law -/
def rSlU (K : PySem.W.Frag) : V → Option Int → Option Int → Hp → VK → Prop := fun x lo hi H Q => ∃ a xs, x = .ref a ∧ SqT K H a xs ∧ ∀ p H', Same H H' → SqT K H' p (cutV xs lo hi) → Q (.ref p) H'
theorem sl_tupU {X : Cx} : SlR X (rSlU X.K) := by
  intro pins s σ H x v vl vu lo hi sl Q I rx hs pl pu h
  obtain ⟨a, xs, rfl, hx, k⟩ := h
  refine sl_tupA pins s σ H _ v vl vu lo hi sl Q I rx hs pl pu ⟨a, xs, rfl, hx, fun hw => k a H (Same.refl _) ?_, fun _ p hp => k p _ (same_new hp) (SqT.of upd_same)⟩
  have e : cutV xs lo hi = xs := by
    unfold cutV
    rw [hw.1, hw.2, List.drop_zero, Nat.sub_zero, List.take_length]
  rw [e]
  exact hx
def rCatV (K : PySem.W.Frag) : R2 := fun x y H Q => ∃ a b xs ys, x = .ref a ∧ y = .ref b ∧ SqT K H a xs ∧ SqT K H b ys ∧ xs.length + ys.length ≤ sizeLine ∧ ∀ p H', Same H H' → SqT K H' p (xs ++ ys) → Q (.ref p) H'
theorem op_catV {X : Cx} : OpR X (binaryOp .Add) (rCatV X.K) := fun pins s σ H x y v u Q I rx ry ⟨a, b, xs, ys, e1, e2, q1, q2, sz, k⟩ =>
  op_catA pins s σ H x y v u Q I rx ry ⟨a, b, xs, ys, e1, e2, q1, q2, sz, fun e => k b H (Same.refl _) (by rw [e]; exact q2), fun _ e => k a H (Same.refl _) (by rw [e, List.append_nil]; exact q1), fun _ _ p hp => k p _ (same_new hp) (SqT.of upd_same)⟩

/-! ### a join within a comprehension -/
theorem pe_joinK {X : Cx} {K : PySem.W.Frag} {o e : Expr} {to te : TE} {apos pos : Pos} (hK : X.K = K) (ho : PE X o to) (he : PE X e te) (hs : starEach [e] X.env = [(false, eval e X.env)] := by rfl) (hbase : attributeBase o "join" X.env (eval o X.env) = eval o X.env := by rfl) (hline : (apos.endLine == pos.line) = true := by rfl) :
    PE X (.Call (.Attribute o "join" apos) [e] [] pos) (tM1 (fun x xs H Q => ∃ a p, ∃ ys : List Str, x = .str a ∧ xs = [.ref p] ∧ (SqL K H p (ys.map V.str) ∨ SqT K H p (ys.map V.str)) ∧
      (ys.map (·.length)).sum + ys.length * a.length ≤ 16777216 ∧ Q (.str (Txt.join a ys)) H) to te) := by
  subst hK
  exact pe_join ho he hs hbase hline

/-! ### k03: the law's texts of sums and calls -/
abbrev sLXt : Stmt := topS 31
abbrev NLXt : List Str := ["_law_expression_here", "_law_text_here", "_law_name", "_law_factor", "_law_body"]
abbrev PLXt : List Str := ["_law_expression_here"]
theorem scLXt : FnScope NLXt PLXt (defScope sLXt) := ⟨rfl, rfl, rfl, by decide +kernel, rfl, by decide +kernel, by decide +kernel⟩
theorem tailS_app (a X : Str) : ∀ r : List (Bool × Str), tailS (a ++ X) r = a ++ tailS X r := fun r => by
  induction r generalizing X with
  | nil => rfl
  | cons p r ih =>
    show tailS ((a ++ X) ++ (sepS p.1 ++ p.2)) r = a ++ tailS (X ++ (sepS p.1 ++ p.2)) r
    rw [show (a ++ X) ++ (sepS p.1 ++ p.2) = a ++ (X ++ (sepS p.1 ++ p.2)) from TL.ext_tl (by simp only [TL.tl_append, List.append_assoc]), ih]
/-- the parts that the law writes -/
def lawB0 (p : Str × Int) : Str := numS p.2.natAbs ++ (if p.1 = "" then ("" : Str) else "*" ++ p.1)
def lawBd (p : Str × Int) : Str := if p.1 ≠ "" ∧ p.2.natAbs = 1 then p.1 else lawB0 p
def lawPt (p : Str × Int) : List (Bool × Str) := if p.2 = 0 then [] else [(decide (p.2 < 0), lawBd p)]
theorem sepS_len (b : Bool) : (sepS b).length = 3 := by unfold sepS; split <;> decide +kernel
theorem cut_three (b : Bool) (u : Str) : cutS (sepS b ++ u) (some 3) none = u := by
  have h3 := sepS_len b
  refine TL.ext_tl ?_
  unfold cutS
  have e1 : HT.sIx (sepS b ++ u).length 0 (some 3) = min 3 (sepS b ++ u).length := HT.sIx_nat ..
  have e2 := len_add (sepS b) u
  rw [HT.sIx_none, e1, Nat.min_eq_left (by omega)]
  show (((sepS b ++ u).cps.toList.drop 3).take _) = TL.tl u
  have e3 : (sepS b ++ u).cps.toList = TL.tl (sepS b) ++ TL.tl u := TL.tl_append _ _
  have e4 : (TL.tl (sepS b)).length = 3 := by rw [← TL.len_tl]; exact h3
  rw [e3, List.drop_left' e4]
  exact List.take_of_length_le (by rw [← TL.len_tl]; omega)
theorem at_one (b : Bool) (u : Str) : (sepS b ++ u).cps.toList[1]? = some (if b = true then 45 else 43) := by
  have e3 : (sepS b ++ u).cps.toList = TL.tl (sepS b) ++ TL.tl u := TL.tl_append _ _
  rw [e3]
  cases b with
  | true => rw [show TL.tl (sepS true) = [32, 45, 32] by decide +kernel]; rfl
  | false => rw [show TL.tl (sepS false) = [32, 43, 32] by decide +kernel]; rfl
theorem add_assoc3 (A B D : Str) : A ++ B ++ D = A ++ (B ++ D) := TL.ext_tl (by simp only [TL.tl_append, List.append_assoc])
theorem law_parts {e : Ex} (g : GE e) : (e.ts ++ [(("", e.c) : Str × Int)]).flatMap lawPt = e.ts.map (fun p => (decide (p.2 < 0), termS p.1 p.2)) ++ (if e.c ≠ 0 then [(decide (e.c < 0), numS e.c.natAbs)] else []) := by
  rw [List.flatMap_append]
  congr 1
  · have : ∀ l : List (Str × Int), (∀ p ∈ l, isName p.1 = true ∧ p.2 ≠ 0) → l.flatMap lawPt = l.map (fun p => (decide (p.2 < 0), termS p.1 p.2)) := fun l => by
      induction l with
      | nil => exact fun _ => rfl
      | cons p l ih =>
        intro h
        obtain ⟨h1, h2⟩ := h p List.mem_cons_self
        rw [List.flatMap_cons, List.map_cons, ih fun q hq => h q (List.mem_cons_of_mem _ hq)]
        have ne := name_ne h1
        have e : lawPt p = [(decide (p.2 < 0), termS p.1 p.2)] := by
          unfold lawPt lawBd lawB0 termS
          rw [if_neg h2, if_neg ne]
          by_cases q : p.2.natAbs = 1
          · rw [if_pos ⟨ne, q⟩, if_pos q]
          · rw [if_neg fun z => q z.2, if_neg q, empty_add, add_assoc3]
        rw [e]
        rfl
    exact this e.ts fun p hp => ⟨(g.nm p hp).1, (g.nm p hp).2.2.1⟩
  · rw [List.flatMap_cons, List.flatMap_nil, List.append_nil]
    unfold lawPt lawBd lawB0
    by_cases q : e.c = 0
    · rw [if_pos q, if_neg fun z => z q]
    · rw [if_neg q, if_pos q, if_neg fun z => z.1 rfl, if_pos rfl, str_emp, add_empty]
structure TxLt (mg : Str → Option Value) : Prop where
  n_str : mg "str" = none
  n_abs : mg "abs" = none
  n_int : mg "int" = none
  n_len : mg "len" = none
  n_range : mg "range" = none
def spLXt (K : PySem.W.Frag) : Sp := fun vs H Q _ => ∃ (v : V) (e : Ex), vs = [v] ∧ Dp K H v (exD e) ∧ GE e ∧ ∀ H', Same H H' → Q (.str (exprZ e.c e.ts)) H'
section
variable {P : Program} {w : World} {K : PySem.W.Frag} {mg : Str → Option Value} {base : Heap}
theorem ok_LXt {f : Addr} {fd : FuncData} (F : Fun K "_law_expression_text" "_law_expression_text" sLXt f fd) (T : TxLt mg) : FnOk P w K mg base CX0 1 f fd PLXt (spLXt K) := by
  refine F.ok scLXt (fun vs H Q E h => ?_) (fun cdv A outer s H vs Q E hr h => ?_)
  · obtain ⟨v, e, rfl, _⟩ := h
    rfl
  · obtain ⟨v, e, rfl, hv, g, k⟩ := h
    refine ⟨_, (pss_cons (ps_set (i := 1) scLXt.nd rfl (Or.inl rfl) pe_str)
  (pss_cons (ps_for PassesOwn.never rfl (pi_tup (pe_op op_catV (pe_ix (r := rIxT K) ix_tup (pv 0) pe_int (fun _ _ => rfl)) (pe_tup (pa_cons (pe_tup (pa_cons pe_str (pa_cons (pe_ix (r := rIxT K) ix_tup (pv 0) pe_int (fun _ _ => rfl)) pa_nil))) pa_nil)))) (pg_tup (by rfl) (pgs_cons (pg_name (i := 2) scLXt.nd rfl (Or.inl rfl)) (pgs_cons (pg_name (i := 3) scLXt.nd rfl (Or.inl rfl)) pgs_nil)))
  (C8.pss_cut (ps_set (i := 4) scLXt.nd rfl (Or.inl rfl) (pe_op op_add_str (pe_callTy call_str_int (by rfl) T.n_str bb_str (pa_cons (pe_callB call_abs (by rfl) T.n_abs bb_abs (pa_cons (pv 3) pa_nil)) pa_nil)) (pe_ifExp (pt_cmpR op_eq (pv 2) pe_str (nomark _)) pe_str (pe_op op_add_str pe_str (pv 2)))))
  (C8.pss_cut (ps_if (PW.pt (pw_and (pt_cmpR op_ne (pv 2) pe_str (nomark _)) (pw_and1 (pt_cmpR op_eq (pe_callB call_abs (by rfl) T.n_abs bb_abs (pa_cons (pv 3) pa_nil)) pe_int (nomark _)))))
  (pss_one (ps_set (i := 4) scLXt.nd rfl (Or.inl rfl) (pv 2)))
  pss_nil)
  (pss_one (ps_if (pt_cmpR op_ne (pv 3) pe_int (nomark _))
  (pss_one (ps_set (i := 1) scLXt.nd rfl (Or.inl rfl) (pe_op op_add_str (pe_op op_add_str (pv 1) (pe_ix (r := rIxL K) ix_list (pe_lst (pa_cons pe_str (pa_cons pe_str pa_nil))) (pe_callTy call_int1 (by rfl) T.n_int bb_int (pa_cons (pe_cmpR op_lt (pv 3) pe_int (nomark _)) pa_nil)) (fun _ _ => rfl))) (pv 4))))
  pss_nil)))))
  (pss_cons (ps_if (pt_cmpR op_eq (pv 1) pe_str (nomark _))
  (pss_one (ps_ret pe_str))
  pss_nil)
  (pss_one (ps_ret (pe_ifExp (pt_cmpR op_eq (pe_ix ix_str (pv 1) pe_int (fun _ _ => rfl)) pe_str (nomark _)) (pe_slice sl_str (pv 1) (po_some pe_int) po_none) (pe_op op_add_str pe_str (pe_slice sl_str (pv 1) (po_some pe_int) po_none)))))))), ?_⟩
    have hv : Dp K H v (.tuple [.int e.c, .tuple (e.ts.map fun p => .tuple [.str p.1, .int p.2])]) := hv
    obtain ⟨a, xs, rfl, hq, hd⟩ := hv.tupInv
    obtain ⟨x, y, rfl, h1, h2⟩ := hd.two
    rw [h1.intInv] at hq
    obtain ⟨b, ys, rfl, hb, hbd⟩ := h2.tupInv
    have px := DpAll.map (f := fun p : Str × Int => PyData.tuple [.str p.1, .int p.2]) hbd
    refine ⟨_, rfl, a, _, _, _, rfl, rfl, hq, rfl, ?_⟩
    have e24 : sizeLine = 2 ^ 24 := rfl
    have le : ("" : Str).length = 0 := by decide +kernel
    have lst : ("*" : Str).length = 1 := by decide +kernel
    have pit : Paired (fun v (r : Str × Int) => ∃ a, v = .ref a ∧ SqT K H a [.str r.1, .int r.2]) ys e.ts := Paired.mapP px fun v r z => by
      have z : Dp K H v (.tuple [.str r.1, .int r.2]) := z
      obtain ⟨c, zs, rfl, hc, hcd⟩ := z.tupInv
      obtain ⟨x, y, rfl, h1, h2⟩ := hcd.two
      rw [h1.strInv, h2.intInv] at hc
      exact ⟨c, rfl, hc⟩
    have ly := Paired.length pit
    have lts := g.ln
    refine ⟨_, rfl, a, _, _, _, rfl, rfl, hq, rfl, (by show 2 ≤ sizeLine; decide), fun t ht => ⟨(by show 1 ≤ sizeLine; decide), fun u hu => ?_⟩⟩
    have s1 := same_new (o := .tup [V.str "", .int e.c]) ht
    have s2 := same_new (o := .tup [V.ref t]) hu
    have s12 := s1.trans s2
    have et : SqT K (upd (upd H t (.tup [V.str "", .int e.c])) u (.tup [V.ref t])) t [V.str "", .int e.c] := SqT.same s2 (SqT.of upd_same)
    refine ⟨b, u, _, _, rfl, rfl, SqT.same s12 hb, SqT.of upd_same, by rw [e24]; show ys.length + 1 ≤ _; omega, fun p H3 s3 hp => ?_⟩
    have s13 := s12.trans s3
    have pal : Paired (fun v (r : Str × Int) => ∃ a, v = .ref a ∧ SqT K H3 a [.str r.1, .int r.2]) (ys ++ [.ref t]) (e.ts ++ [(("", e.c) : Str × Int)]) := Paired.snoc (Paired.mapP pit fun v r ⟨c, e, q⟩ => ⟨c, e, SqT.same s13 q⟩) ⟨t, rfl, SqT.same s3 et⟩
    have lal := Paired.length pal
    have gal : ∀ r ∈ e.ts ++ [(("", e.c) : Str × Int)], r.2.natAbs < 10 ∧ r.1.length ≤ 3 := fun r hr => by
      rcases List.mem_append.mp hr with z | z
      · exact ⟨(g.nm r z).2.2.2, (g.nm r z).2.1⟩
      · rw [List.mem_singleton.mp z]
        exact ⟨g.c, by rw [le]; decide⟩
    refine ⟨p, rfl, ⟨_, hp⟩, for_it (walk_tup (K := K) (a := p) (xs := ys ++ [V.ref t])) (fun i σ H' => Same H3 H' ∧ ∃ x2 x3 x4 : Option V, σ = [some (.ref a), some (.str (tailS "" (((e.ts ++ [(("", e.c) : Str × Int)]).take i).flatMap lawPt))), x2, x3, x4]) ⟨Same.refl _, _, _, _, rfl⟩ (fun i σ H' _ h' => SqT.same h'.1 hp) ?_ ?_⟩
    · rintro i x σ H4 H5 hi ⟨s4, x2, x3, x4, rfl⟩ ⟨rfl, hx⟩
      obtain ⟨r, hr', c, rfl, hc⟩ := Paired.at pal hx
      obtain ⟨gr, gl⟩ := gal r (List.mem_of_getElem? hr')
      refine ⟨c, _, rfl, SqT.same s4 hc, rfl, _, _, rfl, _, _, rfl, rfl, ?_⟩
      have lg : r.2.natAbs.log2 < 1920 := log_lt (Nat.lt_of_lt_of_le gr (by decide))
      have ln := num_len10 gr
      have l0 : (lawB0 r).length ≤ 5 := by
        unfold lawB0
        rw [len_add, ln]
        split
        · rw [le]; decide
        · rw [len_add, lst]; omega
      have lb : (lawBd r).length ≤ 5 := by
        unfold lawBd
        split
        · omega
        · exact l0
      refine ⟨fun σ H' => σ = [some (.ref a), some (.str (tailS "" (((e.ts ++ [(("", e.c) : Str × Int)]).take i).flatMap lawPt))), some (.str r.1), some (.int r.2), some (.str (lawB0 r))] ∧ H' = H5, ?_, ?_⟩
      · refine ⟨_, rfl, r.2, rfl, _, rfl, by rw [abs_nat]; exact lg, ?_⟩
        rw [abs_nat]
        refine ⟨_, rfl, rfl, _, rfl, ?_⟩
        unfold lawB0
        by_cases hn : r.1 = ""
        · refine iteS (decide_eq_true (by rw [hn])) ?_
          rw [if_pos hn]
          exact ⟨_, _, rfl, rfl, by show (numS r.2.natAbs).length + _ ≤ _; rw [ln, le, e24]; decide, rfl, rfl⟩
        · refine iteE (decide_eq_false fun z => hn (by injection z)) ?_
          rw [if_neg hn]
          exact ⟨_, rfl, _, _, rfl, rfl, by rw [lst, e24]; omega, _, _, rfl, rfl, by show (numS r.2.natAbs).length + _ ≤ _; rw [ln, len_add, lst, e24]; omega, rfl, rfl⟩
      rintro σ H6 ⟨rfl, rfl⟩
      refine ⟨fun σ H' => σ = [some (.ref a), some (.str (tailS "" (((e.ts ++ [(("", e.c) : Str × Int)]).take i).flatMap lawPt))), some (.str r.1), some (.int r.2), some (.str (lawBd r))] ∧ H' = H6, ?_, ?_⟩
      · refine ⟨_, rfl, rfl, _, rfl, ?_⟩
        by_cases hn : r.1 = ""
        · have eb : lawBd r = lawB0 r := if_neg fun z => z.1 hn
          rw [eb]
          exact iteE (by rw [decide_eq_true (by rw [hn])]; rfl) ⟨rfl, rfl⟩
        · refine iteS (by rw [decide_eq_false fun z => hn (by injection z)]; rfl) ?_
          refine ⟨_, rfl, r.2, rfl, rfl, _, rfl, ?_⟩
          rw [abs_nat]
          by_cases h1 : r.2.natAbs = 1
          · have eb : lawBd r = r.1 := if_pos ⟨hn, h1⟩
            rw [eb]
            exact iteS (decide_eq_true (by rw [h1]; rfl)) ⟨_, rfl, rfl, rfl⟩
          · have eb : lawBd r = lawB0 r := if_neg fun z => h1 z.2
            rw [eb]
            exact iteE (decide_eq_false fun z => h1 (by injection z with z; omega)) ⟨rfl, rfl⟩
      rintro σ H7 ⟨rfl, rfl⟩
      have etk : ((e.ts ++ [(("", e.c) : Str × Int)]).take (i + 1)).flatMap lawPt = ((e.ts ++ [(("", e.c) : Str × Int)]).take i).flatMap lawPt ++ lawPt r := by
        rw [take_snoc hr', List.flatMap_append, List.flatMap_cons, List.flatMap_nil, List.append_nil]
      refine ⟨_, rfl, rfl, _, rfl, ?_⟩
      by_cases h0 : r.2 = 0
      · refine iteE (by rw [h0]; rfl) ⟨s4, some (V.str r.1), some (V.int r.2), some (V.str (lawBd r)), ?_⟩
        rw [etk, show lawPt r = [] from if_pos h0, List.append_nil]
      · refine iteS (by rw [decide_eq_false fun z => h0 (by injection z)]; rfl) ?_
        have tl := tail_len5 (X := ("" : Str)) (n := 0) (by rw [le]; decide) (((e.ts ++ [(("", e.c) : Str × Int)]).take i).flatMap lawPt) fun q hq => by
          obtain ⟨w, hw, hq⟩ := List.mem_flatMap.mp hq
          obtain ⟨gw, gwl⟩ := gal w (List.mem_of_mem_take hw)
          unfold lawPt at hq
          split at hq
          · cases hq
          · rw [List.mem_singleton.mp hq]
            have ln2 := num_len10 gw
            show (lawBd w).length ≤ 5
            unfold lawBd lawB0
            split
            · omega
            · rw [len_add, ln2]
              split
              · rw [le]; decide
              · rw [len_add, lst]; omega
        have fl : ∀ l : List (Str × Int), (l.flatMap lawPt).length ≤ l.length := fun l => by
          induction l with
          | nil => exact Nat.le_refl _
          | cons w l ih =>
            rw [List.flatMap_cons, List.length_append, List.length_cons]
            have : (lawPt w).length ≤ 1 := by
              unfold lawPt
              split
              · exact Nat.zero_le _
              · exact Nat.le_refl _
            omega
        have fl2 := fl ((e.ts ++ [(("", e.c) : Str × Int)]).take i)
        have fl3 : ((e.ts ++ [(("", e.c) : Str × Int)]).take i).length ≤ 9 := by
          rw [List.length_take, List.length_append]
          show min i (e.ts.length + 1) ≤ 9
          omega
        have l3 : (sepS (decide (r.2 < 0))).length = 3 := by unfold sepS; split <;> decide +kernel
        refine ⟨_, rfl, (by show 2 ≤ sizeLine; decide), fun L hL => ?_⟩
        have s5 := same_new (o := .lst [V.str " + ", V.str " - "]) hL
        refine ⟨_, rfl, _, _, rfl, rfl, .inr ⟨_, rfl, L, _, _, V.str (sepS (decide (r.2 < 0))), rfl, rfl, SqL.of upd_same, ?_, _, _, rfl, rfl, by rw [l3, e24]; omega, _, rfl, _, _, rfl, rfl, by rw [len_add, l3, e24]; omega, s4.trans s5, some (V.str r.1), some (V.int r.2), some (V.str (lawBd r)), ?_⟩⟩
        · cases decide (r.2 < 0) with
          | true => exact atI_nat (j := 1) rfl
          | false => exact atI_nat (j := 0) rfl
        · rw [etk, show lawPt r = [(decide (r.2 < 0), lawBd r)] from if_neg h0]
          have : ∀ (X : Str) (l : List (Bool × Str)) (q : Bool × Str), tailS X (l ++ [q]) = tailS X l ++ (sepS q.1 ++ q.2) := fun X l q => by
            unfold tailS
            rw [List.foldl_append]
            rfl
          rw [this]
          have e3 : ∀ A B D : Str, A ++ B ++ D = A ++ (B ++ D) := fun A B D => TL.ext_tl (by simp only [TL.tl_append, List.append_assoc])
          rw [← e3]
          rfl
    · rintro σ H4 ⟨s4, x2, x3, x4, rfl⟩
      rw [lal, List.take_length, law_parts g]
      have s14 := s13.trans s4
      by_cases hz : e.ts = [] ∧ e.c = 0
      · have e0 : exprZ e.c e.ts = "0" := by
          rw [hz.1, hz.2]
          decide +kernel
        rw [hz.1, hz.2]
        refine ⟨_, rfl, rfl, _, rfl, iteS rfl ?_⟩
        have := k H4 s14
        rw [e0] at this
        exact this
      · have epp : partsS e.c e.ts = e.ts.map (fun p => (decide (p.2 < 0), termS p.1 p.2)) ++ (if e.c ≠ 0 then [(decide (e.c < 0), numS e.c.natAbs)] else []) := by
          unfold partsS
          congr 1
          by_cases q : e.c = 0
          · rw [if_neg fun z => z.elim (fun z => z q) fun z => hz ⟨z, q⟩, if_neg fun z => z q]
          · rw [if_pos (.inl q), if_pos q]
        rw [← epp]
        have hne : partsS e.c e.ts ≠ [] := fun z => by
          rw [parts_pts] at z
          exact pts_ne e (List.map_eq_nil_iff.mp z)
        have el := expr_len g
        unfold exprZ at k el
        cases ep : partsS e.c e.ts with
        | nil => exact absurd ep hne
        | cons q r =>
          rw [ep] at k el
          have k : ∀ H', Same H H' → Q (.str (tailS (if q.1 = true then "-" ++ q.2 else q.2) r)) H' := k
          have el : (tailS (if q.1 = true then "-" ++ q.2 else q.2) r).length ≤ 80 := el
          have et : tailS "" (q :: r) = sepS q.1 ++ tailS q.2 r := by
            show tailS ("" ++ (sepS q.1 ++ q.2)) r = _
            rw [str_emp, empty_add, tailS_app]
          rw [et]
          have lmin : ("-" : Str).length = 1 := by decide +kernel
          have lt : (tailS q.2 r).length ≤ 80 := by
            cases hb : q.1 with
            | true =>
              rw [hb, if_pos rfl, tailS_app, len_add, lmin] at el
              omega
            | false =>
              rw [hb, if_neg Bool.false_ne_true] at el
              exact el
          have ls := sepS_len q.1
          have lz : (sepS q.1 ++ tailS q.2 r).length ≤ 83 := by rw [len_add]; omega
          have nz : sepS q.1 ++ tailS q.2 r ≠ "" := fun z => by
            have := congrArg Str.length z
            rw [len_add, le] at this
            omega
          have ha := at_one q.1 (tailS q.2 r)
          have hc := cut_three q.1 (tailS q.2 r)
          generalize sepS q.1 ++ tailS q.2 r = z at *
          refine ⟨_, rfl, rfl, _, rfl, iteE (decide_eq_false fun w => nz (by injection w)) ?_⟩
          refine ⟨_, rfl, z, 1, _, rfl, rfl, by rw [e24]; omega, atI_nat (j := 1) ha, rfl, _, rfl, ?_⟩
          cases hb : q.1 with
          | false =>
            rw [hb] at k
            refine iteS (decide_eq_true (by decide +kernel)) ⟨_, rfl, 3, rfl, z, rfl, by rw [e24]; omega, ?_⟩
            rw [hc]
            exact k H4 s14
          | true =>
            rw [hb] at k
            refine iteE (decide_eq_false (by decide +kernel)) ⟨_, rfl, 3, rfl, z, rfl, by rw [e24]; omega, _, _, rfl, rfl, ?_, ?_⟩
            · rw [hc, lmin, e24]
              omega
            · rw [hc]
              have := k H4 s14
              rw [if_pos rfl, tailS_app] at this
              exact this
end

/-! ### k03: _law_call_text, _law_line, _law_heads -/
abbrev sLCt : Stmt := topS 32
abbrev NLCt : List Str := ["_law_call_here", "_law_words", "_law_word", "_law_one"]
abbrev PLCt : List Str := ["_law_call_here"]
theorem scLCt : FnScope NLCt PLCt (defScope sLCt) := ⟨rfl, rfl, rfl, by decide +kernel, rfl, by decide +kernel, by decide +kernel⟩
abbrev sLLn : Stmt := topS 34
abbrev NLLn : List Str := ["_law_statement"]
abbrev PLLn : List Str := ["_law_statement"]
theorem scLLn : FnScope NLLn PLLn (defScope sLLn) := ⟨rfl, rfl, rfl, by decide +kernel, rfl, by decide +kernel, by decide +kernel⟩
abbrev sLHd : Stmt := topS 33
abbrev NLHd : List Str := ["_law_statement", "_law_handler", "_law_words"]
abbrev PLHd : List Str := ["_law_statement"]
theorem scLHd : FnScope NLHd PLHd (defScope sLHd) := ⟨rfl, rfl, rfl, by decide +kernel, rfl, by decide +kernel, by decide +kernel⟩
def spLCt (K : PySem.W.Frag) : Sp := fun vs H Q _ => ∃ (v : V) (c : Cal), vs = [v] ∧ Dp K H v (calD c) ∧ GC c ∧ ∀ H', Same H H' → Q (.str (callS c)) H'
def spLLn (K : PySem.W.Frag) : Sp := fun vs H Q _ => ∃ (v : V) (s : St), vs = [v] ∧ Dp K H v (stD s) ∧ gS s ∧ headsS s = [] ∧ ∀ H', Same H H' → Q (.str (simS s)) H'
section
variable {P : Program} {w : World} {K : PySem.W.Frag} {mg : Str → Option Value} {base : Heap}
theorem ok_LCt {f : Addr} {fd : FuncData} (F : Fun K "_law_call_text" "_law_call_text" sLCt f fd) (GX : Has P w K mg base CX0 1 "_law_expression_text" PLXt (spLXt K)) : FnOk P w K mg base CX0 2 f fd PLCt (spLCt K) := by
  refine F.ok scLCt (fun vs H Q E h => ?_) (fun cdv A outer s H vs Q E hr h => ?_)
  · obtain ⟨v, c, rfl, _⟩ := h
    rfl
  · obtain ⟨v, ⟨fn, as⟩, rfl, hv, g, k⟩ := h
    refine ⟨_, (pss_cons (ps_set (i := 1) scLCt.nd rfl (Or.inl rfl) (pe_lst pa_nil))
  (pss_cons (ps_for PassesOwn.never rfl (pi_tup (pe_ix (r := rIxT K) ix_tup (pv 0) pe_int (fun _ _ => rfl))) (pg_tup (by rfl) (pgs_cons (pg_name (i := 2) scLCt.nd rfl (Or.inl rfl)) (pgs_cons (pg_name (i := 3) scLCt.nd rfl (Or.inl rfl)) pgs_nil)))
  (pss_one (ps_expr (pe_bm PySem.F.plainAttrs_list PySem.F.slot_list_append PySem.F.type_list_append mt_append (pv 1) (pa_cons (pe_ifExp (pt_cmpR op_eq (pv 2) pe_str (nomark _)) (pe_op op_add_str pe_str (pv 3)) (pe_callH GX hr rfl pass0 (pa_cons (pv 3) pa_nil))) pa_nil)))))
  (pss_one (ps_ret (pe_op op_add_str (pe_op op_add_str (pe_op op_add_str (pe_ix (r := rIxT K) ix_tup (pv 0) pe_int (fun _ _ => rfl)) pe_str) (pe_join pe_str (pv 1))) pe_str))))), ?_⟩
    have e24 : sizeLine = 2 ^ 24 := rfl
    have l1 : ("(" : Str).length = 1 := by decide +kernel
    have l2 : (")" : Str).length = 1 := by decide +kernel
    have la1 : ("&" : Str).length = 1 := by decide +kernel
    have hv : Dp K H v (.tuple [.str fn, .tuple (as.map argD)]) := hv
    obtain ⟨a, xs, rfl, hq, hd⟩ := hv.tupInv
    obtain ⟨x, y, rfl, h1, h2⟩ := hd.two
    rw [h1.strInv] at hq
    obtain ⟨b, ys, rfl, hb, hbd⟩ := h2.tupInv
    have px := DpAll.map (f := argD) hbd
    have lx := Paired.length px
    have la : as.length ≤ 2 := g.2.1
    have ln : fn.length ≤ 3 := g.1.2
    have hj := joins_len (ys := as.map argS) (m := 80) fun y hy => by
      obtain ⟨a, ha, rfl⟩ := List.mem_map.mp hy
      exact arg_len (g.2.2 a ha)
    rw [List.length_map] at hj
    have h4 := join_len ", " (as.map argS)
    rw [List.length_map] at h4
    refine ⟨(by show 0 ≤ sizeLine; decide), fun X hX => ?_⟩
    have s1 := same_new (o := .lst []) hX
    refine ⟨_, rfl, a, _, _, _, rfl, rfl, SqT.same s1 hq, rfl, b, rfl, ⟨_, SqT.same s1 hb⟩, for_it (walk_tup (K := K) (a := b) (xs := ys)) (fun i σ H' => Same H H' ∧ ∃ x2 x3 : Option V, σ = [some (.ref a), some (.ref X), x2, x3] ∧ H' X = some (.lst (((as.map argS).take i).map V.str))) ⟨s1, _, _, rfl, upd_same⟩ (fun i σ H' _ h' => SqT.same h'.1 hb) ?_ ?_⟩
    · rintro i x σ H2 H3 hi ⟨s2, x2, x3, rfl, eX⟩ ⟨rfl, hx⟩
      obtain ⟨ar, har, dar⟩ := Paired.at px hx
      have gar := g.2.2 ar (List.mem_of_getElem? har)
      have htk : (as.map argS).take (i + 1) = (as.map argS).take i ++ [argS ar] := take_snoc (by rw [List.getElem?_map, har]; rfl)
      have ltk : (((as.map argS).take i).map V.str).length ≤ 10000 := by rw [List.length_map, List.length_take, List.length_map]; omega
      have put : ∀ {H' : Hp} {o : HO}, Same H H' → Same H (upd H' X o) := fun s' b o z => by
        rw [upd_ne (ne_of_none z hX)]
        exact s' _ _ z
      cases ar with
      | place n =>
        have dar : Dp K H x (.tuple [.str "place", .str n]) := dar
        obtain ⟨c, zs, rfl, hc, hcd⟩ := dar.tupInv
        obtain ⟨m1, m2, rfl, d1, d2⟩ := hcd.two
        rw [d1.strInv, d2.strInv] at hc
        have gn := (show GN n from gar).2
        refine ⟨c, _, rfl, SqT.same s2 hc, rfl, _, _, rfl, _, _, rfl, rfl, ?_⟩
        refine ⟨_, rfl, .inl ⟨rfl, _, SqL.of eX⟩, _, rfl, rfl, _, rfl, iteS rfl ⟨_, rfl, _, _, rfl, rfl, by rw [la1, e24]; omega, X, _, _, rfl, rfl, eX, small10 ltk, put s2, _, _, rfl, ?_⟩⟩
        rw [upd_same, htk, List.map_append]
        rfl
      | value e =>
        have dar : Dp K H x (.tuple [.str "value", exD e]) := dar
        obtain ⟨c, zs, rfl, hc, hcd⟩ := dar.tupInv
        obtain ⟨m1, m2, rfl, d1, d2⟩ := hcd.two
        rw [d1.strInv] at hc
        refine ⟨c, _, rfl, SqT.same s2 hc, rfl, _, _, rfl, _, _, rfl, rfl, ?_⟩
        refine ⟨_, rfl, .inl ⟨rfl, _, SqL.of eX⟩, _, rfl, rfl, _, rfl, iteE (by decide +kernel) ⟨_, rfl, m2, e, rfl, d2.same s2, gar, fun H4 s4 => ⟨X, _, _, rfl, rfl, s4 _ _ eX, small10 ltk, put (s2.trans s4), _, _, rfl, ?_⟩⟩⟩
        rw [upd_same, htk, List.map_append]
        rfl
    · rintro σ H2 ⟨s2, x2, x3, rfl, eX⟩
      rw [lx, ← List.length_map (f := argS), List.take_length] at eX
      refine ⟨_, rfl, a, _, _, _, rfl, rfl, SqT.same s2 hq, rfl, _, _, rfl, rfl, by rw [l1, e24]; omega, ⟨_, rfl⟩, _, rfl, _, X, as.map argS, rfl, rfl, .inl (SqL.of eX), by rw [List.length_map]; omega, _, _, rfl, rfl, by rw [len_add, l1, e24]; omega, _, _, rfl, rfl, by rw [len_add, len_add, l1, l2, e24]; omega, k H2 s2⟩
theorem ok_LLn {f : Addr} {fd : FuncData} (F : Fun K "_law_line" "_law_line" sLLn f fd) (GX : Has P w K mg base CX0 1 "_law_expression_text" PLXt (spLXt K)) (GC' : Has P w K mg base CX0 2 "_law_call_text" PLCt (spLCt K)) : FnOk P w K mg base CX0 3 f fd PLLn (spLLn K) := by
  refine F.ok scLLn (fun vs H Q E h => ?_) (fun cdv A outer s H vs Q E hr h => ?_)
  · obtain ⟨v, st, rfl, _⟩ := h
    rfl
  · obtain ⟨v, st, rfl, hv, g, h0, k⟩ := h
    have hr1 := hr.mono (j := 1) (by decide)
    refine ⟨_, (pss_cons (ps_if (pt_cmpR op_eq (pe_ix (r := rIxT K) ix_tup (pv 0) pe_int (fun _ _ => rfl)) pe_str (nomark _))
  (pss_one (ps_ret (pe_op op_add_str (pe_op op_add_str (pe_ix (r := rIxT K) ix_tup (pv 0) pe_int (fun _ _ => rfl)) pe_str) (pe_callH GX hr1 rfl pass0 (pa_cons (pe_ix (r := rIxT K) ix_tup (pv 0) pe_int (fun _ _ => rfl)) pa_nil)))))
  pss_nil)
  (pss_cons (ps_if (pt_cmpR op_eq (pe_ix (r := rIxT K) ix_tup (pv 0) pe_int (fun _ _ => rfl)) pe_str (nomark _))
  (pss_one (ps_ret (pe_op op_add_str (pe_ix (r := rIxT K) ix_tup (pv 0) pe_int (fun _ _ => rfl)) pe_str)))
  pss_nil)
  (pss_cons (ps_if (pt_cmpR op_eq (pe_ix (r := rIxT K) ix_tup (pv 0) pe_int (fun _ _ => rfl)) pe_str (nomark _))
  (pss_one (ps_ret (pe_op op_add_str (pe_ifExp (pt_cmpR op_isN (pe_ix (r := rIxT K) ix_tup (pv 0) pe_int (fun _ _ => rfl)) pe_non (nomark _)) pe_str (pe_op op_add_str (pe_ix (r := rIxT K) ix_tup (pv 0) pe_int (fun _ _ => rfl)) pe_str)) (pe_callH GC' hr rfl pass0 (pa_cons (pe_slice sl_tupU (pv 0) (po_some pe_int) po_none) pa_nil)))))
  pss_nil)
  (pss_cons (ps_if (pt_cmpR op_eq (pe_ix (r := rIxT K) ix_tup (pv 0) pe_int (fun _ _ => rfl)) pe_str (nomark _))
  (pss_one (ps_ret (pe_op op_add_str pe_str (pe_callH GX hr1 rfl pass0 (pa_cons (pe_ix (r := rIxT K) ix_tup (pv 0) pe_int (fun _ _ => rfl)) pa_nil)))))
  pss_nil)
  (pss_cons (ps_if (pt_cmpR op_eq (pe_ix (r := rIxT K) ix_tup (pv 0) pe_int (fun _ _ => rfl)) pe_str (nomark _))
  (pss_one (ps_ret (pe_op op_add_str pe_str (pe_ix (r := rIxT K) ix_tup (pv 0) pe_int (fun _ _ => rfl)))))
  pss_nil)
  (pss_one (ps_ret (pe_op op_add_str pe_str (pe_join pe_str (pe_ix (r := rIxT K) ix_tup (pv 0) pe_int (fun _ _ => rfl))))))))))), ?_⟩
    have e24 : sizeLine = 2 ^ 24 := rfl
    have l3 : (" = " : Str).length = 3 := by decide +kernel
    have l4 : (" = ?" : Str).length = 4 := by decide +kernel
    have l5 : ("risk " : Str).length = 5 := by decide +kernel
    have l6 : ("raise " : Str).length = 6 := by decide +kernel
    have l7 : ("return " : Str).length = 7 := by decide +kernel
    have le0 : ("" : Str).length = 0 := by decide +kernel
    obtain ⟨va, xs, rfl, hq, hd⟩ := stInv hv
    cases st <;> simp only [wordS] at hq
    case set t e =>
      have g : GN t ∧ GE e := g
      have lt := g.1.2
      have le := expr_len g.2
      obtain ⟨x, y, rfl, h1, h2⟩ := DpAll.two hd
      rw [h1.strInv] at hq
      refine ⟨_, rfl, va, _, _, _, rfl, rfl, hq, rfl, rfl, _, rfl, iteS rfl ?_⟩
      exact ⟨_, rfl, va, _, _, _, rfl, rfl, hq, rfl, _, _, rfl, rfl, by rw [l3, e24]; omega, _, rfl, va, _, _, _, rfl, rfl, hq, rfl, y, e, rfl, h2, g.2, fun H' s' => ⟨_, _, rfl, rfl, by rw [len_add, l3, e24]; omega, k H' s'⟩⟩
    case input t =>
      have lt := (show GN t from g).2
      obtain ⟨x, rfl, h1⟩ := DpAll.one hd
      rw [h1.strInv] at hq
      refine ⟨_, rfl, va, _, _, _, rfl, rfl, hq, rfl, rfl, _, rfl, iteE (by decide +kernel) ?_⟩
      refine ⟨_, rfl, va, _, _, _, rfl, rfl, hq, rfl, rfl, _, rfl, iteS rfl ?_⟩
      exact ⟨_, rfl, va, _, _, _, rfl, rfl, hq, rfl, _, _, rfl, rfl, by rw [l4, e24]; omega, k H (Same.refl _)⟩
    case call t f as =>
      have g : (∀ x, t = some x → GN x) ∧ GC (f, as) := g
      have lc := call_len g.2
      obtain ⟨x, y, z, rfl, h1, h2, h3⟩ := DpAll.three hd
      rw [h2.strInv] at hq
      refine ⟨_, rfl, va, _, _, _, rfl, rfl, hq, rfl, rfl, _, rfl, iteE (by decide +kernel) ?_⟩
      refine ⟨_, rfl, va, _, _, _, rfl, rfl, hq, rfl, rfl, _, rfl, iteE (by decide +kernel) ?_⟩
      refine ⟨_, rfl, va, _, _, _, rfl, rfl, hq, rfl, rfl, _, rfl, iteS rfl ?_⟩
      have dc : ∀ {H' : Hp} {p : Addr}, Same H H' → SqT K H' p [V.str f, z] → Dp K H' (.ref p) (calD (f, as)) := fun s' e => .tup e (.cons (.str _) (.cons (h3.same s') .nil))
      cases t with
      | none =>
        have hx : x = .non := by cases h1; rfl
        subst hx
        refine ⟨_, rfl, va, _, _, _, rfl, rfl, hq, rfl, rfl, _, rfl, iteS rfl ?_⟩
        refine ⟨_, rfl, 2, rfl, va, _, rfl, hq, fun p1 H1 s1 hp1 => ⟨.ref p1, (f, as), rfl, dc s1 hp1, g.2, fun H2 s2 => ⟨_, _, rfl, rfl, by rw [le0, e24]; omega, ?_⟩⟩⟩
        rw [str_emp, empty_add]
        exact k H2 (s1.trans s2)
      | some t =>
        have lt := (g.1 t rfl).2
        have hx : x = .str t := Dp.strInv h1
        subst hx
        refine ⟨_, rfl, va, _, _, _, rfl, rfl, hq, rfl, rfl, _, rfl, iteE rfl ?_⟩
        refine ⟨_, rfl, va, _, _, _, rfl, rfl, hq, rfl, _, _, rfl, rfl, by rw [l3, e24]; omega, ?_⟩
        exact ⟨_, rfl, 2, rfl, va, _, rfl, hq, fun p1 H1 s1 hp1 => ⟨.ref p1, (f, as), rfl, dc s1 hp1, g.2, fun H2 s2 => ⟨_, _, rfl, rfl, by rw [len_add, l3, e24]; omega, k H2 (s1.trans s2)⟩⟩⟩
    case ret e =>
      have g : GE e := g
      have le := expr_len g
      obtain ⟨y, rfl, h1⟩ := DpAll.one hd
      refine ⟨_, rfl, va, _, _, _, rfl, rfl, hq, rfl, rfl, _, rfl, iteE (by decide +kernel) ?_⟩
      refine ⟨_, rfl, va, _, _, _, rfl, rfl, hq, rfl, rfl, _, rfl, iteE (by decide +kernel) ?_⟩
      refine ⟨_, rfl, va, _, _, _, rfl, rfl, hq, rfl, rfl, _, rfl, iteE (by decide +kernel) ?_⟩
      refine ⟨_, rfl, va, _, _, _, rfl, rfl, hq, rfl, rfl, _, rfl, iteS rfl ?_⟩
      exact ⟨_, rfl, va, _, _, _, rfl, rfl, hq, rfl, y, e, rfl, h1, g, fun H' s' => ⟨_, _, rfl, rfl, by rw [l7, e24]; omega, k H' s'⟩⟩
    case raise x =>
      have lt := (show GN x from g).2
      obtain ⟨y, rfl, h1⟩ := DpAll.one hd
      rw [h1.strInv] at hq
      refine ⟨_, rfl, va, _, _, _, rfl, rfl, hq, rfl, rfl, _, rfl, iteE (by decide +kernel) ?_⟩
      refine ⟨_, rfl, va, _, _, _, rfl, rfl, hq, rfl, rfl, _, rfl, iteE (by decide +kernel) ?_⟩
      refine ⟨_, rfl, va, _, _, _, rfl, rfl, hq, rfl, rfl, _, rfl, iteE (by decide +kernel) ?_⟩
      refine ⟨_, rfl, va, _, _, _, rfl, rfl, hq, rfl, rfl, _, rfl, iteE (by decide +kernel) ?_⟩
      refine ⟨_, rfl, va, _, _, _, rfl, rfl, hq, rfl, rfl, _, rfl, iteS rfl ?_⟩
      exact ⟨_, rfl, va, _, _, _, rfl, rfl, hq, rfl, _, _, rfl, rfl, by rw [l6, e24]; omega, k H (Same.refl _)⟩
    case risk ks =>
      have g : ks ≠ [] ∧ GNs ks := g
      have ls := nms_sum g.2
      have ll := nms_len g.2
      obtain ⟨x, rfl, h1⟩ := DpAll.one hd
      obtain ⟨b, rfl, hb⟩ := nm_inv h1
      refine ⟨_, rfl, va, _, _, _, rfl, rfl, hq, rfl, rfl, _, rfl, iteE (by decide +kernel) ?_⟩
      refine ⟨_, rfl, va, _, _, _, rfl, rfl, hq, rfl, rfl, _, rfl, iteE (by decide +kernel) ?_⟩
      refine ⟨_, rfl, va, _, _, _, rfl, rfl, hq, rfl, rfl, _, rfl, iteE (by decide +kernel) ?_⟩
      refine ⟨_, rfl, va, _, _, _, rfl, rfl, hq, rfl, rfl, _, rfl, iteE (by decide +kernel) ?_⟩
      refine ⟨_, rfl, va, _, _, _, rfl, rfl, hq, rfl, rfl, _, rfl, iteE (by decide +kernel) ?_⟩
      refine ⟨⟨_, rfl⟩, _, rfl, va, _, _, _, rfl, rfl, hq, rfl, _, b, ks, rfl, rfl, .inr hb, by omega, _, _, rfl, rfl, by show _ + (nmsS ks).length ≤ _; rw [l5, e24]; omega, k H (Same.refl _)⟩
    case ite a b => simp [headsS] at h0
    case whl b => simp [headsS] at h0
    case try_ b hs f => simp [headsS] at h0
    case undo ns b => simp [headsS] at h0
    case with_ e l ks b => simp [headsS] at h0
end

/-! ### k03: _law_heads -/
theorem shaped_nm {ns : List Str} (h : ∀ x ∈ ns, GN x) : SeqAt.shaped (nmD ns) = true := by
  have l1 : PyData.canLayAll0 (ns.map PyData.str) = true := by
    induction ns with
    | nil => simp [PyData.canLayAll0]
    | cons x r ih =>
      simp only [List.map_cons, PyData.canLayAll0, PyData.canLay0, strOk_name (h x List.mem_cons_self).1, Bool.true_and]
      exact ih fun p hp => h p (List.mem_cons_of_mem _ hp)
  have d1 : PyData.depthAll (ns.map PyData.str) ≤ 1 := by
    clear l1 h
    induction ns with
    | nil => simp [PyData.depthAll]
    | cons x r ih => simp only [List.map_cons, PyData.depthAll, PyData.depth]; omega
  unfold SeqAt.shaped nmD
  simp only [PyData.canLay0, PyData.depth, l1, Bool.true_and]
  exact decide_eq_true (by omega)
def lhS : St → List Str
  | .ite _ _ => ["if", "else"]
  | .try_ _ hs _ => "try" :: (hs.map (fun h => "except " ++ nmsS h.ks) ++ [("finally" : Str)])
  | .undo ns _ => ["undo " ++ nmsS ns]
  | .with_ e l ks _ => [("with " ++ callS e ++ ", " ++ callS l) ++ (if ks.isEmpty = true then Str.empty else " swallow " ++ nmsS ks)]
  | _ => ["while"]
def spLHd (K : PySem.W.Frag) : Sp := fun vs H Q _ => ∃ (v : V) (s : St), vs = [v] ∧ Dp K H v (stD s) ∧ gS s ∧ ∀ (q : Addr) (H' : Hp), Same H H' → H q = none → H' q = some (.lst ((lhS s).map V.str)) → Q (.ref q) H'
section
variable {P : Program} {w : World} {K : PySem.W.Frag} {mg : Str → Option Value} {base : Heap}
theorem ok_LHd {f : Addr} {fd : FuncData} (F : Fun K "_law_heads" "_law_heads" sLHd f fd) (GC' : Has P w K mg base CX0 2 "_law_call_text" PLCt (spLCt K)) : FnOk P w K mg base CX0 3 f fd PLHd (spLHd K) := by
  refine F.ok scLHd (fun vs H Q E h => ?_) (fun cdv A outer s H vs Q E hr h => ?_)
  · obtain ⟨v, st, rfl, _⟩ := h
    rfl
  · obtain ⟨v, st, rfl, hv, g, k⟩ := h
    refine ⟨_, (pss_cons (ps_if (pt_cmpR op_eq (pe_ix (r := rIxT K) ix_tup (pv 0) pe_int (fun _ _ => rfl)) pe_str (nomark _))
  (pss_one (ps_ret (pe_lst (pa_cons pe_str (pa_cons pe_str pa_nil)))))
  pss_nil)
  (pss_cons (ps_if (pt_cmpR op_eq (pe_ix (r := rIxT K) ix_tup (pv 0) pe_int (fun _ _ => rfl)) pe_str (nomark _))
  (pss_one (ps_ret (pe_op op_cat (pe_op op_cat (pe_lst (pa_cons pe_str pa_nil)) (pe_lc (own := [("_law_handler", 1)]) (g := gName 1) (tt := tYes) rfl scLHd.nd (pi_tup (pe_ix (r := rIxT K) ix_tup (pv 0) pe_int (fun _ _ => rfl))) (blkOk_by (own := [("_law_handler", 1)]) (N := NLHd) (sc := (defScope sLHd)) (by decide +kernel)) (fun _ _ _ _ _ => (pg_name (i := 1) scLHd.nd rfl (Or.inl rfl))) (fun _ _ _ _ _ => pts_nil) (fun _ _ _ _ _ => (pe_op op_add_str pe_str (pe_joinK (K := K) rfl pe_str (pe_ix (r := rIxT K) ix_tup (pv 1) pe_int (fun _ _ => rfl))))))) (pe_lst (pa_cons pe_str pa_nil)))))
  pss_nil)
  (pss_cons (ps_if (pt_cmpR op_eq (pe_ix (r := rIxT K) ix_tup (pv 0) pe_int (fun _ _ => rfl)) pe_str (nomark _))
  (pss_one (ps_ret (pe_lst (pa_cons (pe_op op_add_str pe_str (pe_join pe_str (pe_ix (r := rIxT K) ix_tup (pv 0) pe_int (fun _ _ => rfl)))) pa_nil))))
  pss_nil)
  (pss_cons (ps_if (pt_cmpR op_eq (pe_ix (r := rIxT K) ix_tup (pv 0) pe_int (fun _ _ => rfl)) pe_str (nomark _))
  (pss_cons (ps_set (i := 2) scLHd.nd rfl (Or.inl rfl) (pe_op op_add_str (pe_op op_add_str (pe_op op_add_str pe_str (pe_callH GC' hr rfl pass0 (pa_cons (pe_ix (r := rIxT K) ix_tup (pv 0) pe_int (fun _ _ => rfl)) pa_nil))) pe_str) (pe_callH GC' hr rfl pass0 (pa_cons (pe_ix (r := rIxT K) ix_tup (pv 0) pe_int (fun _ _ => rfl)) pa_nil))))
  (pss_one (ps_ret (pe_lst (pa_cons (pe_op op_add_str (pv 2) (pe_ifExp (pt_cmpR (op_neD hr.units) (pe_ix (r := rIxT K) ix_tup (pv 0) pe_int (fun _ _ => rfl)) (pe_tup pa_nil) (nomark _)) (pe_op op_add_str pe_str (pe_join pe_str (pe_ix (r := rIxT K) ix_tup (pv 0) pe_int (fun _ _ => rfl)))) pe_str)) pa_nil)))))
  pss_nil)
  (pss_one (ps_ret (pe_lst (pa_cons pe_str pa_nil)))))))), ?_⟩
    have e24 : sizeLine = 2 ^ 24 := rfl
    have l5 : ("with " : Str).length = 5 := by decide +kernel
    have l6 : ("undo " : Str).length = 5 := by decide +kernel
    have l7 : ("except " : Str).length = 7 := by decide +kernel
    have l9 : (" swallow " : Str).length = 9 := by decide +kernel
    have le0 : ("" : Str).length = 0 := by decide +kernel
    obtain ⟨va, xs, rfl, hq, hd⟩ := stInv hv
    cases st <;> simp only [wordS] at hq
    case ite a b =>
      obtain ⟨x, y, rfl, h1, h2⟩ := DpAll.two hd
      refine ⟨_, rfl, va, _, _, _, rfl, rfl, hq, rfl, rfl, _, rfl, iteS rfl ?_⟩
      exact ⟨(by show 2 ≤ sizeLine; decide), fun q hq' => k q _ (same_new hq') hq' upd_same⟩
    case try_ p hs q =>
      have g : hs.length ≤ 2 ∧ gL p ∧ gHs hs ∧ gL q := g
      obtain ⟨x, y, z, rfl, h1, h2, h3⟩ := DpAll.three hd
      obtain ⟨b, ys, rfl, hb, hbd⟩ := h2.tupInv
      rw [hdsD_map] at hbd
      have px := DpAll.map (f := hdD) hbd
      have lx : ys.length = hs.length := Paired.length px
      refine ⟨_, rfl, va, _, _, _, rfl, rfl, hq, rfl, rfl, _, rfl, iteE (by decide +kernel) ?_⟩
      refine ⟨_, rfl, va, _, _, _, rfl, rfl, hq, rfl, rfl, _, rfl, iteS rfl ?_⟩
      refine ⟨(by show 1 ≤ sizeLine; decide), fun L1 hL1 => ?_⟩
      have s1 := same_new (o := .lst [V.str "try"]) hL1
      refine ⟨_, rfl, va, _, _, _, rfl, rfl, SqT.same s1 hq, rfl, b, rfl, ⟨_, SqT.same s1 hb⟩, fun D hD => ?_⟩
      refine lc_map (walk_tup (K := K) (a := b) (xs := ys)) (fun i => V.str ((hs.map fun h => "except " ++ nmsS h.ks).getD i "")) hD (by omega) (fun H' s' => SqT.same (s1.trans s') hb) ?_ ?_
      · rintro i v H3 H4 k1 hi s3 ⟨rfl, hv⟩ kk
        obtain ⟨h, hh, dh⟩ := Paired.at px hv
        have gh := hd_g (gHs_mem g.2.2.1 (List.mem_of_getElem? hh))
        have lsn := nms_sum gh.1.2
        have lln := nms_len gh.1.2
        have dh : Dp K H v (.tuple [nmD h.ks, blD h.b]) := by
          have : hdD h = .tuple [nmD h.ks, blD h.b] := by cases h; rfl
          rw [← this]
          exact dh
        obtain ⟨c1, w1, rfl, hc1, hd1⟩ := dh.tupInv
        obtain ⟨m1, m2, rfl, dm1, dm2⟩ := hd1.two
        obtain ⟨b2, rfl, hb2⟩ := nm_inv dm1
        have s13 := s1.trans s3
        have e : (hs.map fun h => "except " ++ nmsS h.ks).getD i "" = "except " ++ nmsS h.ks := by
          rw [List.getD_eq_getElem?_getD, List.getElem?_map, hh]
          rfl
        rw [e] at kk
        exact ⟨rfl, ⟨_, rfl⟩, _, rfl, c1, _, _, _, rfl, rfl, SqT.same s13 hc1, rfl, _, b2, h.ks, rfl, rfl, .inr (SqT.same s13 hb2), by omega, _, _, rfl, rfl, by show _ + (nmsS h.ks).length ≤ _; rw [l7, e24]; omega, kk _ (Same.refl _)⟩
      · intro H3 s3 eD
        have eD : H3 D = some (.lst ((hs.map fun h => "except " ++ nmsS h.ks).map V.str)) := by
          rw [eD, lx]
          congr 2
          rw [range_map hs (fun h => V.str ("except " ++ nmsS h.ks)) _ fun i x hx => by
            show V.str ((hs.map _).getD i "") = _
            rw [List.getD_eq_getElem?_getD, List.getElem?_map, hx]
            rfl, List.map_map]
          rfl
        refine ⟨L1, D, _, _, rfl, rfl, s3 _ _ upd_same, eD, by rw [List.length_map, List.length_map, e24]; show 1 + hs.length ≤ _; omega, fun M hM => ⟨(by show 1 ≤ sizeLine; decide), fun u hu => ?_⟩⟩
        have s4 := same_new (o := .lst ([V.str "try"] ++ (hs.map fun h => "except " ++ nmsS h.ks).map V.str)) hM
        have s5 := same_new (o := .lst [V.str "finally"]) hu
        refine ⟨M, u, _, _, rfl, rfl, s5 _ _ upd_same, upd_same, by rw [List.length_append, List.length_map, List.length_map, e24]; show 1 + hs.length + 1 ≤ _; omega, fun R hR => ?_⟩
        have s6 := same_new (o := .lst (([V.str "try"] ++ (hs.map fun h => "except " ++ nmsS h.ks).map V.str) ++ [V.str "finally"])) hR
        have s15 := ((s1.trans s3).trans s4).trans s5
        refine k R _ (s15.trans s6) (none_same s15 hR) ?_
        rw [upd_same]
        show _ = some (HO.lst ((("try" : Str) :: (hs.map (fun h => "except " ++ nmsS h.ks) ++ [("finally" : Str)])).map V.str))
        rw [List.map_cons, List.map_append]
        rfl
    case undo ns p =>
      have g : (ns ≠ [] ∧ GNs ns) ∧ gL p := g
      have ls := nms_sum g.1.2
      have ll := nms_len g.1.2
      obtain ⟨y, x, rfl, h0, h1⟩ := DpAll.two hd
      obtain ⟨b, rfl, hb⟩ := nm_inv h0
      refine ⟨_, rfl, va, _, _, _, rfl, rfl, hq, rfl, rfl, _, rfl, iteE (by decide +kernel) ?_⟩
      refine ⟨_, rfl, va, _, _, _, rfl, rfl, hq, rfl, rfl, _, rfl, iteE (by decide +kernel) ?_⟩
      refine ⟨_, rfl, va, _, _, _, rfl, rfl, hq, rfl, rfl, _, rfl, iteS rfl ?_⟩
      exact ⟨⟨_, rfl⟩, _, rfl, va, _, _, _, rfl, rfl, hq, rfl, _, b, ns, rfl, rfl, .inr hb, by omega, _, _, rfl, rfl, by show _ + (nmsS ns).length ≤ _; rw [l6, e24]; omega, (by show 1 ≤ sizeLine; decide), fun q hq' => k q _ (same_new hq') hq' upd_same⟩
    case with_ e l ks p =>
      have g : GC e ∧ GC l ∧ GNs ks ∧ gL p := g
      have ls := nms_sum g.2.2.1
      have ll := nms_len g.2.2.1
      have le := call_len g.1
      have lf := call_len g.2.1
      have lsep := sep2
      obtain ⟨u1, u2, u3, x, rfl, d1, d2, d3, h1⟩ := DpAll.four hd
      obtain ⟨b, rfl, hb⟩ := nm_inv d3
      refine ⟨_, rfl, va, _, _, _, rfl, rfl, hq, rfl, rfl, _, rfl, iteE (by decide +kernel) ?_⟩
      refine ⟨_, rfl, va, _, _, _, rfl, rfl, hq, rfl, rfl, _, rfl, iteE (by decide +kernel) ?_⟩
      refine ⟨_, rfl, va, _, _, _, rfl, rfl, hq, rfl, rfl, _, rfl, iteE (by decide +kernel) ?_⟩
      refine ⟨_, rfl, va, _, _, _, rfl, rfl, hq, rfl, rfl, _, rfl, iteS rfl ?_⟩
      refine ⟨_, rfl, va, _, _, _, rfl, rfl, hq, rfl, u1, e, rfl, d1, g.1, fun H1 s1 => ⟨_, _, rfl, rfl, by rw [l5, e24]; omega, _, _, rfl, rfl, by rw [len_add, l5, lsep, e24]; omega, ?_⟩⟩
      refine ⟨_, rfl, va, _, _, _, rfl, rfl, SqT.same s1 hq, rfl, u2, l, rfl, d2.same s1, g.2.1, fun H2 s2 => ⟨_, _, rfl, rfl, by simp only [len_add, l5, lsep, e24]; omega, ?_⟩⟩
      have s12 := s1.trans s2
      have hq2 := SqT.same s12 hq
      have hb2 := SqT.same s12 hb
      refine ⟨_, rfl, _, rfl, va, _, _, _, rfl, rfl, hq2, rfl, (by show 0 ≤ sizeLine; decide), fun t0 ht0 => ?_⟩
      have s0 := same_new (o := .tup []) ht0
      have s03 := s12.trans s0
      have dks : Dp K (upd H2 t0 (.tup [])) (.ref b) (nmD ks) := (.tup (SqT.same s0 hb2) (dpAll_strs ks))
      have eqv0 : PyData.eqv (nmD ks) (.tuple []) = ks.isEmpty := by
        cases ks with
        | nil => rfl
        | cons x r => simp [nmD, PyData.eqv, PyData.eqvAll]
      refine ⟨nmD ks, .tuple [], dks, .tup (SqT.of upd_same) .nil, shaped_nm g.2.2.1.2, by decide +kernel, _, rfl, ?_⟩
      rw [eqv0]
      by_cases hE : ks.isEmpty = true
      · refine iteE (by rw [hE]; rfl) ⟨_, _, rfl, rfl, by simp only [len_add, l5, lsep, le0, e24]; omega, ?_⟩
        refine ⟨(by show 1 ≤ sizeLine; decide), fun q hq' => k q _ (s03.trans (same_new hq')) (none_same s03 hq') ?_⟩
        rw [upd_same]
        show _ = some (HO.lst [V.str (("with " ++ callS e ++ ", " ++ callS l) ++ (if ks.isEmpty = true then Str.empty else " swallow " ++ nmsS ks))])
        rw [if_pos hE, str_emp]
      · refine iteS (by rw [Bool.eq_false_iff.mpr hE]; rfl) ?_
        refine ⟨⟨_, rfl⟩, _, rfl, va, _, _, _, rfl, rfl, SqT.same s0 hq2, rfl, _, b, ks, rfl, rfl, .inr (SqT.same s0 hb2), by omega, _, _, rfl, rfl, by show _ + (nmsS ks).length ≤ _; rw [l9, e24]; omega, _, _, rfl, rfl, by show _ + (" swallow " ++ nmsS ks).length ≤ _; simp only [len_add, l5, l9, lsep, e24]; omega, ?_⟩
        refine ⟨(by show 1 ≤ sizeLine; decide), fun q hq' => k q _ (s03.trans (same_new hq')) (none_same s03 hq') ?_⟩
        rw [upd_same]
        show _ = some (HO.lst [V.str (("with " ++ callS e ++ ", " ++ callS l) ++ (if ks.isEmpty = true then Str.empty else " swallow " ++ nmsS ks))])
        rw [if_neg hE]
        rfl
    case whl p =>
      obtain ⟨x, rfl, h1⟩ := DpAll.one hd
      refine ⟨_, rfl, va, _, _, _, rfl, rfl, hq, rfl, rfl, _, rfl, iteE (by decide +kernel) ?_⟩
      refine ⟨_, rfl, va, _, _, _, rfl, rfl, hq, rfl, rfl, _, rfl, iteE (by decide +kernel) ?_⟩
      refine ⟨_, rfl, va, _, _, _, rfl, rfl, hq, rfl, rfl, _, rfl, iteE (by decide +kernel) ?_⟩
      refine ⟨_, rfl, va, _, _, _, rfl, rfl, hq, rfl, rfl, _, rfl, iteE (by decide +kernel) ?_⟩
      exact ⟨(by show 1 ≤ sizeLine; decide), fun q hq' => k q _ (same_new hq') hq' upd_same⟩
    all_goals
      first
        | obtain ⟨_, rfl, _⟩ := DpAll.one hd
        | obtain ⟨_, _, rfl, _, _⟩ := DpAll.two hd
        | obtain ⟨_, _, _, rfl, _⟩ := DpAll.three hd
      refine ⟨_, rfl, va, _, _, _, rfl, rfl, hq, rfl, rfl, _, rfl, iteE (by decide +kernel) ?_⟩
      refine ⟨_, rfl, va, _, _, _, rfl, rfl, hq, rfl, rfl, _, rfl, iteE (by decide +kernel) ?_⟩
      refine ⟨_, rfl, va, _, _, _, rfl, rfl, hq, rfl, rfl, _, rfl, iteE (by decide +kernel) ?_⟩
      refine ⟨_, rfl, va, _, _, _, rfl, rfl, hq, rfl, rfl, _, rfl, iteE (by decide +kernel) ?_⟩
      exact ⟨(by show 1 ≤ sizeLine; decide), fun q hq' => k q _ (same_new hq') hq' upd_same⟩
end

/-! ### tuple == tuple, whose items are flat or instances with an own __eq__: both answers -/
section
open PySem.SeqAt MeetsSeq MeetsSeq2 MeetsSeq3 SeqRoads2
variable {prog : Program} {w : World} {A : Around} {R : Result → Shared → Prop}
theorem tuple_eqB (l b : Addr) (items items2 : Array Value) (n n2 : Nat) (dd dd2 : Option Addr) (sl sl2 : Array (Option Value)) (I : Nat → Shared → Prop)
    (turn : ∀ i (h1 : i < items.size) (h2 : i < items2.size) s, I i s → wpAny (model prog w) A.in1 (eqBool items[i] items2[i]) (fun r s' => (r = true ∧ I (i + 1) s') ∨ (r = false ∧ R (.ok (.ret (.bool false))) s')) (fun e s' => R (.error e) s') s)
    (fin : ∀ s, I (min items.size items2.size) s → R (.ok (.ret (.bool (items.size == items2.size)))) s) {s : Shared} (hl1 : s.heap.get? l = some { cls := .type "tuple", dict := dd, data := .seq items n, slots := sl }) (hb1 : s.heap.get? b = some { cls := .type "tuple", dict := dd2, data := .seq items2 n2, slots := sl2 }) (h : I 0 s) :
    wpAny (model prog w) A.in1 (Builtin.«tuple.__eq__» ⟨[.ref l, .ref b], []⟩) (GQ.FinOf prog w A R) (fun e s' => R (.error e) s') s := by
  have f2 := AutoSeq1.sub_tuple_tuple
  have hZ : (items.toList.zip items2.toList).length = min items.size items2.size := by simp
  have h0 := h
  obtain ⟨hp, g, d, tk, os⟩ := s
  wp_walk using AutoSeq1.wpAny_loadPart' hl1, AutoSeq1.wpAny_loadPart' hb1, wpAny_forIn_list _ (fun rest b s' => b.1 = none ∧ ∃ i, rest = (items.toList.zip items2.toList).drop i ∧ i ≤ min items.size items2.size ∧ I i s') _
  case turn =>
    rintro ⟨y, x⟩ rest b s' ⟨hb', i, hz, hi, hI⟩
    have hlt : i < (items.toList.zip items2.toList).length := by
      rcases Nat.lt_or_ge i (items.toList.zip items2.toList).length with h' | h'
      · exact h'
      · rw [List.drop_of_length_le h'] at hz; cases hz
    have h12 : i < min items.size items2.size := hZ ▸ hlt
    have h1 : i < items.size := by omega
    have h2 : i < items2.size := by omega
    rw [List.drop_eq_getElem_cons hlt] at hz
    injection hz with hyx hrest
    have hy : y = items[i] := by have := congrArg Prod.fst hyx; simpa using this
    have hx : x = items2[i] := by have := congrArg Prod.snd hyx; simpa using this
    subst hy hx
    refine wpAny_bind (wpAny_mono (turn i h1 h2 s' hI) (fun r s2 q2 => ?_) fun _ _ x => x)
    rcases q2 with ⟨hr, q2⟩ | ⟨hr, q2⟩
    · subst hr
      wp_walk
      exact ⟨rfl, i + 1, hrest, by omega, q2⟩
    · subst hr
      wp_walk
      exact q2
  case fin =>
    rintro ⟨b1, b2⟩ s' ⟨hb', i, hz, hi, hI⟩
    simp only at hb'
    subst hb'
    have hge : min items.size items2.size ≤ i := by
      rcases Nat.lt_or_ge i (items.toList.zip items2.toList).length with h' | h'
      · rw [List.drop_eq_getElem_cons h'] at hz; cases hz
      · exact hZ ▸ h'
    have hi' : i = min items.size items2.size := by omega
    have hR := fin s' (hi' ▸ hI)
    wp_walk
    exact hR
  case h =>
    exact ⟨rfl, 0, rfl, Nat.zero_le _, h0⟩
theorem rc_tupB {E : Value → Shared → Prop} {s : Shared} {l b : Addr} {items items2 : Array Value} {Q : Value → Shared → Prop} (hu : A.units < cLine) (I : Nat → Shared → Prop) (hl : s.heap.IsTuple l items) (hb : s.heap.IsTuple b items2)
    (turn : ∀ i (h1 : i < items.size) (h2 : i < items2.size) s, I i s → wpAny (model prog w) A.in1 (eqBool items[i] items2[i]) (fun r s' => (r = true ∧ I (i + 1) s') ∨ (r = false ∧ Q (.bool false) s')) E s)
    (fin : ∀ s, I (min items.size items2.size) s → Q (.bool (items.size == items2.size)) s) (h : I 0 s) : wpAny (model prog w) A (richCompare .Eq (.ref l) (.ref b)) Q E s := by
  obtain ⟨⟨cls, dd, data, sl⟩, ho, hc, n, hd⟩ := id hl
  obtain ⟨⟨cls2, dd2, data2, sl2⟩, ho2, hc2, n2, hd2⟩ := id hb
  simp only at hc hd hc2 hd2
  subst hc hd hc2 hd2
  refine wpAny_richCompare_same_room (op := .Eq) ⟨_, ho, rfl⟩ ⟨_, ho2, rfl⟩ F.slot_tuple_eq (GQ.call_here F.slot_tuple_eq ⟨_, ho, rfl⟩ F.entry_tuple_eq (F.args_tuple_eq_2 _ _) ?_) hu
  refine tuple_eqB (R := wants (fun v s' => v ≠ .notImplemented ∧ Q v s') E) l b items items2 n n2 dd dd2 sl sl2 I (fun i h1 h2 s' hI => wpAny_mono (turn i h1 h2 s' hI) (fun r s2 q => ?_) fun _ _ z => z) (fun s' q => ⟨(fun x => nomatch x), fin s' q⟩) ho ho2 h
  rcases q with q | ⟨q1, q2⟩
  · exact .inl q
  · exact .inr ⟨q1, ⟨(fun x => nomatch x), q2⟩⟩
end

/-! ### tuple == (): the items are not looked at -/
def rEqE (K : PySem.W.Frag) : V → V → Hp → VK → Prop := fun x y H Q => ∃ ta tb xs, x = .ref ta ∧ y = .ref tb ∧ SqT K H ta xs ∧ SqT K H tb [] ∧ Q (.bl xs.isEmpty) H
section
variable {X : Cx}
theorem op_eqE (hu : X.A.units < cLine) : OpR X (compareOp .Eq) (rEqE X.K) := by
  intro pins s σ H x y v u Q I rx ry h
  obtain ⟨ta, tb, xs, rfl, rfl, e1, e2, q⟩ := h
  obtain rfl : v = Value.ref ta := rx
  obtain rfl : u = Value.ref tb := ry
  obtain ⟨its, r1, t1, _⟩ := I.tuple e1
  obtain ⟨its2, r2, t2, _⟩ := I.tuple e2
  show wpAny (model X.prog X.w) X.A (richCompare .Eq (.ref ta) (.ref tb)) _ _ _
  have l1 : its.length = xs.length := r1.length.symm
  have l2 : its2.length = 0 := r2.length.symm
  refine rc_tupB hu (fun i s' => s' = s) t1 t2 (fun i h1 h2 s' hI => ?_) (fun s' hI => ?_) rfl
  · exact absurd h2 (by simp [l2])
  · subst hI
    refine ⟨_, H, I, ?_, q⟩
    have e : (its.toArray.size == its2.toArray.size) = xs.isEmpty := by
      rw [List.size_toArray, List.size_toArray, l1, l2]
      cases xs <;> rfl
    rw [e]
    rfl
end

/-! ### tuple != tuple, told by the items' eqBool -/
section
open PySem.SeqAt MeetsSeq MeetsSeq2 MeetsSeq3 SeqRoads2
variable {prog : Program} {w : World} {A : Around} {R : Result → Shared → Prop}
theorem tuple_neB (l b : Addr) (items items2 : Array Value) (n n2 : Nat) (dd dd2 : Option Addr) (sl sl2 : Array (Option Value)) (I : Nat → Shared → Prop)
    (turn : ∀ i (h1 : i < items.size) (h2 : i < items2.size) s, I i s → wpAny (model prog w) A.in1 (eqBool items[i] items2[i]) (fun r s' => (r = true ∧ I (i + 1) s') ∨ (r = false ∧ R (.ok (.ret (.bool true))) s')) (fun e s' => R (.error e) s') s)
    (fin : ∀ s, I (min items.size items2.size) s → R (.ok (.ret (.bool (items.size != items2.size)))) s) {s : Shared} (hl1 : s.heap.get? l = some { cls := .type "tuple", dict := dd, data := .seq items n, slots := sl }) (hb1 : s.heap.get? b = some { cls := .type "tuple", dict := dd2, data := .seq items2 n2, slots := sl2 }) (h : I 0 s) :
    wpAny (model prog w) A.in1 (Builtin.«tuple.__ne__» ⟨[.ref l, .ref b], []⟩) (GQ.FinOf prog w A R) (fun e s' => R (.error e) s') s := by
  have f2 := AutoSeq1.sub_tuple_tuple
  have hZ : (items.toList.zip items2.toList).length = min items.size items2.size := by simp
  have h0 := h
  obtain ⟨hp, g, d, tk, os⟩ := s
  wp_walk using AutoSeq1.wpAny_loadPart' hl1, AutoSeq1.wpAny_loadPart' hb1, wpAny_forIn_list _ (fun rest b s' => b.1 = none ∧ ∃ i, rest = (items.toList.zip items2.toList).drop i ∧ i ≤ min items.size items2.size ∧ I i s') _
  case turn =>
    rintro ⟨y, x⟩ rest b s' ⟨hb', i, hz, hi, hI⟩
    have hlt : i < (items.toList.zip items2.toList).length := by
      rcases Nat.lt_or_ge i (items.toList.zip items2.toList).length with h' | h'
      · exact h'
      · rw [List.drop_of_length_le h'] at hz; cases hz
    have h12 : i < min items.size items2.size := hZ ▸ hlt
    have h1 : i < items.size := by omega
    have h2 : i < items2.size := by omega
    rw [List.drop_eq_getElem_cons hlt] at hz
    injection hz with hyx hrest
    have hy : y = items[i] := by have := congrArg Prod.fst hyx; simpa using this
    have hx : x = items2[i] := by have := congrArg Prod.snd hyx; simpa using this
    subst hy hx
    refine wpAny_bind (wpAny_mono (turn i h1 h2 s' hI) (fun r s2 q2 => ?_) fun _ _ x => x)
    rcases q2 with ⟨hr, q2⟩ | ⟨hr, q2⟩
    · subst hr
      wp_walk
      exact ⟨rfl, i + 1, hrest, by omega, q2⟩
    · subst hr
      wp_walk
      exact q2
  case fin =>
    rintro ⟨b1, b2⟩ s' ⟨hb', i, hz, hi, hI⟩
    simp only at hb'
    subst hb'
    have hge : min items.size items2.size ≤ i := by
      rcases Nat.lt_or_ge i (items.toList.zip items2.toList).length with h' | h'
      · rw [List.drop_eq_getElem_cons h'] at hz; cases hz
      · exact hZ ▸ h'
    have hi' : i = min items.size items2.size := by omega
    have hR := fin s' (hi' ▸ hI)
    wp_walk
    exact hR
  case h =>
    exact ⟨rfl, 0, rfl, Nat.zero_le _, h0⟩
theorem rc_tupN {E : Value → Shared → Prop} {s : Shared} {l b : Addr} {items items2 : Array Value} {Q : Value → Shared → Prop} (hu : A.units < cLine) (I : Nat → Shared → Prop) (hl : s.heap.IsTuple l items) (hb : s.heap.IsTuple b items2)
    (turn : ∀ i (h1 : i < items.size) (h2 : i < items2.size) s, I i s → wpAny (model prog w) A.in1 (eqBool items[i] items2[i]) (fun r s' => (r = true ∧ I (i + 1) s') ∨ (r = false ∧ Q (.bool true) s')) E s)
    (fin : ∀ s, I (min items.size items2.size) s → Q (.bool (items.size != items2.size)) s) (h : I 0 s) : wpAny (model prog w) A (richCompare .NotEq (.ref l) (.ref b)) Q E s := by
  obtain ⟨⟨cls, dd, data, sl⟩, ho, hc, n, hd⟩ := id hl
  obtain ⟨⟨cls2, dd2, data2, sl2⟩, ho2, hc2, n2, hd2⟩ := id hb
  simp only at hc hd hc2 hd2
  subst hc hd hc2 hd2
  refine wpAny_richCompare_same_room (op := .NotEq) ⟨_, ho, rfl⟩ ⟨_, ho2, rfl⟩ F.slot_tuple_ne (GQ.call_here F.slot_tuple_ne ⟨_, ho, rfl⟩ F.entry_tuple_ne (F.args_tuple_ne_2 _ _) ?_) hu
  refine tuple_neB (R := wants (fun v s' => v ≠ .notImplemented ∧ Q v s') E) l b items items2 n n2 dd dd2 sl sl2 I (fun i h1 h2 s' hI => wpAny_mono (turn i h1 h2 s' hI) (fun r s2 q => ?_) fun _ _ z => z) (fun s' q => ⟨(fun x => nomatch x), fin s' q⟩) ho ho2 h
  rcases q with q | ⟨q1, q2⟩
  · exact .inl q
  · exact .inr ⟨q1, ⟨(fun x => nomatch x), q2⟩⟩
end

/-! ### tuple != (): the items are not looked at -/
def rNeE (K : PySem.W.Frag) : V → V → Hp → VK → Prop := fun x y H Q => ∃ ta tb xs, x = .ref ta ∧ y = .ref tb ∧ SqT K H ta xs ∧ SqT K H tb [] ∧ Q (.bl (!xs.isEmpty)) H
section
variable {X : Cx}
theorem op_neE (hu : X.A.units < cLine) : OpR X (compareOp .NotEq) (rNeE X.K) := by
  intro pins s σ H x y v u Q I rx ry h
  obtain ⟨ta, tb, xs, rfl, rfl, e1, e2, q⟩ := h
  obtain rfl : v = Value.ref ta := rx
  obtain rfl : u = Value.ref tb := ry
  obtain ⟨its, r1, t1, _⟩ := I.tuple e1
  obtain ⟨its2, r2, t2, _⟩ := I.tuple e2
  show wpAny (model X.prog X.w) X.A (richCompare .NotEq (.ref ta) (.ref tb)) _ _ _
  have l1 : its.length = xs.length := r1.length.symm
  have l2 : its2.length = 0 := r2.length.symm
  refine rc_tupN hu (fun i s' => s' = s) t1 t2 (fun i h1 h2 s' hI => ?_) (fun s' hI => ?_) rfl
  · exact absurd h2 (by simp [l2])
  · subst hI
    refine ⟨_, H, I, ?_, q⟩
    have e : (its.toArray.size != its2.toArray.size) = !xs.isEmpty := by
      rw [List.size_toArray, List.size_toArray, l1, l2]
      cases xs <;> rfl
    rw [e]
    rfl
end

/-! ### k03: _law_lines -/
abbrev sLLs : Stmt := topS 35
abbrev NLLs : List Str := ["_law_block_here", "_law_indent", "_law_lines_here", "_law_statement", "_law_parts_here", "_law_heads_here", "_law_k", "_law_is_left_out"]
abbrev PLLs : List Str := ["_law_block_here", "_law_indent"]
theorem scLLs : FnScope NLLs PLLs (defScope sLLs) := ⟨rfl, rfl, rfl, by decide +kernel, rfl, by decide +kernel, by decide +kernel⟩
abbrev ZP := Str × List St
def hsNE : St → Bool
  | .try_ _ hs _ => !hs.isEmpty
  | _ => false
/-- a part that is not written -/
def leftP (s : St) (p : ZP) : Bool := ((decide (p.1 = "finally") && hsNE s) || decide (p.1 = "else")) && p.2.isEmpty
def zipP (s : St) : List ZP := (lhS s).zip (parts s)
def asH (l : List ZP) : List HdS := l.map fun p => (p.1, [], p.2)
def keptH (s : St) (l : List ZP) : List HdS := asH (l.filter fun p => !leftP s p)
theorem lnHs_congr (f : List St → List Str) (ind : Str) : ∀ {l m : List HdS} {b : Bool}, l.map (fun h => (h.1, h.2.2)) = m.map (fun h => (h.1, h.2.2)) → lnHs f ind b l = lnHs f ind b m
  | [], [], _, _ => rfl
  | [], _ :: _, _, h => by cases h
  | _ :: _, [], _, h => by cases h
  | x :: l, y :: m, b, h => by
    rw [List.map_cons, List.map_cons] at h
    injection h with h1 h2
    injection h1 with h3 h4
    show hdL ind b x.1 :: (f x.2.2 ++ lnHs f ind true l) = hdL ind b y.1 :: (f y.2.2 ++ lnHs f ind true m)
    rw [h3, h4, lnHs_congr f ind h2]
theorem exc_ne (ks : List Str) : "except " ++ nmsS ks ≠ "finally" ∧ "except " ++ nmsS ks ≠ "else" := by
  have e : TL.tl ("except " ++ nmsS ks) = TL.tl "except " ++ TL.tl (nmsS ks) := TL.tl_append _ _
  have e1 : TL.tl ("except " : Str) = [101, 120, 99, 101, 112, 116, 32] := by decide +kernel
  have e2 : TL.tl ("finally" : Str) = [102, 105, 110, 97, 108, 108, 121] := by decide +kernel
  have e3 : TL.tl ("else" : Str) = [101, 108, 115, 101] := by decide +kernel
  rw [e1] at e
  refine ⟨fun z => ?_, fun z => ?_⟩
  · rw [z, e2] at e
    cases e
  · rw [z, e3] at e
    injection e with _ e
    injection e with e _
    exact absurd e (by decide)
theorem kw_ne : ("if" : Str) ≠ "finally" ∧ ("if" : Str) ≠ "else" ∧ ("else" : Str) ≠ "finally" ∧ ("try" : Str) ≠ "finally" ∧ ("try" : Str) ≠ "else" ∧ ("while" : Str) ≠ "finally" ∧ ("while" : Str) ≠ "else" ∧ ("finally" : Str) ≠ "else" := by decide +kernel
theorem und_ne (x : Str) : "undo " ++ x ≠ "finally" ∧ "undo " ++ x ≠ "else" ∧ ∀ y : Str, ("with " ++ x ++ y ≠ "finally" ∧ "with " ++ x ++ y ≠ "else") := by
  have e1 : TL.tl ("undo " : Str) = [117, 110, 100, 111, 32] := by decide +kernel
  have e4 : TL.tl ("with " : Str) = [119, 105, 116, 104, 32] := by decide +kernel
  have e2 : TL.tl ("finally" : Str) = [102, 105, 110, 97, 108, 108, 121] := by decide +kernel
  have e3 : TL.tl ("else" : Str) = [101, 108, 115, 101] := by decide +kernel
  refine ⟨fun z => ?_, fun z => ?_, fun y => ⟨fun z => ?_, fun z => ?_⟩⟩
  · have e := congrArg TL.tl z
    rw [TL.tl_append, e1, e2] at e
    cases e
  · have e := congrArg TL.tl z
    rw [TL.tl_append, e1, e3] at e
    cases e
  · have e := congrArg TL.tl z
    rw [TL.tl_append, TL.tl_append, e4, e2] at e
    cases e
  · have e := congrArg TL.tl z
    rw [TL.tl_append, TL.tl_append, e4, e3] at e
    cases e
theorem hd_app {a x : Str} {c : Nat} (h : (TL.tl a).head? = some c) : (TL.tl (a ++ x)).head? = some c := by
  rw [TL.tl_append]
  cases e : TL.tl a with
  | nil => rw [e] at h; cases h
  | cons d r => rw [e] at h; exact h
theorem hd_ne {a y : Str} {c : Nat} (h : (TL.tl a).head? = some c) (h2 : (TL.tl y).head? ≠ some c) : a ≠ y := fun z => h2 (by rw [← z]; exact h)
theorem left_no {s : St} {p : ZP} (h1 : p.1 ≠ "finally") (h2 : p.1 ≠ "else") : leftP s p = false := by
  unfold leftP
  rw [decide_eq_false h1, decide_eq_false h2]
  rfl
theorem zip_maps {α β γ : Type} (f : α → β) (g : α → γ) : ∀ l : List α, (l.map f).zip (l.map g) = l.map fun x => (f x, g x)
  | [] => rfl
  | x :: r => by rw [List.map_cons, List.map_cons, List.zip_cons_cons, zip_maps f g r]; rfl
/-- what is kept is what the program heads -/
theorem kept_all {s : St} (h : parts s ≠ []) : (keptH s (zipP s)).map (fun h => (h.1, h.2.2)) = (headsS s).map (fun h => (h.1, h.2.2)) ∧ (lhS s).length = (parts s).length ∧ ∀ p ∈ (zipP s)[0]?, leftP s p = false := by
  cases s with
  | ite a b =>
    have e : zipP (.ite a b) = [(("if", a) : ZP), (("else", b) : ZP)] := rfl
    have l1 : leftP (.ite a b) ("if", a) = false := left_no kw_ne.1 kw_ne.2.1
    have l2 : leftP (.ite a b) ("else", b) = b.isEmpty := by
      unfold leftP
      rw [decide_eq_true (rfl : (("else", b) : ZP).1 = "else"), Bool.or_true, Bool.true_and]
    refine ⟨?_, rfl, fun p hp => by rw [e] at hp; cases hp; exact l1⟩
    rw [e]
    unfold keptH asH
    rw [List.filter_cons, List.filter_cons, l1, l2]
    show _ = ((("if", [mk "if"], a) : HdS) :: (if b.isEmpty = true then [] else [(("else", [mk "else"], b) : HdS)])).map _
    cases b <;> rfl
  | whl b =>
    have e : zipP (.whl b) = [(("while", b) : ZP)] := rfl
    have l1 : leftP (.whl b) ("while", b) = false := left_no kw_ne.2.2.2.2.2.1 kw_ne.2.2.2.2.2.2.1
    refine ⟨?_, rfl, fun p hp => by rw [e] at hp; cases hp; exact l1⟩
    rw [e]
    unfold keptH asH
    rw [List.filter_cons, l1]
    rfl
  | undo ns b =>
    have e : zipP (.undo ns b) = [("undo " ++ nmsS ns, b)] := rfl
    have l1 : leftP (.undo ns b) ("undo " ++ nmsS ns, b) = false := left_no (und_ne _).1 (und_ne _).2.1
    refine ⟨?_, rfl, fun p hp => by rw [e] at hp; cases hp; exact l1⟩
    rw [e]
    unfold keptH asH
    rw [List.filter_cons, l1]
    rfl
  | with_ e l ks b =>
    have e0 : zipP (.with_ e l ks b) = [(((("with " ++ callS e ++ ", " ++ callS l) ++ (if ks.isEmpty = true then Str.empty else " swallow " ++ nmsS ks)), b) : ZP)] := rfl
    have hw : (TL.tl (("with " ++ callS e ++ ", " ++ callS l) ++ (if ks.isEmpty = true then Str.empty else " swallow " ++ nmsS ks))).head? = some 119 := hd_app (hd_app (hd_app (hd_app (by decide +kernel))))
    have l1 : leftP (.with_ e l ks b) ((("with " ++ callS e ++ ", " ++ callS l) ++ (if ks.isEmpty = true then Str.empty else " swallow " ++ nmsS ks)), b) = false := left_no (hd_ne hw (by decide +kernel)) (hd_ne hw (by decide +kernel))
    refine ⟨?_, rfl, fun p hp => by rw [e0] at hp; cases hp; exact l1⟩
    rw [e0]
    unfold keptH asH
    rw [List.filter_cons, l1]
    rfl
  | try_ b hs f =>
    have e0 : zipP (.try_ b hs f) = (("try", b) : ZP) :: (hs.map (fun h => (("except " ++ nmsS h.ks, h.b) : ZP)) ++ [(("finally", f) : ZP)]) := by
      show ((("try" : Str) :: (hs.map (fun h => "except " ++ nmsS h.ks) ++ [("finally" : Str)])).zip (b :: (hs.map Hd.b ++ [f]))) = _
      rw [List.zip_cons_cons, List.zip_append (by rw [List.length_map, List.length_map]), zip_maps]
      rfl
    have l1 : leftP (.try_ b hs f) ("try", b) = false := left_no kw_ne.2.2.2.1 kw_ne.2.2.2.2.1
    have l2 : ∀ h : Hd, leftP (.try_ b hs f) ("except " ++ nmsS h.ks, h.b) = false := fun h => left_no (exc_ne _).1 (exc_ne _).2
    have l3 : leftP (.try_ b hs f) ("finally", f) = (!hs.isEmpty && f.isEmpty) := by
      unfold leftP
      rw [decide_eq_true (rfl : (("finally", f) : ZP).1 = "finally"), decide_eq_false (show ¬ (("finally", f) : ZP).1 = "else" from kw_ne.2.2.2.2.2.2.2), Bool.or_false, Bool.true_and]
      rfl
    refine ⟨?_, ?_, fun p hp => by rw [e0] at hp; cases hp; exact l1⟩
    · rw [e0]
      unfold keptH asH
      rw [List.filter_cons, l1, List.filter_append, List.filter_cons, l3]
      have fe : (hs.map (fun h => (("except " ++ nmsS h.ks, h.b) : ZP))).filter (fun p => !leftP (.try_ b hs f) p) = hs.map (fun h => (("except " ++ nmsS h.ks, h.b) : ZP)) := List.filter_eq_self.mpr fun p hp => by
        obtain ⟨h, _, rfl⟩ := List.mem_map.mp hp
        rw [l2]
        rfl
      rw [fe]
      show _ = ((("try", [mk "try"], b) : HdS) :: (hs.map excH ++ (if hs.isEmpty = false ∧ f.isEmpty = true then [] else [(("finally", [mk "finally"], f) : HdS)]))).map _
      cases hh : hs.isEmpty <;> cases hf : f.isEmpty <;> simp [excH]
    · show (("try" : Str) :: (hs.map (fun h => "except " ++ nmsS h.ks) ++ [("finally" : Str)])).length = (b :: (hs.map Hd.b ++ [f])).length
      simp
  | set t e => exact absurd rfl h
  | input t => exact absurd rfl h
  | call t f as => exact absurd rfl h
  | risk ks => exact absurd rfl h
  | raise k => exact absurd rfl h
  | ret e => exact absurd rfl h

/-! ### k03: _law_lines, the walk -/
def spLLs (K : PySem.W.Frag) (n : Nat) : Sp := fun vs H Q _ => ∃ (v : V) (ind : Str) (b : List St), vs = [v, .str ind] ∧ Dp K H v (blD b) ∧ gL b ∧ dpB b ≤ n ∧ szB b ≤ 900 ∧ ind.length + 2 * n ≤ 1002 ∧ ∀ (q : Addr) (H' : Hp), Same H H' → H q = none → H' q = some (.lst ((linB n ind b).map V.str)) → Q (.ref q) H'
theorem parts_heads (s : St) : (parts s).isEmpty = (headsS s).isEmpty := by cases s <;> rfl
theorem parts_cnt {s : St} (g : gS s) : (parts s).length ≤ 4 := by
  cases s with
  | ite a b => exact (by decide : 2 ≤ 4)
  | whl b => exact (by decide : 1 ≤ 4)
  | undo ns b => exact (by decide : 1 ≤ 4)
  | with_ e l ks b => exact (by decide : 1 ≤ 4)
  | try_ b hs f =>
    have g : hs.length ≤ 2 ∧ gL b ∧ gHs hs ∧ gL f := g
    show (b :: (hs.map Hd.b ++ [f])).length ≤ 4
    rw [List.length_cons, List.length_append, List.length_map]
    show hs.length + 1 + 1 ≤ 4
    omega
  | _ => exact Nat.zero_le _
theorem fin_try {s : St} {k : Nat} (h : (lhS s)[k]? = some "finally") : ∃ b hs f, s = .try_ b hs f := by
  have hm := List.mem_of_getElem? h
  cases s with
  | try_ b hs f => exact ⟨_, _, _, rfl⟩
  | ite a b =>
    simp only [lhS, List.mem_cons, List.not_mem_nil, or_false] at hm
    rcases hm with z | z
    · exact absurd z.symm kw_ne.1
    · exact absurd z.symm kw_ne.2.2.1
  | undo ns b =>
    simp only [lhS, List.mem_cons, List.not_mem_nil, or_false] at hm
    exact absurd hm.symm (und_ne _).1
  | with_ e l ks b =>
    have hm := List.mem_singleton.mp hm
    exact absurd hm.symm (hd_ne (c := 119) (hd_app (hd_app (hd_app (hd_app (by decide +kernel))))) (by decide +kernel))
  | _ =>
    have hm := List.mem_singleton.mp hm
    exact absurd hm.symm kw_ne.2.2.2.2.2.1
theorem parts_g {s : St} (g : gS s) : ∀ p ∈ parts s, gL p := by
  intro p hp
  cases s with
  | ite a b =>
    have g : gL a ∧ gL b := g
    rcases List.mem_cons.mp hp with rfl | hp
    · exact g.1
    · rw [List.mem_singleton.mp hp]; exact g.2
  | whl b => rw [List.mem_singleton.mp hp]; exact g
  | undo ns b =>
    have g : (ns ≠ [] ∧ GNs ns) ∧ gL b := g
    rw [List.mem_singleton.mp hp]; exact g.2
  | with_ e l ks b =>
    have g : GC e ∧ GC l ∧ GNs ks ∧ gL b := g
    rw [List.mem_singleton.mp hp]; exact g.2.2.2
  | try_ b hs f =>
    have g : hs.length ≤ 2 ∧ gL b ∧ gHs hs ∧ gL f := g
    rcases List.mem_cons.mp (show p ∈ b :: (hs.map Hd.b ++ [f]) from hp) with rfl | hp
    · exact g.2.1
    rcases List.mem_append.mp hp with hp | hp
    · obtain ⟨h, hh, rfl⟩ := List.mem_map.mp hp
      exact (hd_g (gHs_mem g.2.2.1 hh)).2
    · rw [List.mem_singleton.mp hp]; exact g.2.2.2
  | set t e => cases hp
  | input t => cases hp
  | call t f as => cases hp
  | risk ks => cases hp
  | raise k => cases hp
  | ret e => cases hp
theorem lh_len {s : St} (g : gS s) : ∀ x ∈ lhS s, x.length ≤ 400 := by
  intro x hx
  have e1 : ("if" : Str).length = 2 ∧ ("else" : Str).length = 4 ∧ ("while" : Str).length = 5 ∧ ("try" : Str).length = 3 ∧ ("finally" : Str).length = 7 := by decide +kernel
  obtain ⟨a1, a2, a3, a4, a5⟩ := e1
  cases s with
  | ite a b =>
    rcases List.mem_cons.mp hx with rfl | hx
    · omega
    · rw [List.mem_singleton.mp hx]; omega
  | undo ns b => exact head_len g (("undo " ++ nmsS ns, mk "undo" :: shNs ns, b) : HdS) (List.mem_singleton.mpr rfl) |> fun h => by rw [List.mem_singleton.mp hx]; exact h
  | with_ e l ks b =>
    have h := head_len g _ (List.mem_singleton.mpr rfl : _ ∈ headsS (.with_ e l ks b))
    rw [List.mem_singleton.mp hx]
    exact h
  | try_ b hs f =>
    rcases List.mem_cons.mp (show x ∈ ("try" : Str) :: (hs.map (fun h => "except " ++ nmsS h.ks) ++ [("finally" : Str)]) from hx) with rfl | hx
    · omega
    rcases List.mem_append.mp hx with hx | hx
    · obtain ⟨h, hh, rfl⟩ := List.mem_map.mp hx
      exact head_len g (excH h) (by
        show excH h ∈ (("try", [mk "try"], b) : HdS) :: (hs.map excH ++ _)
        exact List.mem_cons_of_mem _ (List.mem_append_left _ (List.mem_map.mpr ⟨h, hh, rfl⟩)))
    · rw [List.mem_singleton.mp hx]; omega
  | _ => rw [List.mem_singleton.mp hx]; omega
section
variable {P : Program} {w : World} {K : PySem.W.Frag} {mg : Str → Option Value} {base : Heap}
theorem ok_LLs {n : Nat} {f : Addr} {fd : FuncData} (F : Fun K "_law_lines" "_law_lines" sLLs f fd) (T : TxLt mg) (GP : Has P w K mg base CX0 1 "_law_parts" PLPt (spLPt K)) (GN : Has P w K mg base CX0 3 "_law_line" PLLn (spLLn K)) (GH : Has P w K mg base CX0 3 "_law_heads" PLHd (spLHd K)) (GL : Has P w K mg base CX0 (4 + n) "_law_lines" PLLs (spLLs K n)) : FnOk P w K mg base CX0 (4 + n + 1) f fd PLLs (spLLs K (n + 1)) := by
  refine F.ok scLLs (fun vs H Q E h => ?_) (fun cdv A outer s H vs Q E hr h => ?_)
  · obtain ⟨v, ind, b, rfl, _⟩ := h
    rfl
  · obtain ⟨v, ind, b, rfl, hv, g, hdp, hz, hi, k⟩ := h
    have hr1 := hr.mono (j := 1) (by omega)
    have hr3 := hr.mono (j := 3) (by omega)
    have hu := hu_of hr
    have hu0 : (A.deeper (PyProof.Rows.envOfC "_law_lines" (defScope sLLs) s.heap.objs.size f cdv)).units < cLine := Nat.lt_of_succ_lt hu
    refine ⟨_, (pss_cons (ps_set (i := 2) scLLs.nd rfl (Or.inl rfl) (pe_lst pa_nil))
  (pss_cons (ps_for PassesOwn.never rfl (pi_tup (pv 0)) (pg_name (i := 3) scLLs.nd rfl (Or.inl rfl))
  (pss_cons (ps_set (i := 4) scLLs.nd rfl (Or.inl rfl) (pe_callH GP hr1 rfl pass0 (pa_cons (pv 3) pa_nil)))
  (C8.pss_cut (ps_if (pt_cmpR op_eq (pe_callB call_len_seq (by rfl) T.n_len bb_len (pa_cons (pv 4) pa_nil)) pe_int (nomark _))
  (pss_one (ps_expr (pe_bm PySem.F.plainAttrs_list PySem.F.slot_list_append PySem.F.type_list_append mt_append (pv 2) (pa_cons (pe_op op_add_str (pv 1) (pe_callH GN hr3 rfl pass0 (pa_cons (pv 3) pa_nil))) pa_nil))))
  pss_nil)
  (pss_cons (ps_set (i := 5) scLLs.nd rfl (Or.inl rfl) (pe_callH GH hr3 rfl pass0 (pa_cons (pv 3) pa_nil)))
  (C8.pss_cut (ps_for PassesOwn.never rfl (pi_range1 (by rfl) T.n_range (pa_cons (pe_callB call_len_seq (by rfl) T.n_len bb_len (pa_cons (pv 4) pa_nil)) pa_nil)) (pg_name (i := 6) scLLs.nd rfl (Or.inl rfl))
  (C8.pss_cut (ps_set (i := 7) scLLs.nd rfl (Or.inl rfl) (pe_or (pe_and (pe_cmpR op_eq (pe_ix (r := rIxL K) ix_list (pv 5) (pv 6) (fun _ _ => rfl)) pe_str (nomark _)) (pe_one (pe_cmpR (op_neE hu0) (pe_ix (r := rIxT K) ix_tup (pv 3) pe_int (fun _ _ => rfl)) (pe_tup pa_nil) (nomark _)))) (pe_one (pe_cmpR op_eq (pe_ix (r := rIxL K) ix_list (pv 5) (pv 6) (fun _ _ => rfl)) pe_str (nomark _)))))
  (C8.pss_cut (ps_set (i := 7) scLLs.nd rfl (Or.inl rfl) (pe_and (pv 7) (pe_one (pe_cmpR (op_eqE hu0) (pe_ix (r := rIxL K) ix_list (pv 4) (pv 6) (fun _ _ => rfl)) (pe_tup pa_nil) (nomark _)))))
  (pss_one (ps_if (pt_not (pt_val (pv 7)))
  (pss_cons (ps_expr (pe_bm PySem.F.plainAttrs_list PySem.F.slot_list_append PySem.F.type_list_append mt_append (pv 2) (pa_cons (pe_op op_add_str (pe_op op_add_str (pe_op op_add_str (pv 1) (pe_ifExp (pt_cmpR op_gt (pv 6) pe_int (nomark _)) pe_str pe_str)) (pe_ix (r := rIxL K) ix_list (pv 5) (pv 6) (fun _ _ => rfl))) pe_str) pa_nil)))
  (pss_one (ps_set (i := 2) scLLs.nd rfl (Or.inl rfl) (pe_op op_cat (pv 2) (pe_callH GL hr rfl pass0 (pa_cons (pe_ix (r := rIxL K) ix_list (pv 4) (pv 6) (fun _ _ => rfl)) (pa_cons (pe_op op_add_str (pv 1) pe_str) pa_nil)))))))
  pss_nil)))))
  (pss_one (ps_if (pt_cmpR op_gt (pe_callB call_len_seq (by rfl) T.n_len bb_len (pa_cons (pv 4) pa_nil)) pe_int (nomark _))
  (pss_one (ps_expr (pe_bm PySem.F.plainAttrs_list PySem.F.slot_list_append PySem.F.type_list_append mt_append (pv 2) (pa_cons (pe_op op_add_str (pv 1) pe_str) pa_nil))))
  pss_nil)))))))
  (pss_one (ps_ret (pv 2))))), ?_⟩
    have e24 : sizeLine = 2 ^ 24 := rfl
    have l1 : ("}" : Str).length = 1 := by decide +kernel
    have hv : Dp K H v (.tuple (stsD b)) := hv
    obtain ⟨a, xs, rfl, hq, hd⟩ := hv.tupInv
    rw [stsD_map] at hd
    have px := DpAll.map (f := stD) hd
    have lx := Paired.length px
    have hc := linB_cnt (n := n + 1) (ind := ind) g
    have hdp0 := dpB_eq b
    refine ⟨(by show 0 ≤ sizeLine; decide), fun X hX => ?_⟩
    have s2 := same_new (o := .lst []) hX
    refine ⟨_, rfl, a, rfl, ⟨_, SqT.same s2 hq⟩, for_it (walk_tup (K := K) (a := a) (xs := xs)) (fun i σ H' => Same H H' ∧ ∃ (q : Addr) (x3 x4 x5 x6 x7 : Option V), σ = [some (.ref a), some (.str ind), some (.ref q), x3, x4, x5, x6, x7] ∧ H q = none ∧ H' q = some (.lst ((linB (n + 1) ind (b.take i)).map V.str))) ⟨s2, X, none, none, none, none, none, rfl, hX, upd_same⟩ (fun i σ H' _ h' => SqT.same h'.1 hq) ?_ ?_⟩
    case refine_2 =>
      rintro σ H2 ⟨s3, q, x3, x4, x5, x6, x7, rfl, nq, eq⟩
      rw [lx, List.take_length] at eq
      exact ⟨_, rfl, k q H2 s3 nq eq⟩
    rintro i x σ H2 H3 hil ⟨s3, q, x3, x4, x5, x6, x7, rfl, nq, eq⟩ ⟨rfl, hx⟩
    obtain ⟨st, hst, dst⟩ := Paired.at px hx
    have mst := List.mem_of_getElem? hst
    have gst := gL_mem g mst
    have dps : dpS st ≤ n := by
      have go : ∀ {l : List St}, st ∈ l → dpS st ≤ dpIn l := fun {l} => by
        induction l with
        | nil => exact fun h => nomatch h
        | cons x r ih =>
          intro h
          show dpS st ≤ max (dpS x) (dpIn r)
          rcases List.mem_cons.mp h with z | z
          · rw [z]; exact Nat.le_max_left _ _
          · exact Nat.le_trans (ih z) (Nat.le_max_right _ _)
      have := go mst
      omega
    have et : linB (n + 1) ind (b.take (i + 1)) = linB (n + 1) ind (b.take i) ++ linS (n + 1) ind st := by
      unfold linB
      rw [take_snoc hst, List.flatMap_append, List.flatMap_cons, List.flatMap_nil, List.append_nil]
    have lt : (linB (n + 1) ind (b.take i)).length + (linS (n + 1) ind st).length ≤ 5 * szB b := by
      have : linB (n + 1) ind b = linB (n + 1) ind (b.take (i + 1)) ++ linB (n + 1) ind (b.drop (i + 1)) := by
        unfold linB
        rw [← List.flatMap_append, List.take_append_drop]
      have c := congrArg List.length this
      rw [List.length_append, et, List.length_append] at c
      omega
    generalize eL0 : linB (n + 1) ind (b.take i) = L0 at *
    refine ⟨_, rfl, x, st, rfl, dst.same s3, gst, fun PL ps H4 s4 nPL ePL pPL => ?_⟩
    have s34 := s3.trans s4
    have eq4 := s4 _ _ eq
    have lps := Paired.length pPL
    have put : ∀ {H' : Hp} {o : HO} {r : Addr}, H r = none → Same H H' → Same H (upd H' r o) := fun nr s' b o z => by
      rw [upd_ne (ne_of_none z nr)]
      exact s' _ _ z
    have qP : PL ≠ q := fun z => by rw [z] at nPL; rw [nPL] at eq; cases eq
    refine ⟨fun σ H' => Same H H' ∧ σ = [some (.ref a), some (.str ind), some (.ref q), some x, some (.ref PL), x5, x6, x7] ∧ H' PL = some (.lst ps) ∧ Paired (fun v b => Dp K H' v (blD b)) ps (parts st) ∧ H' q = some (.lst ((L0 ++ (if (parts st).isEmpty = true then [ind ++ simS st] else [])).map V.str)), ?_, ?_⟩
    · refine ⟨_, rfl, PL, ps, rfl, .inl (SqL.of ePL), rfl, _, rfl, ?_⟩
      by_cases hE : (parts st).isEmpty = true
      · have h0 : ps.length = 0 := by rw [lps, List.isEmpty_iff.mp hE]; rfl
        refine iteS (decide_eq_true (by rw [h0]; rfl)) ?_
        have hh : headsS st = [] := List.isEmpty_iff.mp (by rw [← parts_heads]; exact hE)
        have ls := sim_len gst
        refine ⟨_, rfl, .inl ⟨rfl, _, SqL.of eq4⟩, _, rfl, _, rfl, x, st, rfl, dst.same s34, gst, hh, fun H5 s5 => ⟨_, _, rfl, rfl, by rw [e24]; omega, q, _, _, rfl, rfl, s5 _ _ eq4, small10 (by rw [List.length_map]; omega), put nq (s34.trans s5), rfl, by rw [upd_ne qP]; exact s5 _ _ ePL, Paired.mapP pPL fun _ y z => (z.same s5).tps (Tps.lst (s5 _ _ eq4)) (noL_bl y), ?_⟩⟩
        rw [upd_same, if_pos hE, List.map_append]
        rfl
      · have h0 : ps.length ≠ 0 := fun z => hE (by
          rw [lps] at z
          rw [List.length_eq_zero_iff.mp z]
          rfl)
        refine iteE (decide_eq_false fun z => h0 (by injection z with z; omega)) ⟨s34, rfl, ePL, pPL, ?_⟩
        rw [if_neg hE, List.append_nil]
        exact eq4
    rintro σ H5 ⟨s05, rfl, ePL5, pPL5, eq5⟩
    refine ⟨_, rfl, x, st, rfl, dst.same s05, gst, fun HL H6 s6 nHL eHL => ?_⟩
    have s06 := s05.trans s6
    have ePL6 := s6 _ _ ePL5
    have eq6 := s6 _ _ eq5
    have pPL6 : Paired (fun v b => Dp K H6 v (blD b)) ps (parts st) := Paired.mapP pPL5 fun _ _ z => z.same s6
    have HLq : HL ≠ q := fun z => by rw [z] at nHL; rw [nHL] at eq5; cases eq5
    have HLP : HL ≠ PL := fun z => by rw [z] at nHL; rw [nHL] at ePL5; cases ePL5
    refine ⟨fun σ H' => Same H H' ∧ ∃ (q2 : Addr) (x6 x7 : Option V) (Ls : List Str), σ = [some (.ref a), some (.str ind), some (.ref q2), some x, some (.ref PL), some (.ref HL), x6, x7] ∧ H q2 = none ∧ H' PL = some (.lst ps) ∧ H' q2 = some (.lst (Ls.map V.str)) ∧ Ls ++ (if (parts st).isEmpty = true then [] else [ind ++ "}"]) = L0 ++ linS (n + 1) ind st, ?_, ?_⟩
    · have zl : (zipP st).length = ps.length := by
        unfold zipP
        rw [List.length_zip, lps]
        by_cases hE : parts st = []
        · rw [hE, List.length_nil]
          omega
        · rw [(kept_all hE).2.1]
          omega
      have hp4 : ps.length ≤ 4 := by rw [lps]; exact parts_cnt gst
      have e62 : (2 : Int) ^ 62 = 4611686018427387904 := by decide
      have eHL6 : H6 HL = some (.lst ((lhS st).map V.str)) := eHL
      obtain ⟨rem, erem⟩ : ∃ rem : Nat → List Str, rem = fun k => if (parts st).isEmpty = true then [] else lnHs (fun b => b.flatMap (linS n (ind ++ "  "))) ind (decide (0 < k)) (keptH st ((zipP st).drop k)) := ⟨_, rfl⟩
      have rem0 : (L0 ++ (if (parts st).isEmpty = true then [ind ++ simS st] else [])) ++ rem 0 = L0 ++ linS (n + 1) ind st := by
        rw [erem]
        by_cases hE : (parts st).isEmpty = true
        · have hh : (headsS st).isEmpty = true := by rw [← parts_heads]; exact hE
          have e : linS (n + 1) ind st = [ind ++ simS st] := if_pos hh
          simp only [if_pos hE, List.append_nil]
          rw [e]
        · have hh : ¬ (headsS st).isEmpty = true := by rw [← parts_heads]; exact hE
          have e : linS (n + 1) ind st = lnHs (fun b => b.flatMap (linS n (ind ++ "  "))) ind false (headsS st) := if_neg hh
          simp only [if_neg hE, List.append_nil]
          rw [e, List.drop_zero, decide_eq_false (Nat.lt_irrefl 0)]
          exact congrArg _ (lnHs_congr _ _ (kept_all (fun z => hE (by rw [z]; rfl))).1)
      refine ⟨_, rfl, PL, ps, rfl, .inl (SqL.of ePL6), ((ps.length : Nat) : Int), rfl, by omega, by omega, ?_⟩
      refine for_range (lo := 0) (n := ((ps.length : Nat) : Int).toNat) (fun k σ H' => Same H H' ∧ ∃ (q2 : Addr) (x6 x7 : Option V) (Ls : List Str), σ = [some (.ref a), some (.str ind), some (.ref q2), some x, some (.ref PL), some (.ref HL), x6, x7] ∧ H q2 = none ∧ q2 ≠ PL ∧ q2 ≠ HL ∧ H' PL = some (.lst ps) ∧ H' HL = some (.lst ((lhS st).map V.str)) ∧ Paired (fun v b => Dp K H' v (blD b)) ps (parts st) ∧ Dp K H' x (stD st) ∧ H' q2 = some (.lst (Ls.map V.str)) ∧ Ls ++ rem k = L0 ++ linS (n + 1) ind st) ⟨s06, q, _, _, _, rfl, nq, qP.symm, HLq.symm, ePL6, eHL6, pPL6, dst.same s06, eq6, rem0⟩ ?_ ?_
      · rintro k σ H7 hk ⟨s07, q2, x6', x7', Ls, rfl, nq2, n1, n2, ePL7, eHL7, pPL7, dst7, eq7, etot⟩
        have hk : k < ps.length := by omega
        obtain ⟨⟨lh, blk⟩, hz⟩ : ∃ p, (zipP st)[k]? = some p := ⟨_, List.getElem?_eq_getElem (by rw [zl]; exact hk)⟩
        have hz2 := hz
        unfold zipP at hz2
        rw [List.getElem?_zip_eq_some] at hz2
        obtain ⟨hlh, hbk⟩ := hz2
        have ezd : (zipP st).drop k = (lh, blk) :: (zipP st).drop (k + 1) := by
          have hl := (List.getElem?_eq_some_iff.mp hz).1
          rw [List.drop_eq_getElem_cons hl, (List.getElem?_eq_some_iff.mp hz).2]
        obtain ⟨pk, hpk⟩ : ∃ pk, ps[k]? = some pk := ⟨_, List.getElem?_eq_getElem hk⟩
        obtain ⟨blk', hb', dpk⟩ := Paired.at pPL7 hpk
        obtain rfl : blk' = blk := by rw [hb'] at hbk; exact Option.some.inj hbk
        have z0 : (0 : Int) + ((k : Nat) : Int) = ((k : Nat) : Int) := Int.zero_add _
        have pne : ¬ (parts st).isEmpty = true := fun z => by rw [List.isEmpty_iff.mp z] at hb'; simp at hb'
        obtain ⟨va, zs, rfl, hqa, hda⟩ := stInv dst7
        have atH : atI ((lhS st).map V.str) ((0 : Int) + ((k : Nat) : Int)) = some (.str lh) := by
          rw [z0]
          exact atI_nat (by rw [List.getElem?_map, hlh]; rfl)
        refine ⟨fun σ H' => Same H7 H' ∧ σ = [some (.ref a), some (.str ind), some (.ref q2), some (.ref va), some (.ref PL), some (.ref HL), some (.int (0 + (k : Int))), some (.bl ((decide (lh = "finally") && hsNE st) || decide (lh = "else")))], ?_, ?_⟩
        · refine ⟨_, rfl, _, rfl, HL, _, _, _, rfl, rfl, SqL.of eHL7, atH, rfl, ?_⟩
          by_cases hF : lh = "finally"
          · have hlh' := hlh
            rw [hF] at hlh'
            obtain ⟨tb, ths, tf, est⟩ := fin_try hlh'
            subst est
            obtain ⟨y1, y2, y3, rfl, d1, d2, d3⟩ := DpAll.three hda
            obtain ⟨ha, hzs, rfl, hha, hhd⟩ := d2.tupInv
            have hle : hzs.isEmpty = ths.isEmpty := by
              have := hhd.len
              rw [hdsD_map, List.length_map] at this
              cases hzs <;> cases ths <;> simp_all
            refine ⟨_, rfl, iteS (decide_eq_true (by rw [hF])) ?_⟩
            refine ⟨_, rfl, va, _, _, _, rfl, rfl, hqa, rfl, (by show 0 ≤ sizeLine; decide), fun t ht => ?_⟩
            have st := same_new (o := .tup []) ht
            refine ⟨ha, t, hzs, rfl, rfl, SqT.same st hha, SqT.of upd_same, _, rfl, ?_⟩
            cases hte : ths.isEmpty with
            | true =>
              refine iteE (by rw [hle, hte]; rfl) ?_
              refine ⟨_, rfl, _, rfl, HL, _, _, _, rfl, rfl, SqL.of (st _ _ eHL7), atH, rfl, st, ?_⟩
              have : hsNE (.try_ tb ths tf) = false := by show (!ths.isEmpty) = false; rw [hte]; rfl
              rw [this, Bool.and_false, Bool.false_or, dec_str]
              rfl
            | false =>
              refine iteS (by rw [hle, hte]; rfl) ⟨st, ?_⟩
              have : hsNE (.try_ tb ths tf) = true := by show (!ths.isEmpty) = true; rw [hte]; rfl
              rw [this, decide_eq_true hF]
              rfl
          · refine ⟨_, rfl, iteE (decide_eq_false fun z => hF (by injection z)) ⟨_, rfl, iteE rfl ?_⟩⟩
            refine ⟨_, rfl, _, rfl, HL, _, _, _, rfl, rfl, SqL.of eHL7, atH, rfl, Same.refl _, ?_⟩
            rw [decide_eq_false hF, Bool.false_and, Bool.false_or, dec_str]
            rfl
        rintro σ H8 ⟨s8, rfl⟩
        have s08 := s07.trans s8
        have eL : leftP st (lh, blk') = (((decide (lh = "finally") && hsNE st) || decide (lh = "else")) && blk'.isEmpty) := rfl
        refine ⟨fun σ H' => Same H7 H' ∧ σ = [some (.ref a), some (.str ind), some (.ref q2), some (.ref va), some (.ref PL), some (.ref HL), some (.int (0 + (k : Int))), some (.bl (leftP st (lh, blk')))], ?_, ?_⟩
        · have atP : atI ps ((0 : Int) + ((k : Nat) : Int)) = some pk := by rw [z0]; exact atI_nat hpk
          obtain ⟨bp, bzs, rfl, hbp, hbd⟩ := (show Dp K H7 pk (.tuple (stsD blk')) from dpk).tupInv
          have hbe : bzs.isEmpty = blk'.isEmpty := by
            have := hbd.len
            rw [stsD_map, List.length_map] at this
            cases bzs <;> cases blk' <;> simp_all
          refine ⟨_, rfl, _, rfl, ?_⟩
          rw [eL]
          cases hA : ((decide (lh = "finally") && hsNE st) || decide (lh = "else")) with
          | true =>
            refine iteS rfl ⟨_, rfl, _, rfl, PL, _, _, _, rfl, rfl, SqL.of (s8 _ _ ePL7), atP, (by show 0 ≤ sizeLine; decide), fun t ht => ?_⟩
            have st := same_new (o := .tup []) ht
            refine ⟨bp, t, bzs, rfl, rfl, SqT.same (s8.trans st) hbp, SqT.of upd_same, s8.trans st, ?_⟩
            rw [hbe, Bool.true_and]
            rfl
          | false => exact iteE rfl ⟨s8, by rw [Bool.false_and]; rfl⟩
        rintro σ H9 ⟨s9, rfl⟩
        have s09 := s07.trans s9
        have ePL9 := s9 _ _ ePL7
        have eHL9 := s9 _ _ eHL7
        have eq9 := s9 _ _ eq7
        have k1 : decide (0 < k + 1) = true := decide_eq_true (Nat.succ_pos k)
        have remk : rem k = lnHs (fun b => b.flatMap (linS n (ind ++ "  "))) ind (decide (0 < k)) (keptH st ((lh, blk') :: (zipP st).drop (k + 1))) := by
          rw [erem]
          simp only [if_neg pne]
          rw [ezd]
        have remk1 : rem (k + 1) = lnHs (fun b => b.flatMap (linS n (ind ++ "  "))) ind true (keptH st ((zipP st).drop (k + 1))) := by
          rw [erem]
          simp only [if_neg pne]
          rw [k1]
        refine ⟨_, rfl, _, rfl, ?_⟩
        cases hL : leftP st (lh, blk') with
        | true =>
          refine iteE rfl ⟨s09, q2, _, _, Ls, rfl, nq2, n1, n2, ePL9, eHL9, Paired.mapP pPL7 fun _ _ z => z.same s9, dst7.same s9, eq9, ?_⟩
          rw [remk1, ← etot, remk]
          have hk0 : 0 < k := Nat.pos_of_ne_zero fun z => by
            subst z
            have := (kept_all (fun z => pne (by rw [z]; rfl))).2.2 _ hz
            rw [hL] at this
            cases this
          have : keptH st ((lh, blk') :: (zipP st).drop (k + 1)) = keptH st ((zipP st).drop (k + 1)) := by
            unfold keptH
            rw [List.filter_cons, hL]
            rfl
          rw [this, decide_eq_true hk0]
        | false =>
          refine iteS rfl ?_
          have keq : keptH st ((lh, blk') :: (zipP st).drop (k + 1)) = ((lh, [], blk') : HdS) :: keptH st ((zipP st).drop (k + 1)) := by
            unfold keptH asH
            rw [List.filter_cons, hL]
            rfl
          have tt : rem k = hdL ind (decide (0 < k)) lh :: (linB n (ind ++ "  ") blk' ++ rem (k + 1)) := by
            rw [remk, keq, remk1]
            rfl
          rw [tt] at etot
          have ct := congrArg List.length etot
          rw [List.length_append, List.length_append, List.length_cons, List.length_append] at ct
          have b1 : ("} " : Str).length = 2 := by decide +kernel
          have b2 : (" {" : Str).length = 2 := by decide +kernel
          have b0 : ("" : Str).length = 0 := by decide +kernel
          have hl4 := lh_len gst lh (List.mem_of_getElem? hlh)
          have di : decide ((0 : Int) < 0 + ((k : Nat) : Int)) = decide (0 < k) := decide_eq_decide.mpr (by omega)
          have li : (if decide ((0 : Int) < 0 + ((k : Nat) : Int)) = true then ("} " : Str) else "").length ≤ 2 := by split <;> omega
          have eh : ind ++ (if decide ((0 : Int) < 0 + ((k : Nat) : Int)) = true then ("} " : Str) else "") ++ lh ++ " {" = hdL ind (decide (0 < k)) lh := by
            unfold hdL
            rw [di, str_emp]
          have mb := List.mem_of_getElem? hb'
          have gbk := parts_g gst blk' mb
          have dbk := dp_part mb
          have zbk := szB_part mb
          have zst := szS_mem mst
          have cbk := linB_cnt (n := n) (ind := ind ++ "  ") gbk
          have atP : atI ps ((0 : Int) + ((k : Nat) : Int)) = some pk := by rw [z0]; exact atI_nat hpk
          refine ⟨_, rfl, .inl ⟨rfl, _, SqL.of eq9⟩, _, rfl, _, rfl, _, _, rfl, rfl, _, rfl, if_tC ⟨_, _, rfl, rfl, by rw [e24]; omega, _, rfl, _, rfl, HL, _, _, _, rfl, rfl, SqL.of eHL9, atH, _, _, rfl, rfl, by rw [len_add, e24]; omega, _, _, rfl, rfl, by rw [len_add, len_add, b2, e24]; omega, q2, _, _, rfl, rfl, eq9, small10 (by rw [List.length_map]; omega), ?_⟩⟩
          rw [eh]
          have tA : Tps _ (upd H9 q2 (.lst (Ls.map V.str ++ [V.str (hdL ind (decide (0 < k)) lh)]))) := Tps.lst eq9
          have sA := put (o := .lst (Ls.map V.str ++ [V.str (hdL ind (decide (0 < k)) lh)])) nq2 s09
          have eqA : upd H9 q2 (.lst (Ls.map V.str ++ [V.str (hdL ind (decide (0 < k)) lh)])) q2 = some (.lst ((Ls ++ [hdL ind (decide (0 < k)) lh]).map V.str)) := by rw [upd_same, List.map_append]; rfl
          have ePLA : upd H9 q2 (.lst (Ls.map V.str ++ [V.str (hdL ind (decide (0 < k)) lh)])) PL = some (.lst ps) := by rw [upd_ne n1.symm]; exact ePL9
          have eHLA : upd H9 q2 (.lst (Ls.map V.str ++ [V.str (hdL ind (decide (0 < k)) lh)])) HL = some (.lst ((lhS st).map V.str)) := by rw [upd_ne n2.symm]; exact eHL9
          have pPLA : Paired (fun v b => Dp K (upd H9 q2 (.lst (Ls.map V.str ++ [V.str (hdL ind (decide (0 < k)) lh)]))) v (blD b)) ps (parts st) := Paired.mapP pPL7 fun _ y z => (z.same s9).tps tA (noL_bl y)
          have dstA := (dst7.same s9).tps tA (noL_st st)
          have dpkA := (dpk.same s9).tps tA (noL_bl blk')
          generalize upd H9 q2 (.lst (Ls.map V.str ++ [V.str (hdL ind (decide (0 < k)) lh)])) = HA at *
          refine ⟨_, rfl, _, rfl, _, rfl, PL, _, _, _, rfl, rfl, SqL.of ePLA, atP, _, rfl, _, _, rfl, rfl, by rw [two_len, e24]; omega, pk, ind ++ "  ", blk', rfl, dpkA, gbk, by omega, by omega, by rw [len_add, two_len]; omega, fun R HB sB nR eR => ?_⟩
          have eqB := sB _ _ eqA
          refine ⟨q2, R, _, _, rfl, rfl, eqB, eR, by rw [List.length_map, List.length_map, List.length_append, e24]; show Ls.length + 1 + _ ≤ _; omega, fun M hM => ?_⟩
          have sM := same_new (o := .lst ((Ls ++ [hdL ind (decide (0 < k)) lh]).map V.str ++ (linB n (ind ++ "  ") blk').map V.str)) hM
          have sAM := sB.trans sM
          have nM : H M = none := none_same (sA.trans sB) hM
          have mP : M ≠ PL := fun z => by rw [z, sB _ _ ePLA] at hM; cases hM
          have mH : M ≠ HL := fun z => by rw [z, sB _ _ eHLA] at hM; cases hM
          refine ⟨sA.trans sAM, M, _, _, Ls ++ [hdL ind (decide (0 < k)) lh] ++ linB n (ind ++ "  ") blk', rfl, nM, mP, mH, sAM _ _ ePLA, sAM _ _ eHLA, Paired.mapP pPLA fun _ _ z => z.same sAM, dstA.same sAM, ?_, ?_⟩
          · rw [upd_same]
            simp only [List.map_append]
          · rw [← etot]
            simp only [List.append_assoc, List.cons_append, List.nil_append]
      · rintro σ H7 ⟨s07, q2, x6', x7', Ls, rfl, nq2, _, _, ePL7, _, _, _, eq7, etot⟩
        refine ⟨s07, q2, _, _, Ls, rfl, nq2, ePL7, eq7, ?_⟩
        rw [← etot, erem]
        by_cases hE : (parts st).isEmpty = true
        · simp only [if_pos hE]
        · simp only [if_neg hE]
          have h0 : 0 < ps.length := by
            rw [lps]
            exact List.length_pos_iff.mpr fun z => hE (by rw [z]; rfl)
          rw [Int.toNat_natCast, ← zl, List.drop_length]
          rfl
    rintro σ H7 ⟨s07, q2, x6', x7', Ls, rfl, nq2, ePL7, eq7, etot⟩
    have ct := congrArg List.length etot
    rw [List.length_append, List.length_append] at ct
    refine ⟨_, rfl, PL, ps, rfl, .inl (SqL.of ePL7), _, _, rfl, rfl, _, rfl, ?_⟩
    by_cases hE : (parts st).isEmpty = true
    · have h0 : ps.length = 0 := by rw [lps, List.isEmpty_iff.mp hE]; rfl
      refine iteE (decide_eq_false (by omega)) ⟨s07, q2, _, _, _, _, _, rfl, nq2, ?_⟩
      rw [if_pos hE, List.append_nil] at etot
      rw [et, ← etot]
      exact eq7
    · have h0 : ps.length ≠ 0 := fun z => hE (by
        rw [lps] at z
        rw [List.length_eq_zero_iff.mp z]
        rfl)
      rw [if_neg hE] at etot
      refine iteS (decide_eq_true (by omega)) ?_
      refine ⟨_, rfl, .inl ⟨rfl, _, SqL.of eq7⟩, _, rfl, _, _, rfl, rfl, by rw [l1, e24]; omega, q2, _, _, rfl, rfl, eq7, small10 (by rw [List.length_map]; omega), put nq2 s07, q2, _, _, _, _, _, rfl, nq2, ?_⟩
      rw [upd_same, et, ← etot, List.map_append]
      rfl
theorem ok_LLss {f : Addr} {fd : FuncData} (F : Fun K "_law_lines" "_law_lines" sLLs f fd) (T : TxLt mg) (GP : Has P w K mg base CX0 1 "_law_parts" PLPt (spLPt K)) (GN : Has P w K mg base CX0 3 "_law_line" PLLn (spLLn K)) (GH : Has P w K mg base CX0 3 "_law_heads" PLHd (spLHd K)) (m : mg "_law_lines" = some (.ref f)) (kp : PySem.W.keepIn K (.ref f) = true) (bd : Binds K fd PLLs []) : ∀ n, FnOk P w K mg base CX0 (4 + n) f fd PLLs (spLLs K n) := by
  intro n
  induction n with
  | zero => exact ⟨fun vs H Q E h => by obtain ⟨_, _, _, _, _, _, h, _⟩ := h; exact (no_dp h).elim, fun _ _ _ _ _ _ _ _ _ _ _ _ _ h => by obtain ⟨_, _, _, _, _, _, h, _⟩ := h; exact (no_dp h).elim⟩
  | succ n ih => exact ok_LLs F T GP GN GH ⟨f, fd, ih, m, kp, bd⟩
end

/-! ### k03: _law_text -/
abbrev sLTx : Stmt := topS 36
abbrev NLTx : List Str := ["_law_tree_here", "_law_lines_here", "_law_keep", "_law_name", "_law_params", "_law_block_here", "_law_words", "_law_param", "_law_line_here"]
abbrev PLTx : List Str := ["_law_tree_here"]
theorem scLTx : FnScope NLTx PLTx (defScope sLTx) := ⟨rfl, rfl, rfl, by decide +kernel, rfl, by decide +kernel, by decide +kernel⟩
def spLTx (K : PySem.W.Frag) (n : Nat) : Sp := fun vs H Q _ => ∃ (v : V) (t : Tr), vs = [v] ∧ Dp K H v (trD t) ∧ GT n t ∧ n ≤ 30 ∧ ∀ H', Same H H' → Q (.str (textS n t)) H'
section
variable {P : Program} {w : World} {K : PySem.W.Frag} {mg : Str → Option Value} {base : Heap}
theorem ok_LTx {n : Nat} {f : Addr} {fd : FuncData} (F : Fun K "_law_text" "_law_text" sLTx f fd) (GX : Has P w K mg base CX0 1 "_law_expression_text" PLXt (spLXt K)) (GL : Has P w K mg base CX0 (4 + n) "_law_lines" PLLs (spLLs K n)) : FnOk P w K mg base CX0 (4 + n + 1) f fd PLTx (spLTx K n) := by
  refine F.ok scLTx (fun vs H Q E h => ?_) (fun cdv A outer s H vs Q E hr h => ?_)
  · obtain ⟨v, t, rfl, _⟩ := h
    rfl
  · obtain ⟨v, t, rfl, hv, g, hn, k⟩ := h
    have hr1 := hr.mono (j := 1) (by omega)
    have hu := hu_of hr
    have hu0 : (A.deeper (PyProof.Rows.envOfC "_law_text" (defScope sLTx) s.heap.objs.size f cdv)).units < cLine := Nat.lt_of_succ_lt hu
    refine ⟨_, (pss_cons (ps_set (i := 1) scLTx.nd rfl (Or.inl rfl) (pe_lst pa_nil))
  (C8.pss_cut (ps_if (pt_cmpR (op_neE hu0) (pe_ix (r := rIxT K) ix_tup (pv 0) pe_int (fun _ _ => rfl)) (pe_tup pa_nil) (nomark _))
  (pss_one (ps_expr (pe_bm PySem.F.plainAttrs_list PySem.F.slot_list_append PySem.F.type_list_append mt_append (pv 1) (pa_cons (pe_op op_add_str pe_str (pe_join pe_str (pe_ix (r := rIxT K) ix_tup (pv 0) pe_int (fun _ _ => rfl)))) pa_nil))))
  pss_nil)
  (C8.pss_cut (ps_if (pt_cmpR (op_neE hu0) (pe_ix (r := rIxT K) ix_tup (pv 0) pe_int (fun _ _ => rfl)) (pe_tup pa_nil) (nomark _))
  (pss_one (ps_expr (pe_bm PySem.F.plainAttrs_list PySem.F.slot_list_append PySem.F.type_list_append mt_append (pv 1) (pa_cons (pe_op op_add_str pe_str (pe_join pe_str (pe_ix (r := rIxT K) ix_tup (pv 0) pe_int (fun _ _ => rfl)))) pa_nil))))
  pss_nil)
  (pss_cons (ps_set (i := 1) scLTx.nd rfl (Or.inl rfl) (pe_op op_cat (pv 1) (pe_lc (own := [("_law_keep", 2)]) (g := gName 2) (tt := tYes) rfl scLTx.nd (pi_tup (pe_ix (r := rIxT K) ix_tup (pv 0) pe_int (fun _ _ => rfl))) (blkOk_by (own := [("_law_keep", 2)]) (N := NLTx) (sc := (defScope sLTx)) (by decide +kernel)) (fun _ _ _ _ _ => (pg_name (i := 2) scLTx.nd rfl (Or.inl rfl))) (fun _ _ _ _ _ => pts_nil) (fun _ _ _ _ _ => (pe_op op_add_str pe_str (pe_callH GX hr1 rfl pass0 (pa_cons (pv 2) pa_nil)))))))
  (pss_cons (ps_for PassesOwn.never rfl (pi_tup (pe_ix (r := rIxT K) ix_tup (pv 0) pe_int (fun _ _ => rfl))) (pg_tup (by rfl) (pgs_cons (pg_name (i := 3) scLTx.nd rfl (Or.inl rfl)) (pgs_cons (pg_name (i := 4) scLTx.nd rfl (Or.inl rfl)) (pgs_cons (pg_name (i := 5) scLTx.nd rfl (Or.inl rfl)) pgs_nil))))
  (pss_cons (ps_setLc (i := 6) (own := [("_law_param", 7)]) (g := gName 7) (tt := tYes) rfl scLTx.nd rfl rfl (sw_true rfl rfl rfl (by decide +kernel)) (pi_tup (pv 4)) (blkOk_by (own := [("_law_param", 7)]) (N := NLTx) (sc := (defScope sLTx)) (by decide +kernel)) (fun _ _ _ _ _ => (pg_name (i := 7) scLTx.nd rfl (Or.inl rfl))) (fun _ _ _ _ _ => pts_nil) (fun _ _ _ _ _ => (pe_op op_add_str (pe_ifExp (pt_val (pe_ix (r := rIxT K) ix_tup (pv 7) pe_int (fun _ _ => rfl))) pe_str pe_str) (pe_ix (r := rIxT K) ix_tup (pv 7) pe_int (fun _ _ => rfl)))))
  (pss_cons (ps_expr (pe_bm PySem.F.plainAttrs_list PySem.F.slot_list_append PySem.F.type_list_append mt_append (pv 1) (pa_cons (pe_op op_add_str (pe_op op_add_str (pe_op op_add_str (pe_op op_add_str pe_str (pv 3)) pe_str) (pe_join pe_str (pv 6))) pe_str) pa_nil)))
  (pss_one (ps_set (i := 1) scLTx.nd rfl (Or.inl rfl) (pe_op op_cat (pe_op op_cat (pv 1) (pe_callH GL hr rfl pass0 (pa_cons (pv 5) (pa_cons pe_str pa_nil)))) (pe_lst (pa_cons pe_str pa_nil))))))))
  (pss_one (ps_ret (pe_join pe_str (pe_lc (own := [("_law_line_here", 8)]) (g := gName 8) (tt := tYes) rfl scLTx.nd (pi_list (pv 1)) (blkOk_by (own := [("_law_line_here", 8)]) (N := NLTx) (sc := (defScope sLTx)) (by decide +kernel)) (fun _ _ _ _ _ => (pg_name (i := 8) scLTx.nd rfl (Or.inl rfl))) (fun _ _ _ _ _ => pts_nil) (fun _ _ _ _ _ => (pe_op op_add_str (pv 8) pe_str))))))))))), ?_⟩
    have e24 : sizeLine = 2 ^ 24 := rfl
    have lg : ("globals " : Str).length = 8 := by decide +kernel
    have lk6 : ("kinds " : Str).length = 6 := by decide +kernel
    have lk : ("keep " : Str).length = 5 := by decide +kernel
    have lnl : ("\n" : Str).length = 1 := by decide +kernel
    have l4 : ("def " : Str).length = 4 := by decide +kernel
    have l1 : ("(" : Str).length = 1 := by decide +kernel
    have l3 : (") {" : Str).length = 3 := by decide +kernel
    have la : ("&" : Str).length = 1 := by decide +kernel
    have l0 : ("" : Str).length = 0 := by decide +kernel
    have hcnt := tree_cnt g
    have htx := text_len g hn
    have hstr := tree_str g hn
    have hv : Dp K H v (.tuple [nmD t.names, nmD t.kinds, .tuple (t.keeps.map exD), .tuple (t.fns.map fnD)]) := hv
    obtain ⟨a, xs, rfl, hq, hd⟩ := hv.tupInv
    obtain ⟨x0, x1, x2, x3, rfl, d0, d1, d2, d3⟩ := hd.four
    obtain ⟨na, rfl, hna⟩ := nm_inv d0
    obtain ⟨ka, rfl, hka⟩ := nm_inv d1
    obtain ⟨pa, ps, rfl, hpa, hpd⟩ := d2.tupInv
    obtain ⟨fa, fs, rfl, hfa, hfd⟩ := d3.tupInv
    have pp := DpAll.map (f := exD) hpd
    have pf := DpAll.map (f := fnD) hfd
    have lp := Paired.length pp
    have lf := Paired.length pf
    have lkeep := g.kp.1
    have lfns := g.fn.1
    refine ⟨(by show 0 ≤ sizeLine; decide), fun X hX => ?_⟩
    have s1 := same_new (o := .lst []) hX
    have em : ∀ ns : List Str, (ns.map V.str).isEmpty = ns.isEmpty := fun ns => by cases ns <;> rfl
    have put : ∀ {H' : Hp} {o : HO} {r : Addr}, H r = none → Same H H' → Same H (upd H' r o) := fun nr s' b o z => by
      rw [upd_ne (ne_of_none z nr)]
      exact s' _ _ z
    refine ⟨fun σ H' => σ = [some (.ref a), some (.ref X), none, none, none, none, none, none, none] ∧ Same H H' ∧ H' X = some (.lst ((rowL "globals " t.names).map V.str)), ?_, ?_⟩
    · have hrw := row_len g.nm
      have hjn := join_len " " t.names
      refine ⟨_, rfl, a, _, _, _, rfl, rfl, SqT.same s1 hq, rfl, (by show 0 ≤ sizeLine; decide), fun u hu => ?_⟩
      have su := same_new (o := .tup []) hu
      have s1u := s1.trans su
      have uX : u ≠ X := fun z => by rw [z, upd_same] at hu; cases hu
      have eXu : upd (upd H X (.lst [])) u (.tup []) X = some (.lst []) := su _ _ upd_same
      refine ⟨na, u, t.names.map V.str, rfl, rfl, SqT.same s1u hna, SqT.of upd_same, _, rfl, ?_⟩
      by_cases hE : t.names.isEmpty = true
      · refine iteE (by rw [em, hE]; rfl) ?_
        refine ⟨rfl, s1u, ?_⟩
        rw [eXu, show rowL "globals " t.names = [] from if_pos hE]
        rfl
      · have hE := Bool.eq_false_iff.mpr hE
        refine iteS (by rw [em, hE]; rfl) ?_
        refine ⟨_, rfl, .inl ⟨rfl, _, SqL.of eXu⟩, ⟨_, rfl⟩, _, rfl, a, _, _, _, rfl, rfl, SqT.same s1u hq, rfl, _, na, t.names, rfl, rfl, .inr (SqT.same s1u hna), by omega, _, _, rfl, rfl, by rw [lg, e24]; omega, X, _, _, rfl, rfl, eXu, small10 (by show 0 ≤ 10000; decide), rfl, put hX s1u, ?_⟩
        rw [upd_same, row_step (K := K) hE]
        rfl
    rintro σ H1 ⟨rfl, s2, eX1⟩
    refine ⟨fun σ H' => σ = [some (.ref a), some (.ref X), none, none, none, none, none, none, none] ∧ Same H H' ∧ H' X = some (.lst ((rowL "globals " t.names ++ rowL "kinds " t.kinds).map V.str)), ?_, ?_⟩
    · have hrw := row_len g.kd
      have hjn := join_len " " t.kinds
      refine ⟨_, rfl, a, _, _, _, rfl, rfl, SqT.same s2 hq, rfl, (by show 0 ≤ sizeLine; decide), fun u hu => ?_⟩
      have su := same_new (o := .tup []) hu
      have s2u := s2.trans su
      have eXu := su _ _ eX1
      refine ⟨ka, u, t.kinds.map V.str, rfl, rfl, SqT.same s2u hka, SqT.of upd_same, _, rfl, ?_⟩
      by_cases hE : t.kinds.isEmpty = true
      · refine iteE (by rw [em, hE]; rfl) ?_
        refine ⟨rfl, s2u, ?_⟩
        rw [eXu, show rowL "kinds " t.kinds = [] from if_pos hE, List.append_nil]
      · have hE := Bool.eq_false_iff.mpr hE
        refine iteS (by rw [em, hE]; rfl) ?_
        have l1 : (rowL "globals " t.names).length ≤ 1 := by
          unfold rowL
          split
          · exact Nat.zero_le _
          · exact Nat.le_refl _
        refine ⟨_, rfl, .inl ⟨rfl, _, SqL.of eXu⟩, ⟨_, rfl⟩, _, rfl, a, _, _, _, rfl, rfl, SqT.same s2u hq, rfl, _, ka, t.kinds, rfl, rfl, .inr (SqT.same s2u hka), by omega, _, _, rfl, rfl, by rw [lk6, e24]; omega, X, _, _, rfl, rfl, eXu, small10 (by rw [List.length_map]; omega), rfl, put hX s2u, ?_⟩
        rw [upd_same, row_step (K := K) (z := "kinds ") hE, List.map_append]
        rfl
    rintro σ H2 ⟨rfl, s3, eX2⟩
    have htl : (treeL n t).length = (rowL "globals " t.names ++ rowL "kinds " t.kinds).length + (t.keeps.length + (t.fns.flatMap (fnL n)).length) := by
      unfold treeL
      simp only [List.length_append, List.length_map]
      omega
    refine ⟨_, rfl, _, rfl, a, _, _, _, rfl, rfl, SqT.same s3 hq, rfl, pa, rfl, ⟨_, SqT.same s3 hpa⟩, fun D hD => ?_⟩
    refine lc_map (walk_tup (K := K) (a := pa) (xs := ps)) (fun i => V.str ((t.keeps.map fun e => "keep " ++ exprZ e.c e.ts).getD i "")) hD (by omega) (fun H' s' => SqT.same (s3.trans s') hpa) ?_ ?_
    · rintro i u H4 H5 k1 hi s4 ⟨rfl, hu⟩ kk
      obtain ⟨e, he, de⟩ := Paired.at pp hu
      have ge := g.kp.2 e (List.mem_of_getElem? he)
      have le := expr_len ge
      have ee : (t.keeps.map fun e => "keep " ++ exprZ e.c e.ts).getD i "" = "keep " ++ exprZ e.c e.ts := by
        rw [List.getD_eq_getElem?_getD, List.getElem?_map, he]
        rfl
      rw [ee] at kk
      refine ⟨rfl, _, rfl, _, e, rfl, de.same (s3.trans s4), ge, fun H6 s6 => ⟨_, _, rfl, rfl, by rw [lk, e24]; omega, kk _ s6⟩⟩
    · intro H4 s4 eD
      have eD : H4 D = some (.lst ((t.keeps.map fun e => "keep " ++ exprZ e.c e.ts).map V.str)) := by
        rw [eD, lp]
        congr 2
        rw [range_map t.keeps (fun e => V.str ("keep " ++ exprZ e.c e.ts)) _ fun i x hx => by
          show V.str ((t.keeps.map _).getD i "") = _
          rw [List.getD_eq_getElem?_getD, List.getElem?_map, hx]
          rfl, List.map_map]
        rfl
      have s34 := s3.trans s4
      refine ⟨X, D, _, _, rfl, rfl, s4 _ _ eX2, eD, by rw [List.length_map, List.length_map, List.length_map, e24]; omega, fun M0 hM0 => ?_⟩
      have s5 := same_new (o := .lst ((rowL "globals " t.names ++ rowL "kinds " t.kinds).map V.str ++ (t.keeps.map fun e => "keep " ++ exprZ e.c e.ts).map V.str)) hM0
      have nM0 : H M0 = none := none_same s34 hM0
      have s05 := s34.trans s5
      have eX5 : upd H4 M0 (.lst ((rowL "globals " t.names ++ rowL "kinds " t.kinds).map V.str ++ (t.keeps.map fun e => "keep " ++ exprZ e.c e.ts).map V.str)) M0 = some (.lst ((rowL "globals " t.names ++ rowL "kinds " t.kinds ++ t.keeps.map fun e => "keep " ++ exprZ e.c e.ts).map V.str)) := by
        rw [upd_same]
        simp only [List.map_append]
      generalize upd H4 M0 (.lst ((rowL "globals " t.names ++ rowL "kinds " t.kinds).map V.str ++ (t.keeps.map fun e => "keep " ++ exprZ e.c e.ts).map V.str)) = H5 at *
      generalize eR : rowL "globals " t.names ++ rowL "kinds " t.kinds ++ t.keeps.map (fun e => "keep " ++ exprZ e.c e.ts) = R at *
      have htl2 : treeL n t = R ++ t.fns.flatMap (fnL n) := by
        rw [← eR]
        unfold treeL
        simp only [List.append_assoc]
      refine ⟨_, rfl, a, _, _, _, rfl, rfl, SqT.same s05 hq, rfl, fa, rfl, ⟨_, SqT.same s05 hfa⟩, for_it (walk_tup (K := K) (a := fa) (xs := fs)) (fun i σ H' => Same H H' ∧ ∃ (q : Addr) (x2 x3 x4 x5 x6 x7 x8 : Option V), σ = [some (.ref a), some (.ref q), x2, x3, x4, x5, x6, x7, x8] ∧ H q = none ∧ H' q = some (.lst ((R ++ (t.fns.take i).flatMap (fnL n)).map V.str))) ⟨s05, M0, _, _, _, _, _, _, _, rfl, nM0, by rw [eX5, List.take_zero, List.flatMap_nil, List.append_nil]⟩ (fun i σ H' _ h' => SqT.same h'.1 hfa) ?_ ?_⟩
      · rintro i x σ H6 H7 hil ⟨s6, q, x2, x3, x4, x5, x6, x7, x8, rfl, nq, eq6⟩ ⟨rfl, hx⟩
        obtain ⟨fn, hfn, dfn⟩ := Paired.at pf hx
        have mfn := List.mem_of_getElem? hfn
        obtain ⟨g1, g2, g3, hdp⟩ := g.fn.2 fn mfn
        have szj : szB fn.b ≤ 900 := by
          have := sum_memZ (l := t.fns.map fun f => szB f.b) (List.mem_map.mpr ⟨fn, mfn, rfl⟩)
          have := g.sz
          omega
        have et : R ++ (t.fns.take (i + 1)).flatMap (fnL n) = (R ++ (t.fns.take i).flatMap (fnL n)) ++ fnL n fn := by
          rw [take_snoc hfn, List.flatMap_append, List.flatMap_cons, List.flatMap_nil, List.append_nil, List.append_assoc]
        have lt : (R ++ (t.fns.take i).flatMap (fnL n)).length + (fnL n fn).length ≤ 200 := by
          have : treeL n t = (R ++ (t.fns.take (i + 1)).flatMap (fnL n)) ++ (t.fns.drop (i + 1)).flatMap (fnL n) := by
            rw [htl2, List.append_assoc, ← List.flatMap_append, List.take_append_drop]
          have c := congrArg List.length this
          rw [List.length_append, et, List.length_append] at c
          omega
        generalize eL0 : R ++ (t.fns.take i).flatMap (fnL n) = L0 at *
        have hv : Dp K H x (.tuple [.str fn.name, .tuple (fn.ps.map prD), blD fn.b]) := dfn
        obtain ⟨c, zs, rfl, hc, hcd⟩ := hv.tupInv
        obtain ⟨y1, y2, y3, rfl, h1, h2, h3⟩ := hcd.three
        rw [h1.strInv] at hc
        obtain ⟨b, ys, rfl, hb, hbd⟩ := h2.tupInv
        have px := DpAll.map (f := prD) hbd
        have lx := Paired.length px
        have lps := g2.1
        have hsum := pars_sum g2
        have hjn := join_len ", " (fn.ps.map parS)
        have lnm := g1.2
        have lfn : (fnL n fn).length = 1 + ((linB n "  " fn.b).length + 1) := by
          show (fnHead fn :: (linB n "  " fn.b ++ [("}" : Str)])).length = _
          rw [List.length_cons, List.length_append, List.length_singleton]
          omega
        refine ⟨c, _, rfl, SqT.same s6 hc, rfl, _, _, rfl, _, _, rfl, _, _, rfl, rfl, ?_⟩
        refine ⟨_, rfl, b, rfl, ⟨_, SqT.same s6 hb⟩, fun D7 hD7 => ?_⟩
        refine lc_map (walk_tup (K := K) (a := b) (xs := ys)) (fun i => V.str ((fn.ps.map parS).getD i "")) hD7 (by omega) (fun H' s' => SqT.same (s6.trans s') hb) ?_ ?_
        · rintro j u H8 H9 k1 hj s8 ⟨rfl, hu⟩ kk
          obtain ⟨pr, hpr, dpr⟩ := Paired.at px hu
          have dpr : Dp K H u (.tuple [.str pr.1, .bool pr.2]) := dpr
          obtain ⟨e, zs, rfl, he, hed⟩ := dpr.tupInv
          obtain ⟨m1, m2, rfl, dm1, dm2⟩ := hed.two
          rw [dm1.strInv, Dp.blInv dm2] at he
          have gpr := (g2.2 pr (List.mem_of_getElem? hpr)).2
          have ee : (fn.ps.map parS).getD j "" = parS pr := by
            rw [List.getD_eq_getElem?_getD, List.getElem?_map, hpr]
            rfl
          rw [ee] at kk
          have se := SqT.same (s6.trans s8) he
          refine ⟨rfl, _, rfl, e, _, _, _, rfl, rfl, se, rfl, pr.2, rfl, ?_⟩
          cases hb2 : pr.2 with
          | true =>
            rw [hb2] at se
            refine iteS rfl ⟨_, rfl, e, _, _, _, rfl, rfl, se, rfl, _, _, rfl, rfl, by rw [la, e24]; omega, ?_⟩
            have := kk _ (Same.refl _)
            unfold parS at this
            rw [hb2, if_pos rfl] at this
            exact this
          | false =>
            rw [hb2] at se
            refine iteE rfl ⟨_, rfl, e, _, _, _, rfl, rfl, se, rfl, _, _, rfl, rfl, by rw [l0, e24]; omega, ?_⟩
            have := kk _ (Same.refl _)
            unfold parS at this
            rw [hb2, if_neg Bool.false_ne_true] at this
            rw [str_emp, empty_add]
            exact this
        · intro H8 s8 eD
          have eD : H8 D7 = some (.lst ((fn.ps.map parS).map V.str)) := by
            rw [eD, lx]
            congr 2
            rw [range_map fn.ps (fun p => V.str (parS p)) _ fun i x hx => by
              show V.str ((fn.ps.map parS).getD i "") = _
              rw [List.getD_eq_getElem?_getD, List.getElem?_map, hx]
              rfl, List.map_map]
            rfl
          have eq8 := s8 _ _ eq6
          have s08 := s6.trans s8
          refine ⟨_, rfl, .inl ⟨rfl, _, SqL.of eq8⟩, _, rfl, _, _, rfl, rfl, by rw [l4, e24]; omega, _, _, rfl, rfl, by rw [len_add, l4, l1, e24]; omega, ⟨_, rfl⟩, _, rfl, _, D7, fn.ps.map parS, rfl, rfl, .inl (SqL.of eD), by omega, _, _, rfl, rfl, by rw [len_add, len_add, l4, l1, e24]; omega, _, _, rfl, rfl, by rw [len_add, len_add, len_add, l4, l1, l3, e24]; omega, q, _, _, rfl, rfl, eq8, small10 (by rw [List.length_map]; omega), ?_⟩
          rw [show ("def " ++ fn.name ++ "(" ++ Txt.join ", " (fn.ps.map parS) ++ ") {" : Str) = fnHead fn from rfl]
          have s9 := put (o := .lst (L0.map V.str ++ [V.str (fnHead fn)])) nq s08
          have e9 : upd H8 q (.lst (L0.map V.str ++ [V.str (fnHead fn)])) q = some (.lst ((L0 ++ [fnHead fn]).map V.str)) := by
            rw [upd_same, List.map_append]
            rfl
          generalize upd H8 q (.lst (L0.map V.str ++ [V.str (fnHead fn)])) = H9 at *
          refine ⟨_, rfl, _, rfl, y3, "  ", fn.b, rfl, h3.same s9, g3, hdp, szj, by rw [two_len]; omega, fun p H10 s10 np ep => ?_⟩
          refine ⟨q, p, _, _, rfl, rfl, s10 _ _ e9, ep, by rw [List.length_map, List.length_map, List.length_append, e24]; show L0.length + 1 + _ ≤ _; omega, fun M hM => ⟨(by show 1 ≤ sizeLine; decide), fun u hu => ?_⟩⟩
          have s11 := same_new (o := .lst ((L0 ++ [fnHead fn]).map V.str ++ (linB n "  " fn.b).map V.str)) hM
          have s12 := same_new (o := .lst [V.str "}"]) hu
          refine ⟨M, u, _, _, rfl, rfl, s12 _ _ upd_same, upd_same, by rw [List.length_append, List.length_map, List.length_map, List.length_append, e24]; show L0.length + 1 + _ + 1 ≤ _; omega, fun R2 hR2 => ?_⟩
          have s012 := ((s9.trans s10).trans s11).trans s12
          have s13 := same_new (o := .lst (((L0 ++ [fnHead fn]).map V.str ++ (linB n "  " fn.b).map V.str) ++ [V.str "}"])) hR2
          refine ⟨s012.trans s13, R2, _, _, _, _, _, _, _, rfl, none_same s012 hR2, ?_⟩
          rw [upd_same, et]
          show _ = some (HO.lst ((L0 ++ (fnHead fn :: (linB n "  " fn.b ++ [("}" : Str)]))).map V.str))
          simp only [List.map_append, List.map_cons, List.map_nil, List.append_assoc, List.cons_append, List.nil_append]
      · rintro σ H6 ⟨s6, q, x2, x3, x4, x5, x6, x7, x8, rfl, nq, eX6⟩
        rw [lf, List.take_length, ← htl2] at eX6
        refine ⟨⟨_, rfl⟩, _, rfl, q, rfl, ⟨_, SqL.of eX6⟩, fun D2 hD2 => lc_map (walk_list (K := K) (a := q) (xs := (treeL n t).map V.str)) (fun i => V.str ((treeL n t).getD i "" ++ "\n")) hD2 (by rw [List.length_map]; omega) (fun H' s' => SqL.of (s' _ _ eX6)) ?_ ?_⟩
        · rintro i x H7 H8 k7 hi s7 ⟨rfl, hx⟩ kx
          rw [List.getElem?_map] at hx
          obtain ⟨l, hl, rfl⟩ : ∃ l, (treeL n t)[i]? = some l ∧ x = V.str l := by
            cases q : (treeL n t)[i]? with
            | none => rw [q] at hx; cases hx
            | some l => rw [q] at hx; exact ⟨l, rfl, (Option.some.inj hx).symm⟩
          have e : (treeL n t).getD i "" = l := by
            rw [List.getD_eq_getElem?_getD, hl]
            rfl
          rw [e] at kx
          have := hstr l (List.mem_of_getElem? hl)
          exact ⟨rfl, _, rfl, _, _, rfl, rfl, by rw [lnl, e24]; omega, kx _ (Same.refl _)⟩
        · intro H7 s7 eD2
          have eD2 : H7 D2 = some (.lst (((treeL n t).map fun l => l ++ ("\n" : Str)).map V.str)) := by
            rw [eD2, List.length_map]
            congr 2
            rw [range_map (treeL n t) (fun l => V.str (l ++ "\n")) _ fun i x hx => by
              show V.str ((treeL n t).getD i "" ++ "\n") = _
              rw [List.getD_eq_getElem?_getD, hx]
              rfl, List.map_map]
            rfl
          exact ⟨_, D2, (treeL n t).map fun l => l ++ ("\n" : Str), rfl, rfl, .inl (SqL.of eD2), Nat.le_trans htx.1 (by decide), k H7 (s6.trans s7)⟩
end

/-! ### k03: drawn trees are good -/
structure EnvG (own kinds : List Str) (heads : List Head) : Prop where
  o : own.length ≤ 8
  go : ∀ x ∈ own, GN x
  gk : ∀ x ∈ kinds, GN x
  gh : ∀ h ∈ heads, GN h.1 ∧ h.2.length ≤ 2
section
variable {own kinds : List Str} {heads : List Head}
theorem ge_of (E : EnvG own kinds heads) {e : Ex} (h : EX own e) : GE e := by
  have hc := h.c
  refine ⟨by omega, fun p hp => ?_, h.up, Nat.le_trans h.ln E.o⟩
  have := h.nm p hp
  have g := E.go _ this.1
  exact ⟨g.1, g.2, this.2.1, by omega⟩
theorem ga_of (E : EnvG own kinds heads) {a : Arg} (h : WA own a) : GA a := by
  cases a with
  | place n => exact E.go _ h
  | value e => exact ge_of E h
theorem gc_of (E : EnvG own kinds heads) {c : Cal} (h : WC own heads c) : GC c := by
  obtain ⟨hd, hm, e1, e2⟩ := h.hd
  have g := E.gh hd hm
  have l : c.2.length ≤ 2 := by
    have := congrArg List.length e2
    rw [List.length_map, List.length_map] at this
    omega
  exact ⟨e1 ▸ g.1, l, fun a ha => ga_of E (h.as a ha)⟩
mutual
theorem gs_of (E : EnvG own kinds heads) : ∀ (last : Bool) (s : St), wS own kinds heads last s → gS s
  | l, .set t e, h => by
    have h : t ∈ own ∧ EX own e := h
    exact ⟨E.go _ h.1, ge_of E h.2⟩
  | l, .input t, h => E.go _ (show t ∈ own from h)
  | l, .raise k, h => E.gk _ (show k ∈ kinds from h)
  | l, .risk ks, h => by
    have h : ks ≠ [] ∧ ks.length ≤ 2 ∧ ∀ k ∈ ks, k ∈ kinds := h
    exact ⟨h.1, by omega, fun k hk => E.gk _ (h.2.2 k hk)⟩
  | l, .call t f as, h => by
    have h : (∀ x, t = some x → x ∈ own) ∧ WC own heads (f, as) := h
    exact ⟨fun x hx => E.go _ (h.1 x hx), gc_of E h.2⟩
  | l, .ret e, h => by
    have h : l = false ∧ EX own e := h
    exact ge_of E h.2
  | l, .ite a b, h => by
    have h : wL own kinds heads l a ∧ wL own kinds heads l b := h
    exact ⟨gl_of E l a h.1, gl_of E l b h.2⟩
  | l, .whl b, h => by
    have h : l = false ∧ wL own kinds heads false b := h
    exact gl_of E false b h.2
  | l, .try_ b hs f, h => by
    have h : l = false ∧ hs.length ≤ 2 ∧ wL own kinds heads false b ∧ wHs own kinds heads hs ∧ wL own kinds heads true f := h
    exact ⟨h.2.1, gl_of E false b h.2.2.1, gh_of E hs h.2.2.2.1, gl_of E true f h.2.2.2.2⟩
  | l, .undo ns b, h => by
    have h : l = false ∧ (ns ≠ [] ∧ ns.length ≤ 3 ∧ ∀ n ∈ ns, n ∈ own) ∧ wL own kinds heads false b := h
    exact ⟨⟨h.2.1.1, h.2.1.2.1, fun n hn => E.go _ (h.2.1.2.2 n hn)⟩, gl_of E false b h.2.2⟩
  | l, .with_ e l2 ks b, h => by
    have h : l = false ∧ WC own heads e ∧ WC own heads l2 ∧ (ks.length ≤ 2 ∧ ∀ k ∈ ks, k ∈ kinds) ∧ wL own kinds heads false b := h
    exact ⟨gc_of E h.2.1, gc_of E h.2.2.1, ⟨by have := h.2.2.2.1.1; omega, fun k hk => E.gk _ (h.2.2.2.1.2 k hk)⟩, gl_of E false b h.2.2.2.2⟩
theorem gl_of (E : EnvG own kinds heads) : ∀ (last : Bool) (b : List St), wL own kinds heads last b → gL b
  | l, [], _ => trivial
  | l, s :: r, h => by
    have h : wS own kinds heads l s ∧ wL own kinds heads l r := h
    exact ⟨gs_of E l s h.1, gl_of E l r h.2⟩
theorem gh_of (E : EnvG own kinds heads) : ∀ (hs : List Hd), wHs own kinds heads hs → gHs hs
  | [], _ => trivial
  | .mk ks b :: r, h => by
    have h : ((ks ≠ [] ∧ ks.length ≤ 2 ∧ ∀ k ∈ ks, k ∈ kinds) ∧ wL own kinds heads false b) ∧ wHs own kinds heads r := h
    exact ⟨⟨⟨h.1.1.1, by have := h.1.1.2.1; omega, fun k hk => E.gk _ (h.1.1.2.2 k hk)⟩, gl_of E false b h.1.2⟩, gh_of E r h.2⟩
end
end
theorem drawn_G {t : Tr} (D : DrawnT t) : GT 6 t := by
  obtain ⟨ws, nok, lws, nN, nK, hN, hK1, hK2, en, ek, kp, lkp, lf1, lf2, efn, sz, w8, w9, w10, h8, h9, h10, hf⟩ := D.ex
  have go : ∀ x ∈ ws, GN x := fun x hx => ⟨nok.name x hx, nok.len x hx⟩
  have m8 := List.mem_of_getElem? h8
  have m9 := List.mem_of_getElem? h9
  have m10 := List.mem_of_getElem? h10
  have gn : ∀ x ∈ t.names, GN x := fun x hx => by rw [en] at hx; exact go x (List.mem_of_mem_take hx)
  have gk : ∀ x ∈ t.kinds, GN x := fun x hx => by rw [ek] at hx; exact go x (List.mem_of_mem_drop (List.mem_of_mem_take hx))
  have ln : t.names.length ≤ 2 := by rw [en, List.length_take]; omega
  have lk : t.kinds.length ≤ 2 := by rw [ek, List.length_take]; omega
  have gfn : ∀ f ∈ t.fns, GN f.name := fun f hm => by
    have : f.name ∈ t.fns.map Fn.name := List.mem_map_of_mem hm
    rw [efn] at this
    exact go _ (List.mem_of_mem_drop (List.mem_of_mem_take this))
  have gps : ∀ f ∈ t.fns, f.ps.length ≤ 2 ∧ ∀ p ∈ f.ps, GN p.1 := fun f hm => by
    obtain ⟨⟨b1, b2, k, e⟩, _⟩ := hf f hm
    rw [e]
    refine ⟨by rw [List.length_take]; show min k 2 ≤ 2; omega, fun p hp => ?_⟩
    have := List.mem_of_mem_take hp
    simp only [List.mem_cons, List.not_mem_nil, or_false] at this
    rcases this with rfl | rfl
    · exact go _ m8
    · exact go _ m9
  have E : ∀ f ∈ t.fns, EnvG (t.names ++ (prs f ++ [w10])) t.kinds (t.fns.map fun f => (f.name, f.ps)) := fun f hm => by
    have gp := gps f hm
    refine ⟨?_, fun x hx => ?_, gk, fun h hh => ?_⟩
    · rw [List.length_append, List.length_append]
      unfold prs
      rw [List.length_map]
      show _ + (_ + 1) ≤ 8
      omega
    · rcases List.mem_append.mp hx with z | z
      · exact gn x z
      · rcases List.mem_append.mp z with z | z
        · obtain ⟨p, hp, rfl⟩ := List.mem_map.mp z
          exact gp.2 p hp
        · rw [List.mem_singleton.mp z]
          exact go _ m10
    · obtain ⟨g, hg, rfl⟩ := List.mem_map.mp hh
      exact ⟨gfn g hg, (gps g hg).1⟩
  have E0 : EnvG t.names t.kinds [] := ⟨by omega, gn, gk, fun h hh => by cases hh⟩
  refine ⟨⟨ln, gn⟩, ⟨lk, gk⟩, ⟨lkp, fun e he => ge_of E0 (kp e he).2⟩, ⟨lf2, fun f hm => ?_⟩, sz⟩
  obtain ⟨_, e, blk, eb, lb, db, he, hw⟩ := hf f hm
  have gp := gps f hm
  have w10m : w10 ∈ t.names ++ (prs f ++ [w10]) := by simp
  refine ⟨gfn f hm, gp, ?_, ?_⟩
  · rw [eb]
    refine ⟨⟨go _ m10, ?_⟩, gl_of (E f hm) false blk hw⟩
    refine ge_of (own := t.names ++ prs f) (kinds := t.kinds) (heads := []) ⟨?_, fun x hx => (E f hm).go x (by
      rcases List.mem_append.mp hx with z | z
      · exact List.mem_append_left _ z
      · exact List.mem_append_right _ (List.mem_append_left _ z)), gk, fun h hh => by cases hh⟩ he
    have := (E f hm).o
    rw [List.length_append, List.length_append] at this
    rw [List.length_append]
    omega
  · rw [eb]
    have e1 := dpB_eq blk
    show 1 + max (dpS (.set w10 e)) (dpIn blk) ≤ 6
    have : dpS (.set w10 e) = 0 := rfl
    omega

/-! ### k05: shapes of texts, the plain part of k03 -/
/-- no token that goes on with a sum -/
def StopH (y : Str × Str) : Prop := y ≠ mk "+" ∧ y ≠ mk "-" ∧ y ≠ mk "*"
theorem shE_head (e : Ex) : ∃ y r, shE e = y :: r ∧ (y = mk "-" ∨ y.1 ≠ "mark") := by
  unfold shE
  cases q : ptsE e with
  | nil => exact absurd q (pts_ne e)
  | cons p r =>
    simp only
    cases p.1 with
    | true => exact ⟨_, _, rfl, .inl rfl⟩
    | false =>
      obtain ⟨k, v, s, h5, h6⟩ := shPt_head p.2
      rw [if_neg Bool.false_ne_true, List.nil_append, h5]
      exact ⟨_, _, rfl, .inr h6⟩
theorem shE_no (e : Ex) {z : Str} (hz : mk "-" ≠ mk z) : ∃ y r, shE e = y :: r ∧ y ≠ mk z := by
  obtain ⟨y, r, h, q⟩ := shE_head e
  refine ⟨y, r, h, fun z => ?_⟩
  rcases q with q | q
  · exact hz (q.symm.trans z)
  · rw [z] at q
    exact q rfl
theorem shA_head (a : Arg) {z : Str} (h1 : mk "-" ≠ mk z) (h2 : mk "&" ≠ mk z) : ∃ y r, shA a = y :: r ∧ y ≠ mk z := by
  cases a with
  | place n => exact ⟨_, _, rfl, h2⟩
  | value e => exact shE_no e h1
theorem stop_comma : StopH (mk ",") := ⟨by decide +kernel, by decide +kernel, by decide +kernel⟩
theorem stop_rap : StopH (mk ")") := ⟨by decide +kernel, by decide +kernel, by decide +kernel⟩
theorem rap_comma : mk ")" ≠ mk "," := by decide +kernel
def Nx (y : Str × Str) : Prop := (∃ x, y = nme x ∧ isName x = true) ∨ y ∈ [mk "}", mk "if", mk "while", mk "risk", mk "raise", mk "try", mk "undo", mk "with", mk "return"]
theorem nx_facts : ∀ y ∈ [mk "}", mk "if", mk "while", mk "risk", mk "raise", mk "try", mk "undo", mk "with", mk "return"], y ≠ mk "+" ∧ y ≠ mk "-" ∧ y ≠ mk "*" ∧ y ≠ mk "else" ∧ y ≠ mk "except" ∧ y ≠ mk "finally" ∧ y ≠ mk "," ∧ y ≠ mk "(" ∧ y ≠ mk "?" ∧ y ≠ mk "swallow" ∧ y.2 ≠ "(" := by decide +kernel
theorem Nx.all {y : Str × Str} (h : Nx y) : y ≠ mk "+" ∧ y ≠ mk "-" ∧ y ≠ mk "*" ∧ y ≠ mk "else" ∧ y ≠ mk "except" ∧ y ≠ mk "finally" ∧ y ≠ mk "," ∧ y ≠ mk "(" ∧ y ≠ mk "?" ∧ y ≠ mk "swallow" ∧ y.2 ≠ "(" := by
  rcases h with ⟨x, rfl, hx⟩ | h
  · refine ⟨?_, ?_, ?_, ?_, ?_, ?_, ?_, ?_, ?_, ?_, fun z => ?_⟩
    iterate 10 exact fun z => by cases z
    have z : x = "(" := z
    rw [z] at hx
    exact absurd hx (by decide +kernel)
  · exact nx_facts y h
theorem Nx.stop {y : Str × Str} (h : Nx y) : StopH y := ⟨h.all.1, h.all.2.1, h.all.2.2.1⟩
theorem shE_two {e : Ex} {y : Str × Str} {r : SH} (hy : Nx y) : ∃ z s, shE e ++ y :: r = z :: s ∧ (z.1 ≠ "name" ∨ ∃ u s', s = u :: s' ∧ u.2 ≠ "(") := by
  have sg : ∀ b, (sgM b).2 ≠ "(" := fun b => by cases b <;> decide +kernel
  have par := hy.all.2.2.2.2.2.2.2.2.2.2
  have mn : ("mark" : Str) ≠ "name" := by decide +kernel
  have nn : ("number" : Str) ≠ "name" := by decide +kernel
  unfold shE
  cases q : ptsE e with
  | nil => exact absurd q (pts_ne e)
  | cons p l =>
    obtain ⟨b, o, n⟩ := p
    simp only
    cases b with
    | true => exact ⟨_, _, rfl, .inl mn⟩
    | false =>
      rw [if_neg Bool.false_ne_true, List.nil_append]
      cases o with
      | none => exact ⟨_, _, rfl, .inl nn⟩
      | some x =>
        unfold shPt
        simp only
        split
        · cases l with
          | nil => exact ⟨_, _, rfl, .inr ⟨_, _, rfl, par⟩⟩
          | cons p2 l => exact ⟨_, _, rfl, .inr ⟨_, _, rfl, sg _⟩⟩
        · exact ⟨_, _, rfl, .inl nn⟩
def isAct : St → Prop
  | .set _ _ => True
  | .input _ => True
  | .call _ _ _ => True
  | _ => False
def blkH (n : Nat) (b : List St) : SH := mk "{" :: (shB n b ++ [mk "}"])
theorem shHs_true (g : List St → SH) : ∀ l : List HdS, shHs g true l = mk "}" :: l.flatMap fun h => h.2.1 ++ mk "{" :: (g h.2.2 ++ [mk "}"])
  | [] => rfl
  | h :: r => by
    show [mk "}"] ++ (h.2.1 ++ mk "{" :: (g h.2.2 ++ shHs g true r)) = _
    rw [shHs_true g r, List.flatMap_cons]
    simp
theorem shHs_false (g : List St → SH) (h : HdS) (r : List HdS) : shHs g false (h :: r) = (h :: r).flatMap fun h => h.2.1 ++ mk "{" :: (g h.2.2 ++ [mk "}"]) := by
  show [] ++ (h.2.1 ++ mk "{" :: (g h.2.2 ++ shHs g true r)) = _
  rw [shHs_true, List.flatMap_cons]
  simp
theorem shS_heads (n : Nat) {s : St} (h : (headsS s).isEmpty = false) : shS (n + 1) s = (headsS s).flatMap fun h => h.2.1 ++ blkH n h.2.2 := by
  show (if (headsS s).isEmpty = true then shSim s else shHs (fun b => b.flatMap (shS n)) false (headsS s)) = _
  rw [h, if_neg Bool.false_ne_true]
  cases e : headsS s with
  | nil => rw [e] at h; cases h
  | cons x r => rw [shHs_false]; rfl
def shHd (n : Nat) (hs : List Hd) : SH := hs.flatMap fun h => mk "except" :: (shNs h.ks ++ blkH n h.b)
def shFin (n : Nat) (hs : List Hd) (f : List St) : SH := if hs.isEmpty = false ∧ f.isEmpty = true then [] else mk "finally" :: blkH n f
def shSwa (ks : List Str) : SH := if ks.isEmpty = true then [] else mk "swallow" :: shNs ks
theorem sh_ite (n : Nat) (a b : List St) : shS (n + 1) (.ite a b) = mk "if" :: (blkH n a ++ (if b.isEmpty = true then [] else mk "else" :: blkH n b)) := by
  rw [shS_heads n rfl]
  show List.flatMap _ ((("if", [mk "if"], a) : HdS) :: (if b.isEmpty = true then [] else [(("else", [mk "else"], b) : HdS)])) = _
  rw [List.flatMap_cons]
  by_cases e : b.isEmpty = true
  · rw [if_pos e, if_pos e]
    rfl
  · rw [if_neg e, if_neg e]
    simp
theorem sh_whl (n : Nat) (b : List St) : shS (n + 1) (.whl b) = mk "while" :: blkH n b := by
  rw [shS_heads n rfl]
  simp [headsS]
theorem sh_try (n : Nat) (b : List St) (hs : List Hd) (f : List St) : shS (n + 1) (.try_ b hs f) = mk "try" :: (blkH n b ++ (shHd n hs ++ shFin n hs f)) := by
  rw [shS_heads n rfl]
  unfold shHd shFin
  show List.flatMap _ ((("try", [mk "try"], b) : HdS) :: (hs.map excH ++ (if hs.isEmpty = false ∧ f.isEmpty = true then [] else [(("finally", [mk "finally"], f) : HdS)]))) = _
  rw [List.flatMap_cons, List.flatMap_append, List.flatMap_map]
  have e : (fun a => (excH a).2.1 ++ blkH n (excH a).2.2) = fun h : Hd => mk "except" :: (shNs h.ks ++ blkH n h.b) := rfl
  rw [e]
  by_cases q : hs.isEmpty = false ∧ f.isEmpty = true
  · rw [if_pos q, if_pos q]
    rfl
  · rw [if_neg q, if_neg q]
    simp
theorem sh_undo (n : Nat) (ns : List Str) (b : List St) : shS (n + 1) (.undo ns b) = mk "undo" :: (shNs ns ++ blkH n b) := by
  rw [shS_heads n rfl]
  simp [headsS]
theorem sh_with (n : Nat) (e l : Cal) (ks : List Str) (b : List St) : shS (n + 1) (.with_ e l ks b) = mk "with" :: (shC e ++ mk "," :: (shC l ++ (shSwa ks ++ blkH n b))) := by
  rw [shS_heads n rfl]
  unfold shSwa
  simp [headsS]
theorem sh_sim (n : Nat) {s : St} (h : headsS s = []) : shS (n + 1) s = shSim s := by
  show (if (headsS s).isEmpty = true then shSim s else _) = _
  rw [h]
  rfl
theorem nx_head (n : Nat) {s : St} (g : gS s) : ∃ y r, shS (n + 1) s = y :: r ∧ Nx y ∧ y ≠ mk "}" := by
  have mkN : ∀ {z : Str}, mk z ∈ [mk "}", mk "if", mk "while", mk "risk", mk "raise", mk "try", mk "undo", mk "with", mk "return"] → Nx (mk z) := fun h => .inr h
  have nmN : ∀ {x : Str}, GN x → Nx (nme x) ∧ nme x ≠ mk "}" := fun {x} h => ⟨.inl ⟨x, rfl, h.1⟩, fun z => by cases z⟩
  cases s with
  | set t e => exact ⟨_, _, sh_sim n rfl, (nmN g.1).1, (nmN g.1).2⟩
  | input t => exact ⟨_, _, sh_sim n rfl, (nmN g).1, (nmN g).2⟩
  | call t f as =>
    have g : (∀ x, t = some x → GN x) ∧ GC (f, as) := g
    cases t with
    | none => exact ⟨_, _, sh_sim n rfl, (nmN g.2.1).1, (nmN g.2.1).2⟩
    | some t => exact ⟨_, _, sh_sim n rfl, (nmN (g.1 t rfl)).1, (nmN (g.1 t rfl)).2⟩
  | risk ks => exact ⟨_, _, sh_sim n rfl, mkN (by decide +kernel), by decide +kernel⟩
  | raise k => exact ⟨_, _, sh_sim n rfl, mkN (by decide +kernel), by decide +kernel⟩
  | ret e => exact ⟨_, _, sh_sim n rfl, mkN (by decide +kernel), by decide +kernel⟩
  | ite a b => exact ⟨_, _, sh_ite n a b, mkN (by decide +kernel), by decide +kernel⟩
  | whl b => exact ⟨_, _, sh_whl n b, mkN (by decide +kernel), by decide +kernel⟩
  | try_ b hs f => exact ⟨_, _, sh_try n b hs f, mkN (by decide +kernel), by decide +kernel⟩
  | undo ns b => exact ⟨_, _, sh_undo n ns b, mkN (by decide +kernel), by decide +kernel⟩
  | with_ e l ks b => exact ⟨_, _, sh_with n e l ks b, mkN (by decide +kernel), by decide +kernel⟩
theorem blkH_app (n : Nat) (b : List St) (r : SH) : blkH n b ++ r = mk "{" :: (shB n b ++ mk "}" :: r) := by
  unfold blkH
  simp
theorem shC_app (c : Cal) (r : SH) : shC c ++ r = nme c.1 :: mk "(" :: (sepH (c.2.map shA) ++ mk ")" :: r) := by simp [shC]
def endH : Str × Str := ("end", "")
theorem shPar_head (p : Str × Bool) : ∃ y r, shPar p = y :: r ∧ y ≠ mk ")" := by
  unfold shPar
  split
  · exact ⟨_, _, rfl, by decide +kernel⟩
  · exact ⟨_, _, rfl, fun z => by cases z⟩
theorem T3_head (n : Nat) (l : List Fn) : ∃ y r, l.flatMap (shF n) ++ [endH] = y :: r ∧ (y = mk "def" ∨ y = endH) := by
  cases l with
  | nil => exact ⟨_, _, rfl, .inr rfl⟩
  | cons f r => exact ⟨_, _, rfl, .inl rfl⟩
theorem T2_head (n : Nat) (es : List Ex) (l : List Fn) : ∃ y r, es.flatMap (fun e => mk "keep" :: shE e) ++ (l.flatMap (shF n) ++ [endH]) = y :: r ∧ (y = mk "keep" ∨ y = mk "def" ∨ y = endH) := by
  cases es with
  | nil =>
    obtain ⟨y, r, h, q⟩ := T3_head n l
    exact ⟨y, r, h, .inr q⟩
  | cons e r => exact ⟨_, _, rfl, .inl rfl⟩
theorem T1_head (n : Nat) (ks : List Str) (es : List Ex) (l : List Fn) : ∃ y r, shRow "kinds" ks ++ (es.flatMap (fun e => mk "keep" :: shE e) ++ (l.flatMap (shF n) ++ [endH])) = y :: r ∧ (y = mk "kinds" ∨ y = mk "keep" ∨ y = mk "def" ∨ y = endH) := by
  unfold shRow
  split
  · obtain ⟨y, r, h, q⟩ := T2_head n es l
    exact ⟨y, r, h, .inr q⟩
  · exact ⟨_, _, rfl, .inl rfl⟩
theorem kg : mk "globals" ≠ mk "kinds" ∧ ∀ y, (y = mk "kinds" ∨ y = mk "keep" ∨ y = mk "def" ∨ y = endH) → y ≠ mk "globals" ∧ y.1 ≠ "name" ∧ ((y = mk "keep" ∨ y = mk "def" ∨ y = endH) → y ≠ mk "kinds") := by
  refine ⟨by decide +kernel, fun y h => ?_⟩
  rcases h with rfl | rfl | rfl | rfl
  · exact ⟨by decide +kernel, by decide +kernel, fun z => absurd z (by decide +kernel)⟩
  · exact ⟨by decide +kernel, by decide +kernel, fun _ => by decide +kernel⟩
  · exact ⟨by decide +kernel, by decide +kernel, fun _ => by decide +kernel⟩
  · exact ⟨by decide +kernel, by decide +kernel, fun _ => by decide +kernel⟩

/-! ### k05: the Reader reads a drawn tree's tokens -/
section
variable {l : Tl} {y : Str × Str} {r : SH}
theorem sh_inv (h : shOf l = y :: r) : ∃ a l', l = (y.1, y.2, a) :: l' ∧ shOf l' = r := by
  cases l with
  | nil => cases h
  | cons x l =>
    have h : (x.1, x.2.1) :: shOf l = y :: r := h
    injection h with h1 h2
    subst h1
    exact ⟨x.2.2, l, rfl, h2⟩
theorem tail_sh (h : shOf l = y :: r) : shOf l.tail = r := by
  obtain ⟨a, l', rfl, e⟩ := sh_inv h
  exact e
theorem isW_sh (z : Str) (h : shOf l = y :: r) : isW z l = decide (y = mk z) := by
  obtain ⟨a, l', rfl, e⟩ := sh_inv h
  obtain ⟨y1, y2⟩ := y
  show (decide (y1 = "mark") && decide (y2 = z)) = decide (((y1, y2) : Str × Str) = mk z)
  rw [← Bool.decide_and]
  exact decide_eq_decide.mpr ⟨fun e => by rw [e.1, e.2], fun e => by injection e with a b; exact ⟨a, b⟩⟩
theorem isN_sh (h : shOf l = y :: r) : isN l = decide (y.1 = "name") := by
  obtain ⟨a, l', rfl, e⟩ := sh_inv h
  rfl
theorem kind_sh (h : shOf l = y :: r) : kindH l = y.1 ∧ textH l = y.2 := by
  obtain ⟨a, l', rfl, e⟩ := sh_inv h
  exact ⟨rfl, rfl⟩
theorem isW_yes {z : Str} (h : shOf l = mk z :: r) : isW z l = true := by
  rw [isW_sh z h]
  exact decide_eq_true rfl
theorem isW_no {z : Str} (h : shOf l = y :: r) (n : y ≠ mk z) : ¬ isW z l = true := by
  rw [isW_sh z h, decide_eq_false n]
  exact Bool.false_ne_true
theorem isN_yes {x : Str} (h : shOf l = nme x :: r) : isN l = true := by
  rw [isN_sh h]
  exact decide_eq_true rfl
theorem isN_no (h : shOf l = y :: r) (n : y.1 ≠ "name") : ¬ isN l = true := by
  rw [isN_sh h, decide_eq_false n]
  exact Bool.false_ne_true
theorem exp_sh {z : Str} (h : shOf l = mk z :: r) : rExp z l = .ok l.tail := if_pos (isW_yes h)
theorem nam_sh {x : Str} (h : shOf l = nme x :: r) : rName l = .ok l.tail := if_pos (isN_yes h)
end
/-- f reads the tokens s, whatever stands behind -/
def Rds (f : Tl → RdR) (s : SH) (ok : Str × Str → Prop) : Prop := ∀ (l : Tl) (y : Str × Str) (r : SH), shOf l = s ++ y :: r → ok y → ∃ l', f l = .ok l' ∧ shOf l' = y :: r
theorem Rds.imp {f : Tl → RdR} {s : SH} {ok ok' : Str × Str → Prop} (h : Rds f s ok) (k : ∀ y, ok' y → ok y) : Rds f s ok' := fun l y r e o => h l y r e (k y o)
theorem rds_name (x : Str) : Rds rName [nme x] fun _ => True := fun l y r h _ => ⟨l.tail, nam_sh h, tail_sh h⟩
theorem rds_exp (z : Str) : Rds (rExp z) [mk z] fun _ => True := fun l y r h _ => ⟨l.tail, exp_sh h, tail_sh h⟩
/-- one behind the other -/
theorem Rds.and {f g : Tl → RdR} {s t : SH} {o1 o2 : Str × Str → Prop} (hf : Rds f s o1) (hg : Rds g t o2) (ho : ∀ y, o2 y → ∀ z r, t ++ [y] = z :: r → o1 z) : Rds (fun l => andR (f l) g) (s ++ t) o2 := fun l y r h o => by
  rw [List.append_assoc] at h
  have : ∃ z r', t ++ y :: r = z :: r' ∧ o1 z := by
    cases t with
    | nil => exact ⟨y, r, rfl, ho y o y [] rfl⟩
    | cons z t => exact ⟨z, t ++ y :: r, rfl, ho y o z (t ++ [y]) rfl⟩
  obtain ⟨z, r', e, oz⟩ := this
  obtain ⟨l1, h1, h2⟩ := hf l z r' (by rw [h, e]) oz
  obtain ⟨l2, h3, h4⟩ := hg l1 y r (by rw [h2, e]) o
  exact ⟨l2, by show andR (f l) g = _; rw [h1]; exact h3, h4⟩
theorem Rds.and' {f g : Tl → RdR} {s t : SH} {o2 : Str × Str → Prop} (hf : Rds f s fun _ => True) (hg : Rds g t o2) : Rds (fun l => andR (f l) g) (s ++ t) o2 := hf.and hg fun _ _ _ _ _ => trivial
/-- more of the same -/
theorem loop_sh {α : Type} {w : Str} {f : Tl → RdR} (sf : Suf f) (g : α → SH) {ok : Str × Str → Prop} (ow : ok (mk w)) : ∀ (es : List α) (l : Tl) (y : Str × Str) (r : SH), (∀ e ∈ es, Rds f (g e) ok) → y ≠ mk w → ok y → shOf l = (es.flatMap fun e => mk w :: g e) ++ y :: r → ∃ l', rLoop (isW w) f l.length l = .ok l' ∧ shOf l' = y :: r
  | [], l, y, r, _, hy, oy, h => by
    have h : shOf l = y :: r := h
    have cn : isW w [] = false := by unfold isW; rw [show kindH [] = "" from rfl, decide_eq_false (by decide +kernel)]; rfl
    rw [loop_eq sf cn, if_neg (isW_no h hy)]
    exact ⟨l, rfl, h⟩
  | e :: es, l, y, r, hf, hy, oy, h => by
    have cn : isW w [] = false := by unfold isW; rw [show kindH [] = "" from rfl, decide_eq_false (by decide +kernel)]; rfl
    rw [List.flatMap_cons] at h
    have h : shOf l = mk w :: (g e ++ (es.flatMap (fun e => mk w :: g e) ++ y :: r)) := by rw [h, List.append_assoc]; rfl
    rw [loop_eq sf cn, if_pos (isW_yes h)]
    have hd : ∃ z r', es.flatMap (fun e => mk w :: g e) ++ y :: r = z :: r' ∧ ok z := by
      cases es with
      | nil => exact ⟨y, r, rfl, oy⟩
      | cons x es => exact ⟨_, _, rfl, ow⟩
    obtain ⟨z, r', e1, e2⟩ := hd
    have ht := tail_sh h
    rw [e1] at ht
    obtain ⟨l1, h1, h2⟩ := hf e List.mem_cons_self l.tail z r' ht e2
    rw [h1]
    exact loop_sh sf g ow es l1 y r (fun x hx => hf x (List.mem_cons_of_mem _ hx)) hy oy (by rw [h2, e1])
theorem rds_more {α : Type} {w : Str} {f : Tl → RdR} (sf : Suf f) (g : α → SH) {ok : Str × Str → Prop} (ow : ok (mk w)) {es : List α} (hf : ∀ e ∈ es, Rds f (g e) ok) : Rds (fun l => rLoop (isW w) f l.length l) (es.flatMap fun e => mk w :: g e) fun y => y ≠ mk w ∧ ok y := fun l y r h o => loop_sh sf g ow es l y r hf o.1 o.2 h
theorem sepH_cons {α : Type} (g : α → SH) (a : α) (es : List α) : sepH ((a :: es).map g) = g a ++ es.flatMap fun e => mk "," :: g e := by
  rw [List.map_cons, sep_cons, List.flatMap_map]
/-- some, with commas between them -/
theorem rds_sep {α : Type} {f : Tl → RdR} (sf : Suf f) (g : α → SH) {ok : Str × Str → Prop} (ow : ok (mk ",")) {a : α} {es : List α} (hf : ∀ e ∈ a :: es, Rds f (g e) ok) : Rds (fun l => andR (f l) fun l1 => rMore f l1.length l1) (sepH ((a :: es).map g)) fun y => y ≠ mk "," ∧ ok y := by
  rw [sepH_cons]
  refine (hf a List.mem_cons_self).and (rds_more sf g ow fun e he => hf e (List.mem_cons_of_mem _ he)) fun y o z r h => ?_
  cases es with
  | nil => cases h; exact o.2
  | cons x es => cases h; exact ow
theorem rds_names {ns : List Str} (h : ns ≠ []) : Rds rNames (shNs ns) fun y => y ≠ mk "," := by
  cases ns with
  | nil => exact absurd rfl h
  | cons a es => exact (rds_sep (ok := fun _ => True) suf_name (fun x => [nme x]) trivial fun e _ => rds_name e).imp fun y o => ⟨o, trivial⟩
theorem row_sh : ∀ (ns : List Str) (l : Tl) (y : Str × Str) (r : SH), y.1 ≠ "name" → shOf l = ns.map nme ++ y :: r → ∃ l', rLoop isN (fun l => .ok l) l.length l = .ok l' ∧ shOf l' = y :: r
  | [], l, y, r, hy, h => by
    rw [loop_eq Suf.ok (by decide +kernel), if_neg (isN_no h hy)]
    exact ⟨l, rfl, h⟩
  | n :: ns, l, y, r, hy, h => by
    rw [loop_eq Suf.ok (by decide +kernel), if_pos (isN_yes h)]
    exact row_sh ns l.tail y r hy (tail_sh h)
theorem rds_row {ns : List Str} (h : ns ≠ []) : Rds rRow (ns.map nme) fun y => y.1 ≠ "name" := by
  cases ns with
  | nil => exact absurd rfl h
  | cons a es => exact (rds_name a).and' (g := fun l1 => rLoop isN (fun l => .ok l) l1.length l1) fun l y r h o => row_sh es l y r o h
/-! sums -/
theorem num_len12 {n : Nat} (h : n < 10) : (numS n).length ≤ 12 := by
  have := num_len10 h
  omega
theorem rds_pt {p : Option Str × Nat} (hn : p.2 < 10) : Rds rTerm (shPt p) fun y => y ≠ mk "*" := fun l y r h hy => by
  have nn : ¬ (("number" : Str) = "name") := by decide +kernel
  obtain ⟨o, n⟩ := p
  have num : ∀ {y : Str × Str} {r : SH}, shOf l = (("number", numS n) : Str × Str) :: (y :: r) → rTerm l = if isW "*" l.tail = true then rName l.tail.tail else .ok l.tail := fun {y r} h => by
    obtain ⟨k1, k2⟩ := kind_sh h
    unfold rTerm
    rw [if_neg (isN_no h nn), if_pos k1, if_pos (by rw [k2]; exact num_len12 hn)]
  cases o with
  | none =>
    have h : shOf l = (("number", numS n) : Str × Str) :: (y :: r) := h
    rw [num h, if_neg (isW_no (tail_sh h) hy)]
    exact ⟨_, rfl, tail_sh h⟩
  | some x =>
    unfold shPt at h
    by_cases q : n = 1
    · simp only [if_pos q] at h
      have h : shOf l = nme x :: (y :: r) := h
      exact ⟨l.tail, if_pos (isN_yes h), tail_sh h⟩
    · simp only [if_neg q] at h
      have h : shOf l = (("number", numS n) : Str × Str) :: (mk "*" :: (nme x :: (y :: r))) := h
      have h2 := tail_sh h
      have h3 := tail_sh h2
      rw [num h, if_pos (isW_yes h2), nam_sh h3]
      exact ⟨_, rfl, tail_sh h3⟩
theorem rds_sum : ∀ (ps : List Pt3) (p : Pt3), (∀ x ∈ p :: ps, x.2.2 < 10) → Rds rSums (shPt p.2 ++ shTl ps) StopH
  | [], p, ok, l, y, r, h, o => by
    have h : shOf l = shPt p.2 ++ y :: r := by rw [h]; unfold shTl; rw [List.flatMap_nil, List.append_nil]
    obtain ⟨l1, h1, h2⟩ := rds_pt (ok p List.mem_cons_self) l y r h o.2.2
    refine ⟨l1, ?_, h2⟩
    rw [sums_eq, h1]
    show sumT l1 = _
    unfold sumT
    rw [if_neg (isW_no h2 o.1), if_neg (isW_no h2 o.2.1)]
  | q :: ps, p, ok, l, y, r, h, o => by
    have h : shOf l = shPt p.2 ++ sgM q.1 :: ((shPt q.2 ++ shTl ps) ++ y :: r) := by
      rw [h]
      unfold shTl
      rw [List.flatMap_cons]
      simp
    obtain ⟨l1, h1, h2⟩ := rds_pt (ok p List.mem_cons_self) l (sgM q.1) _ h (by unfold sgM; split <;> decide +kernel)
    obtain ⟨l2, h3, h4⟩ := rds_sum ps q (fun x hx => ok x (List.mem_cons_of_mem _ hx)) l1.tail y r (tail_sh h2) o
    refine ⟨l2, ?_, h4⟩
    rw [sums_eq, h1]
    show sumT l1 = _
    unfold sumT
    unfold sgM at h2
    cases z : q.1 with
    | true =>
      rw [z, if_pos rfl] at h2
      rw [if_neg (isW_no h2 (by decide +kernel)), if_pos (isW_yes h2)]
      exact h3
    | false =>
      rw [z, if_neg (by decide)] at h2
      rw [if_pos (isW_yes h2)]
      exact h3
theorem rds_expr {e : Ex} (g : GE e) : Rds rExpr (shE e) StopH := fun l y r h o => by
  have hp := g.pt
  unfold shE at h
  rw [expr_eq]
  cases q : ptsE e with
  | nil => exact absurd q (pts_ne e)
  | cons p ps =>
    rw [q] at h hp
    simp only at h
    have key := rds_sum ps p fun x hx => (hp x hx).1
    by_cases z : p.1 = true
    · rw [if_pos z] at h
      have h : shOf l = mk "-" :: ((shPt p.2 ++ shTl ps) ++ y :: r) := h
      rw [if_pos (isW_yes h)]
      exact key l.tail y r (tail_sh h) o
    · rw [if_neg z, List.nil_append] at h
      obtain ⟨k, w, s, h5, h6⟩ := shPt_head p.2
      have h' := h
      rw [h5] at h'
      rw [if_neg (isW_no (y := (k, w)) (r := s ++ shTl ps ++ y :: r) h' fun e => h6 (by injection e))]
      exact key l y r h o

/-! ### k05: arguments, actions, statements of a drawn tree are read -/
theorem rds_arg {a : Arg} (g : GA a) : Rds rArg (shA a) StopH := fun l y r h o => by
  cases a with
  | place n =>
    have h : shOf l = mk "&" :: nme n :: (y :: r) := h
    have h2 := tail_sh h
    exact ⟨l.tail.tail, by unfold rArg; rw [if_pos (isW_yes h), nam_sh h2], tail_sh h2⟩
  | value e =>
    have h : shOf l = shE e ++ y :: r := h
    obtain ⟨y0, r0, h0, h1⟩ := shE_no e (z := "&") (by decide +kernel)
    have h' := h
    rw [h0] at h'
    unfold rArg
    rw [if_neg (isW_no (y := y0) (r := r0 ++ y :: r) h' h1)]
    exact rds_expr g l y r h o
def shAr (as : List Arg) : SH := mk "(" :: (sepH (as.map shA) ++ [mk ")"])
theorem rds_args {as : List Arg} (g : ∀ a ∈ as, GA a) : Rds rArgs (shAr as) fun _ => True := fun l y r h _ => by
  have h : shOf l = mk "(" :: (sepH (as.map shA) ++ mk ")" :: (y :: r)) := by rw [h]; simp [shAr]
  unfold rArgs
  rw [exp_sh h]
  have h2 := tail_sh h
  generalize l.tail = l1 at *
  show ∃ l', (if isW ")" l1 = true then .ok l1.tail else andR (rArg l1) fun l2 => andR (rMore rArg l2.length l2) (rExp ")")) = .ok l' ∧ _
  cases as with
  | nil =>
    have h2 : shOf l1 = mk ")" :: (y :: r) := h2
    rw [if_pos (isW_yes h2)]
    exact ⟨_, rfl, tail_sh h2⟩
  | cons a es =>
    have key := rds_sep suf_arg shA stop_comma fun e he => rds_arg (g e he)
    obtain ⟨y0, r0, h0, h1⟩ := shA_head a (z := ")") (by decide +kernel) (by decide +kernel)
    have hh : ∃ r1, shOf l1 = y0 :: r1 := by
      rw [sepH_cons, h0] at h2
      exact ⟨_, h2⟩
    obtain ⟨r1, hh⟩ := hh
    rw [if_neg (isW_no hh h1)]
    obtain ⟨l2, h3, h4⟩ := key l1 (mk ")") (y :: r) h2 ⟨rap_comma, stop_rap⟩
    replace h3 : (andR (rArg l1) fun l1 => rMore rArg l1.length l1) = .ok l2 := h3
    have e : (andR (rArg l1) fun l2 => andR (rMore rArg l2.length l2) (rExp ")")) = andR (andR (rArg l1) fun l1 => rMore rArg l1.length l1) (rExp ")") := andR_assoc.symm
    rw [e, h3]
    exact ⟨l2.tail, exp_sh h4, tail_sh h4⟩
theorem shC_eq (c : Cal) : shC c = nme c.1 :: shAr c.2 := rfl
theorem rds_act {s : St} (ia : isAct s) (g : gS s) : Rds rAction (shSim s) Nx := fun l y r h hy => by
  have mnn : ¬ (("mark" : Str) = "name") := by decide +kernel
  have st : ∀ {t : Str} {r' : SH}, shOf l = nme t :: r' → rAction l = if isW "(" l.tail = true then rArgs l.tail else andR (rExp "=" l.tail) rSet := fun {t r'} h => by
    unfold rAction
    rw [nam_sh h]
    rfl
  have eqn : mk "=" ≠ mk "(" := by decide +kernel
  cases s with
  | input t =>
    have h : shOf l = nme t :: mk "=" :: mk "?" :: (y :: r) := h
    have h2 := tail_sh h
    have h3 := tail_sh h2
    refine ⟨l.tail.tail.tail, ?_, tail_sh h3⟩
    rw [st h, if_neg (isW_no h2 eqn), exp_sh h2]
    exact if_pos (isW_yes h3)
  | set t e =>
    have g : GN t ∧ GE e := g
    have h : shOf l = nme t :: mk "=" :: (shE e ++ y :: r) := h
    have h2 := tail_sh h
    have h3 := tail_sh h2
    obtain ⟨y0, r0, h0, h1⟩ := shE_no e (z := "?") (by decide +kernel)
    have h3' := h3
    rw [h0] at h3'
    obtain ⟨z, s, hz, hc⟩ := shE_two (e := e) (r := r) hy
    have h4 : shOf l.tail.tail = z :: s := by rw [h3, hz]
    rw [st h, if_neg (isW_no h2 eqn), exp_sh h2]
    show ∃ l', rSet l.tail.tail = _ ∧ _
    unfold rSet
    rw [if_neg (isW_no (y := y0) (r := r0 ++ y :: r) h3' h1), if_neg (fun q => by
      rw [Bool.and_eq_true] at q
      rcases hc with w | ⟨u, s', rfl, w⟩
      · exact isN_no h4 w q.1
      · exact w ((kind_sh (tail_sh h4)).2.symm.trans (of_decide_eq_true q.2)))]
    exact rds_expr g.2 _ y r h3 hy.stop
  | call t f as =>
    have g : (∀ x, t = some x → GN x) ∧ GC (f, as) := g
    cases t with
    | none =>
      have h : shOf l = nme f :: (shAr as ++ y :: r) := h
      have h2 := tail_sh h
      have h2' : shOf l.tail = mk "(" :: _ := h2
      rw [st h, if_pos (isW_yes h2')]
      exact rds_args g.2.2.2 _ y r h2 trivial
    | some t =>
      have h : shOf l = nme t :: mk "=" :: nme f :: (shAr as ++ y :: r) := h
      have h2 := tail_sh h
      have h3 := tail_sh h2
      have h4 := tail_sh h3
      have h4' : shOf l.tail.tail.tail = mk "(" :: _ := h4
      rw [st h, if_neg (isW_no h2 eqn), exp_sh h2]
      show ∃ l', rSet l.tail.tail = _ ∧ _
      unfold rSet
      rw [if_neg (isW_no h3 fun z => by cases z), if_pos (by rw [isN_yes h3, (kind_sh h4').2]; decide +kernel), nam_sh h3]
      exact rds_args g.2.2.2 _ y r h4 trivial
  | _ => exact ia.elim
/-- the Reader of blocks reads blocks of depth n -/
def RdB (blk : Tl → RdR) (n : Nat) : Prop := ∀ b : List St, gL b → dpB b ≤ n → Rds blk (blkH n b) fun _ => True
theorem dpHs_mem {hs : List Hd} {h : Hd} (hm : h ∈ hs) : dpB h.b ≤ dpHs hs := dp_hs (List.mem_map.mpr ⟨h, hm, rfl⟩)
section
variable {blk : Tl → RdR} {n : Nat}
theorem rds_swal {ks : List Str} : Rds (fun l5 => if isW "swallow" l5 = true then rNames l5.tail else (.ok l5 : RdR)) (shSwa ks) fun y => y ≠ mk "," ∧ y ≠ mk "swallow" := fun l y r h o => by
  unfold shSwa at h
  by_cases e : ks.isEmpty = true
  · rw [if_pos e] at h
    have h : shOf l = y :: r := h
    refine ⟨l, ?_, h⟩
    show (if isW "swallow" l = true then rNames l.tail else (.ok l : RdR)) = _
    rw [if_neg (isW_no h o.2)]
  · rw [if_neg e] at h
    have h : shOf l = mk "swallow" :: (shNs ks ++ y :: r) := h
    show ∃ l', (if isW "swallow" l = true then rNames l.tail else (.ok l : RdR)) = _ ∧ _
    rw [if_pos (isW_yes h)]
    exact rds_names (fun z => e (by rw [z]; rfl)) _ y r (tail_sh h) o.1
theorem rds_with (B : RdB blk n) {e l : Cal} {ks : List Str} {b : List St} (g : gS (.with_ e l ks b)) (hd : dpB b ≤ n) : Rds (rWith blk) (shC e ++ mk "," :: (shC l ++ (shSwa ks ++ blkH n b))) fun _ => True := by
  have g : GC e ∧ GC l ∧ GNs ks ∧ gL b := g
  have k1 := rds_swal (ks := ks).and (B b g.2.2.2 hd) fun y _ z r h => by
    have h : mk "{" :: (shB n b ++ [mk "}"] ++ [y]) = z :: r := h
    injection h with h _
    rw [← h]
    exact ⟨by decide +kernel, by decide +kernel⟩
  have k2 := (rds_name l.1).and' ((rds_args g.2.1.2.2).and' k1)
  have k3 := (rds_name e.1).and' ((rds_args g.1.2.2).and' ((rds_exp ",").and' k2))
  intro l' y r h o
  refine k3 l' y r ?_ o
  rw [h]
  simp [shC_eq]
theorem rds_try (sb : Suf blk) (B : RdB blk n) {b : List St} {hs : List Hd} {f : List St} (g : gS (.try_ b hs f)) (hd : dpS (.try_ b hs f) ≤ n) : Rds (rTry blk) (blkH n b ++ (shHd n hs ++ shFin n hs f)) fun y => y ≠ mk "except" ∧ y ≠ mk "finally" := by
  have g : hs.length ≤ 2 ∧ gL b ∧ gHs hs ∧ gL f := g
  have hd : max (dpB b) (max (dpHs hs) (dpB f)) ≤ n := hd
  intro l y r h o
  rw [List.append_assoc] at h
  have hh : ∃ z r', (shHd n hs ++ shFin n hs f) ++ y :: r = z :: r' := by
    cases hq : (shHd n hs ++ shFin n hs f) with
    | nil => exact ⟨_, _, rfl⟩
    | cons z r' => exact ⟨_, _, rfl⟩
  obtain ⟨z, r', hz⟩ := hh
  obtain ⟨l1, h1, h2⟩ := B b g.2.1 (by omega) l z r' (by rw [h, hz]) trivial
  rw [← hz] at h2
  rw [try_eq, h1]
  show ∃ l', tryT blk true l1 = _ ∧ _
  clear h h1 hz
  have fin : ∀ l3, shOf l3 = shFin n hs f ++ y :: r → hs.isEmpty = false → ∃ l', fin2 blk l3 = .ok l' ∧ shOf l' = y :: r := fun l3 h3 he => by
    unfold shFin at h3
    unfold fin2
    by_cases ef : f.isEmpty = true
    · rw [if_pos ⟨he, ef⟩] at h3
      have h3 : shOf l3 = y :: r := h3
      rw [if_neg (isW_no h3 o.2)]
      exact ⟨l3, rfl, h3⟩
    · rw [if_neg fun z => ef z.2] at h3
      have h3 : shOf l3 = mk "finally" :: (blkH n f ++ y :: r) := h3
      rw [if_pos (isW_yes h3)]
      exact B f g.2.2.2 (by omega) _ y r (tail_sh h3) trivial
  have hnd : ∀ h ∈ hs, Rds (rHand blk) (shNs h.ks ++ blkH n h.b) fun _ => True := fun h hm => by
    have gh := hd_g (gHs_mem g.2.2.1 hm)
    have dh := dpHs_mem hm
    exact (rds_names gh.1.1).and (B h.b gh.2 (by omega)) fun y _ z r e => by
      have e : mk "{" :: (shB n h.b ++ [mk "}"] ++ [y]) = z :: r := e
      injection e with e _
      rw [← e]
      decide +kernel
  have sh : Suf (rHand blk) := suf_names.and sb
  have ex : ∃ y0 r0, shFin n hs f ++ y :: r = y0 :: r0 ∧ y0 ≠ mk "except" := by
    unfold shFin
    split
    · exact ⟨y, r, rfl, o.1⟩
    · exact ⟨_, _, rfl, by decide +kernel⟩
  obtain ⟨y0, r0, h0, hy0⟩ := ex
  unfold tryT
  cases hs with
  | nil =>
    have h2 : shOf l1 = mk "finally" :: (blkH n f ++ y :: r) := h2
    rw [if_neg (isW_no h2 (by decide +kernel)), if_pos rfl, exp_sh h2]
    exact B f g.2.2.2 (by omega) _ y r (tail_sh h2) trivial
  | cons x xs =>
    have h2 : shOf l1 = mk "except" :: ((shNs x.ks ++ blkH n x.b) ++ ((xs.flatMap fun h => mk "except" :: (shNs h.ks ++ blkH n h.b)) ++ y0 :: r0)) := by
      rw [h2, ← h0]
      unfold shHd
      rw [List.flatMap_cons]
      simp
    rw [if_pos (isW_yes h2)]
    have hh : ∃ z r', (xs.flatMap fun h => mk "except" :: (shNs h.ks ++ blkH n h.b)) ++ y0 :: r0 = z :: r' := by
      cases xs with
      | nil => exact ⟨_, _, rfl⟩
      | cons a as => exact ⟨_, _, rfl⟩
    obtain ⟨z, r', hz⟩ := hh
    have ht := tail_sh h2
    rw [hz] at ht
    obtain ⟨l3, h3, h4⟩ := hnd x List.mem_cons_self _ z r' ht trivial
    rw [h3]
    show ∃ l', andR (rLoop (isW "except") (rHand blk) l3.length l3) (fin2 blk) = _ ∧ _
    obtain ⟨l4, h5, h6⟩ := loop_sh sh (fun h : Hd => shNs h.ks ++ blkH n h.b) (ok := fun _ => True) trivial xs l3 y0 r0 (fun e he => hnd e (List.mem_cons_of_mem _ he)) hy0 trivial (by rw [h4, ← hz])
    rw [h5]
    exact fin l4 (by rw [h6, ← h0]) rfl
end

/-! ### k05: statements, blocks, functions, a drawn tree -/
theorem stmtW {blk : Tl → RdR} {l : Tl} {z : Str} {r : SH} (h : shOf l = mk z :: r) : rStmt blk l = if isW "if" l = true then andR (blk l.tail) fun l1 => if isW "else" l1 = true then blk l1.tail else .ok l1
  else if isW "while" l = true then blk l.tail
  else if isW "risk" l = true then rNames l.tail
  else if isW "raise" l = true then rName l.tail
  else if isW "try" l = true then rTry blk l.tail
  else if isW "undo" l = true then andR (rNames l.tail) blk
  else if isW "with" l = true then rWith blk l.tail
  else andR (rExp "return" l) rExpr := if_neg (isN_no h (by show ¬ (("mark" : Str) = "name"); decide +kernel))
section
variable {blk : Tl → RdR} {n : Nat}
theorem rds_stmt (sb : Suf blk) (B : RdB blk n) {s : St} (g : gS s) (hd : dpS s ≤ n) : Rds (rStmt blk) (shS (n + 1) s) Nx := fun l y r h hy => by
  have brace : ∀ {b : List St} {y : Str × Str} {z : Str × Str} {r : SH}, blkH n b ++ [y] = z :: r → z = mk "{" := fun {b y z r} h => by
    have h : mk "{" :: (shB n b ++ [mk "}"] ++ [y]) = z :: r := h
    injection h with h _
    exact h.symm
  cases s with
  | set t e =>
    rw [sh_sim n rfl] at h
    have h' : shOf l = nme t :: _ := h
    have e : rStmt blk l = rAction l := if_pos (isN_yes h')
    rw [e]
    exact rds_act (s := .set t _) trivial g l y r h hy
  | input t =>
    rw [sh_sim n rfl] at h
    have h' : shOf l = nme t :: _ := h
    have e : rStmt blk l = rAction l := if_pos (isN_yes h')
    rw [e]
    exact rds_act (s := .input t) trivial g l y r h hy
  | call t f as =>
    rw [sh_sim n rfl] at h
    have h' : ∃ x r', shOf l = nme x :: r' := by
      cases t with
      | none => exact ⟨_, _, h⟩
      | some t => exact ⟨_, _, h⟩
    obtain ⟨x, r', h'⟩ := h'
    have e : rStmt blk l = rAction l := if_pos (isN_yes h')
    rw [e]
    exact rds_act (s := .call t f as) trivial g l y r h hy
  | risk ks =>
    have g : ks ≠ [] ∧ GNs ks := g
    rw [sh_sim n rfl] at h
    have h : shOf l = mk "risk" :: (shNs ks ++ y :: r) := h
    rw [stmtW h, if_neg (isW_no h (by decide +kernel)), if_neg (isW_no h (by decide +kernel)), if_pos (isW_yes h)]
    exact rds_names g.1 _ y r (tail_sh h) hy.all.2.2.2.2.2.2.1
  | raise k =>
    rw [sh_sim n rfl] at h
    have h : shOf l = mk "raise" :: nme k :: (y :: r) := h
    rw [stmtW h, if_neg (isW_no h (by decide +kernel)), if_neg (isW_no h (by decide +kernel)), if_neg (isW_no h (by decide +kernel)), if_pos (isW_yes h)]
    exact rds_name k _ y r (tail_sh h) trivial
  | ret e =>
    rw [sh_sim n rfl] at h
    have h : shOf l = mk "return" :: (shE e ++ y :: r) := h
    rw [stmtW h, if_neg (isW_no h (by decide +kernel)), if_neg (isW_no h (by decide +kernel)), if_neg (isW_no h (by decide +kernel)), if_neg (isW_no h (by decide +kernel)), if_neg (isW_no h (by decide +kernel)), if_neg (isW_no h (by decide +kernel)), if_neg (isW_no h (by decide +kernel)), exp_sh h]
    exact rds_expr g _ y r (tail_sh h) hy.stop
  | ite a b =>
    have g : gL a ∧ gL b := g
    have hd : max (dpB a) (dpB b) ≤ n := hd
    rw [sh_ite] at h
    have h : shOf l = mk "if" :: (blkH n a ++ ((if b.isEmpty = true then [] else mk "else" :: blkH n b) ++ y :: r)) := by rw [h]; simp
    rw [stmtW h, if_pos (isW_yes h)]
    by_cases e : b.isEmpty = true
    · rw [if_pos e] at h
      obtain ⟨l1, h1, h2⟩ := B a g.1 (by omega) l.tail y r (tail_sh h) trivial
      rw [h1]
      show ∃ l', (if isW "else" l1 = true then blk l1.tail else (.ok l1 : RdR)) = _ ∧ _
      rw [if_neg (isW_no h2 hy.all.2.2.2.1)]
      exact ⟨l1, rfl, h2⟩
    · rw [if_neg e] at h
      obtain ⟨l1, h1, h2⟩ := B a g.1 (by omega) l.tail (mk "else") (blkH n b ++ y :: r) (tail_sh h) trivial
      rw [h1]
      show ∃ l', (if isW "else" l1 = true then blk l1.tail else (.ok l1 : RdR)) = _ ∧ _
      rw [if_pos (isW_yes h2)]
      exact B b g.2 (by omega) _ y r (tail_sh h2) trivial
  | whl b =>
    rw [sh_whl] at h
    have h : shOf l = mk "while" :: (blkH n b ++ y :: r) := h
    rw [stmtW h, if_neg (isW_no h (by decide +kernel)), if_pos (isW_yes h)]
    exact B b g hd _ y r (tail_sh h) trivial
  | try_ b hs f =>
    rw [sh_try] at h
    have h : shOf l = mk "try" :: ((blkH n b ++ (shHd n hs ++ shFin n hs f)) ++ y :: r) := h
    rw [stmtW h, if_neg (isW_no h (by decide +kernel)), if_neg (isW_no h (by decide +kernel)), if_neg (isW_no h (by decide +kernel)), if_neg (isW_no h (by decide +kernel)), if_pos (isW_yes h)]
    exact rds_try sb B g hd _ y r (tail_sh h) ⟨hy.all.2.2.2.2.1, hy.all.2.2.2.2.2.1⟩
  | undo ns b =>
    have g : (ns ≠ [] ∧ GNs ns) ∧ gL b := g
    rw [sh_undo] at h
    have h : shOf l = mk "undo" :: ((shNs ns ++ blkH n b) ++ y :: r) := h
    rw [stmtW h, if_neg (isW_no h (by decide +kernel)), if_neg (isW_no h (by decide +kernel)), if_neg (isW_no h (by decide +kernel)), if_neg (isW_no h (by decide +kernel)), if_neg (isW_no h (by decide +kernel)), if_pos (isW_yes h)]
    exact ((rds_names g.1.1).and (B b g.2 hd) fun y _ z r e => by rw [brace e]; decide +kernel) _ y r (tail_sh h) trivial
  | with_ e l2 ks b =>
    rw [sh_with] at h
    have h : shOf l = mk "with" :: ((shC e ++ mk "," :: (shC l2 ++ (shSwa ks ++ blkH n b))) ++ y :: r) := h
    rw [stmtW h, if_neg (isW_no h (by decide +kernel)), if_neg (isW_no h (by decide +kernel)), if_neg (isW_no h (by decide +kernel)), if_neg (isW_no h (by decide +kernel)), if_neg (isW_no h (by decide +kernel)), if_neg (isW_no h (by decide +kernel)), if_pos (isW_yes h)]
    exact rds_with B g hd _ y r (tail_sh h) trivial
end
theorem dpIn_mem {b : List St} {s : St} (h : s ∈ b) : dpS s ≤ dpIn b := by
  induction b with
  | nil => cases h
  | cons x r ih =>
    show dpS s ≤ max (dpS x) (dpIn r)
    rcases List.mem_cons.mp h with z | z
    · rw [z]; exact Nat.le_max_left _ _
    · exact Nat.le_trans (ih z) (Nat.le_max_right _ _)
theorem stms_sh {m n : Nat} (B : RdB (rBlock m) n) : ∀ (b : List St) (l : Tl) (y : Str × Str) (r : SH), (∀ s ∈ b, gS s ∧ dpS s ≤ n) → shOf l = shB (n + 1) b ++ mk "}" :: (y :: r) → ∃ l', rStms (rBlock m) l = .ok l' ∧ shOf l' = y :: r
  | [], l, y, r, _, h => by
    have h : shOf l = mk "}" :: (y :: r) := h
    rw [stms_eq (block3 m), if_pos (isW_yes h)]
    exact ⟨_, rfl, tail_sh h⟩
  | s :: b, l, y, r, hb, h => by
    have h : shOf l = shS (n + 1) s ++ (shB (n + 1) b ++ mk "}" :: (y :: r)) := by
      rw [h]
      unfold shB
      rw [List.flatMap_cons, List.append_assoc]
    have hs := hb s List.mem_cons_self
    obtain ⟨y0, r0, h0, _, h1⟩ := nx_head n hs.1
    have h' := h
    rw [h0] at h'
    rw [stms_eq (block3 m), if_neg (isW_no (y := y0) (r := r0 ++ (shB (n + 1) b ++ mk "}" :: (y :: r))) h' h1)]
    have hh : ∃ z r', shB (n + 1) b ++ mk "}" :: (y :: r) = z :: r' ∧ Nx z := by
      cases b with
      | nil => exact ⟨_, _, rfl, .inr (by decide +kernel)⟩
      | cons x b =>
        obtain ⟨z, r', h3, h4, _⟩ := nx_head n (hb x (List.mem_cons_of_mem _ List.mem_cons_self)).1
        unfold shB
        rw [List.flatMap_cons, h3]
        exact ⟨_, _, rfl, h4⟩
    obtain ⟨z, r', hz, nz⟩ := hh
    rw [hz] at h
    obtain ⟨l1, h2, h3⟩ := rds_stmt (block3 m).u B hs.1 hs.2 l z r' h nz
    rw [h2]
    exact stms_sh B b l1 y r (fun x hx => hb x (List.mem_cons_of_mem _ hx)) (by rw [h3, hz])
theorem rdb : ∀ n m, n ≤ m → RdB (rBlock m) n
  | 0, m, _, b, _, hd => (no_dp hd).elim
  | n + 1, m, hm, b, g, hd => fun l y r h _ => by
    obtain ⟨m, rfl⟩ : ∃ m', m = m' + 1 := ⟨m - 1, by omega⟩
    have h : shOf l = mk "{" :: (shB (n + 1) b ++ mk "}" :: (y :: r)) := by rw [h]; simp [blkH]
    show ∃ l', andR (rExp "{" l) (rStms (rBlock m)) = _ ∧ _
    rw [exp_sh h]
    have e := dpB_eq b
    exact stms_sh (rdb n m (by omega)) b l.tail y r (fun s hs => ⟨gL_mem g hs, by have := dpIn_mem hs; omega⟩) (tail_sh h)
theorem rds_par (p : Str × Bool) : Rds rParam (shPar p) fun _ => True := fun l y r h _ => by
  unfold shPar at h
  unfold rParam
  by_cases e : p.2 = true
  · rw [if_pos e] at h
    have h : shOf l = mk "&" :: nme p.1 :: (y :: r) := h
    rw [if_pos (isW_yes h)]
    exact ⟨_, nam_sh (tail_sh h), tail_sh (tail_sh h)⟩
  · rw [if_neg e] at h
    have h : shOf l = nme p.1 :: (y :: r) := h
    rw [if_neg (isW_no h fun z => by cases z)]
    exact ⟨_, nam_sh h, tail_sh h⟩
theorem rds_fun {n : Nat} {f : Fn} (hn : n ≤ 30) (g : gL f.b) (hd : dpB f.b ≤ n) : Rds rFunction (nme f.name :: mk "(" :: (sepH (f.ps.map shPar) ++ mk ")" :: mk "{" :: (shB n f.b ++ [mk "}"]))) fun _ => True := fun l y r h _ => by
  have h : shOf l = nme f.name :: mk "(" :: (sepH (f.ps.map shPar) ++ mk ")" :: (blkH n f.b ++ y :: r)) := by rw [h]; simp [blkH]
  have h2 := tail_sh h
  have h3 := tail_sh h2
  unfold rFunction
  rw [nam_sh h]
  show ∃ l', andR (rExp "(" l.tail) _ = _ ∧ _
  rw [exp_sh h2]
  generalize l.tail.tail = l2 at *
  have key : ∃ l4, (if isW ")" l2 = true then .ok l2.tail else andR (rParam l2) fun l3 => andR (rMore rParam l3.length l3) (rExp ")")) = (.ok l4 : RdR) ∧ shOf l4 = blkH n f.b ++ y :: r := by
    cases hp : f.ps with
    | nil =>
      rw [hp] at h3
      have h3 : shOf l2 = mk ")" :: (blkH n f.b ++ y :: r) := h3
      rw [if_pos (isW_yes h3)]
      exact ⟨_, rfl, tail_sh h3⟩
    | cons a es =>
      rw [hp] at h3
      obtain ⟨y0, r0, h0, h1⟩ := shPar_head a
      have hh : ∃ r1, shOf l2 = y0 :: r1 := by
        rw [sepH_cons, h0] at h3
        exact ⟨_, h3⟩
      obtain ⟨r1, hh⟩ := hh
      rw [if_neg (isW_no hh h1)]
      obtain ⟨l3, h4, h5⟩ := rds_sep param3.u shPar (ok := fun _ => True) (a := a) (es := es) trivial (fun e _ => rds_par e) l2 (mk ")") _ h3 ⟨rap_comma, trivial⟩
      replace h4 : (andR (rParam l2) fun l1 => rMore rParam l1.length l1) = .ok l3 := h4
      have e : (andR (rParam l2) fun l2 => andR (rMore rParam l2.length l2) (rExp ")")) = andR (andR (rParam l2) fun l1 => rMore rParam l1.length l1) (rExp ")") := andR_assoc.symm
      rw [e, h4]
      exact ⟨_, exp_sh h5, tail_sh h5⟩
  obtain ⟨l4, h4, h5⟩ := key
  show ∃ l', andR (if isW ")" l2 = true then .ok l2.tail else andR (rParam l2) fun l3 => andR (rMore rParam l3.length l3) (rExp ")")) (rBlock 30) = _ ∧ _
  rw [h4]
  exact rdb n 30 hn f.b g hd l4 y r h5 trivial
theorem rds_opt {z : Str} {ns : List Str} : Rds (fun l => if isW z l = true then rRow l.tail else (.ok l : RdR)) (shRow z ns) fun y => y.1 ≠ "name" ∧ y ≠ mk z := fun l y r h o => by
  show ∃ l', (if isW z l = true then rRow l.tail else (.ok l : RdR)) = _ ∧ _
  unfold shRow at h
  by_cases e : ns.isEmpty = true
  · rw [if_pos e] at h
    have h : shOf l = y :: r := h
    rw [if_neg (isW_no h o.2)]
    exact ⟨l, rfl, h⟩
  · rw [if_neg e] at h
    have h : shOf l = mk z :: (ns.map nme ++ y :: r) := h
    rw [if_pos (isW_yes h)]
    exact rds_row (fun q => e (by rw [q]; rfl)) _ y r (tail_sh h) o.1
/-- a drawn tree's tokens are read -/
theorem prog_sh {n : Nat} {t : Tr} (g : GT n t) (hn : n ≤ 30) {l : Tl} (h : shOf l = shT n t ++ [endH]) : ∃ l', rProgram l = .ok l' := by
  have h : shOf l = shRow "globals" t.names ++ (shRow "kinds" t.kinds ++ (t.keeps.flatMap (fun e => mk "keep" :: shE e) ++ (t.fns.flatMap (shF n) ++ [endH]))) := by rw [h]; simp [shT]
  unfold rProgram
  obtain ⟨y1, r1, e1, c1⟩ := T1_head n t.kinds t.keeps t.fns
  rw [e1] at h
  obtain ⟨l1, h1, k1⟩ := rds_opt l y1 r1 h ⟨(kg.2 y1 c1).2.1, (kg.2 y1 c1).1⟩
  replace h1 : (if isW "globals" l = true then rRow l.tail else .ok l) = .ok l1 := h1
  rw [h1]
  show ∃ l', andR (if isW "kinds" l1 = true then rRow l1.tail else .ok l1) _ = _
  obtain ⟨y2, r2, e2, c2⟩ := T2_head n t.keeps t.fns
  rw [← e1, e2] at k1
  have c2' : y2 = mk "kinds" ∨ y2 = mk "keep" ∨ y2 = mk "def" ∨ y2 = endH := .inr c2
  obtain ⟨l2, h2, k2⟩ := rds_opt l1 y2 r2 k1 ⟨(kg.2 y2 c2').2.1, (kg.2 y2 c2').2.2 c2⟩
  replace h2 : (if isW "kinds" l1 = true then rRow l1.tail else .ok l1) = .ok l2 := h2
  rw [h2]
  show ∃ l', andR (rLoop (isW "keep") rExpr l2.length l2) _ = _
  obtain ⟨y3, r3, e3, c3⟩ := T3_head n t.fns
  rw [← e2, e3] at k2
  have sk : StopH (mk "keep") := ⟨by decide +kernel, by decide +kernel, by decide +kernel⟩
  have s3 : StopH y3 ∧ y3 ≠ mk "keep" := by
    rcases c3 with rfl | rfl
    · exact ⟨⟨by decide +kernel, by decide +kernel, by decide +kernel⟩, by decide +kernel⟩
    · exact ⟨⟨by decide +kernel, by decide +kernel, by decide +kernel⟩, by decide +kernel⟩
  obtain ⟨l3, h3, k3⟩ := loop_sh suf_expr shE sk t.keeps l2 y3 r3 (fun e he => rds_expr (g.kp.2 e he)) s3.2 s3.1 k2
  rw [h3]
  show ∃ l', andR (rLoop (isW "def") rFunction l3.length l3) _ = _
  rw [← e3] at k3
  obtain ⟨l4, h4, k4⟩ := loop_sh function3.u (fun f : Fn => nme f.name :: mk "(" :: (sepH (f.ps.map shPar) ++ mk ")" :: mk "{" :: (shB n f.b ++ [mk "}"]))) (ok := fun _ => True) trivial t.fns l3 endH [] (fun f hf => rds_fun hn (g.fn.2 f hf).2.2.1 (g.fn.2 f hf).2.2.2) (by decide +kernel) trivial k3
  rw [h4]
  exact ⟨l4, if_pos (kind_sh k4).1⟩

/-! ### k05: a text with another number at one place -/
/-- the same tokens, but for numbers; b: up to a number that is too great -/
inductive RelN (b : Bool) : Tl → Tl → Prop
  | nil (h : b = false) : RelN b [] []
  | cons {x y : TK} {l l' : Tl} (h1 : x.1 = y.1) (h2 : x.2.1 = y.2.1) (r : RelN b l l') : RelN b (x :: l) (y :: l')
  | num {x y : TK} {l l' : Tl} (h1 : x.1 = "number") (h2 : y.1 = "number") (h3 : x.2.1 ≠ "(") (h4 : y.2.1 ≠ "(") (h5 : y.2.1.length ≤ 12) (r : RelN b l l') : RelN b (x :: l) (y :: l')
  | long {x y : TK} {l l' : Tl} (h0 : b = true) (h1 : x.1 = "number") (h2 : y.1 = "number") (h3 : x.2.1 ≠ "(") (h4 : y.2.1 ≠ "(") (h5 : ¬ y.2.1.length ≤ 12) : RelN b (x :: l) (y :: l')
section
variable {b : Bool} {l l' : Tl}
theorem RelN.kind (h : RelN b l l') : kindH l = kindH l' := by
  cases h with
  | nil _ => rfl
  | cons h1 _ _ => exact h1
  | num h1 h2 _ _ _ _ => exact h1.trans h2.symm
  | long _ h1 h2 _ _ _ => exact h1.trans h2.symm
theorem num_mark : ¬ (("number" : Str) = "mark") := by decide +kernel
theorem num_name : ¬ (("number" : Str) = "name") := by decide +kernel
theorem isW_num {l : Tl} (h : kindH l = "number") (z : Str) : isW z l = false := by
  unfold isW
  rw [h, decide_eq_false num_mark]
  rfl
theorem RelN.w (h : RelN b l l') (z : Str) : isW z l = isW z l' := by
  cases h with
  | nil _ => rfl
  | @cons x y l l' h1 h2 _ =>
    show (decide (x.1 = "mark") && decide (x.2.1 = z)) = (decide (y.1 = "mark") && decide (y.2.1 = z))
    rw [h1, h2]
  | @num x y l l' h1 h2 _ _ _ _ => rw [isW_num (l := x :: l) h1, isW_num (l := y :: l') h2]
  | @long x y l l' _ h1 h2 _ _ _ => rw [isW_num (l := x :: l) h1, isW_num (l := y :: l') h2]
theorem RelN.n (h : RelN b l l') : isN l = isN l' := by
  unfold isN
  rw [h.kind]
theorem RelN.par (h : RelN b l l') : decide (textH l = "(") = decide (textH l' = "(") := by
  cases h with
  | nil _ => rfl
  | @cons x y l l' h1 h2 _ =>
    show decide (x.2.1 = "(") = decide (y.2.1 = "(")
    rw [h2]
  | @num x y l l' h1 h2 h3 h4 _ _ =>
    show decide (x.2.1 = "(") = decide (y.2.1 = "(")
    rw [decide_eq_false h3, decide_eq_false h4]
  | @long x y l l' _ h1 h2 h3 h4 _ =>
    show decide (x.2.1 = "(") = decide (y.2.1 = "(")
    rw [decide_eq_false h3, decide_eq_false h4]
theorem RelN.tail (h : RelN b l l') (n : kindH l ≠ "number") : RelN b l.tail l'.tail := by
  cases h with
  | nil e => exact .nil e
  | cons _ _ r => exact r
  | num h1 _ _ _ _ _ => exact absurd h1 n
  | long _ h1 _ _ _ _ => exact absurd h1 n
theorem RelN.numb (h : RelN b l l') (k : kindH l = "number") (n : (textH l).length ≤ 12) : ((textH l').length ≤ 12 ∧ RelN b l.tail l'.tail) ∨ (b = true ∧ ¬ (textH l').length ≤ 12) := by
  cases h with
  | nil e => exact absurd k (by decide +kernel)
  | @cons x y l l' _ h2 r =>
    have n : x.2.1.length ≤ 12 := n
    rw [h2] at n
    exact .inl ⟨n, r⟩
  | num _ _ _ _ h5 r => exact .inl ⟨h5, r⟩
  | long h0 _ _ _ _ h5 => exact .inr ⟨h0, h5⟩
theorem isW_kind {z : Str} (h : isW z l = true) : kindH l ≠ "number" := fun e => by
  rw [isW_num e] at h
  cases h
theorem isN_kind (h : isN l = true) : kindH l ≠ "number" := fun e => by
  have := of_decide_eq_true h
  rw [e] at this
  exact num_name this
end
/-- f goes the same way, or ends at the number that is too great -/
def TrN (b : Bool) (f : Tl → RdR) : Prop := ∀ l l' R, RelN b l l' → f l = .ok R → (∃ R', f l' = .ok R' ∧ RelN b R R') ∨ (b = true ∧ f l' = .error (.large "numbers"))
section
variable {b : Bool} {f g : Tl → RdR}
theorem TrN.ok : TrN b fun l => .ok l := fun l l' R r h => by
  cases h
  exact .inl ⟨l', rfl, r⟩
theorem TrN.syn : TrN b synE := fun _ _ _ _ h => nomatch h
theorem TrN.and (hf : TrN b f) (hg : TrN b g) : TrN b fun l => andR (f l) g := fun l l' R r h => by
  obtain ⟨M, h1, h2⟩ := and_ok h
  show (∃ R', andR (f l') g = .ok R' ∧ _) ∨ (_ ∧ andR (f l') g = _)
  rcases hf l l' M r h1 with ⟨M', e, r2⟩ | ⟨e0, e⟩
  · rw [e]
    exact hg M M' R r2 h2
  · rw [e]
    exact .inr ⟨e0, rfl⟩
theorem TrN.ite' {c : Tl → Bool} (hc : ∀ l l', RelN b l l' → c l = c l') (hf : ∀ l l' R, c l = true → RelN b l l' → f l = .ok R → (∃ R', f l' = .ok R' ∧ RelN b R R') ∨ (b = true ∧ f l' = .error (.large "numbers"))) (hg : TrN b g) : TrN b fun l => if c l = true then f l else g l := fun l l' R r h => by
  have h : (if c l = true then f l else g l) = .ok R := h
  show (∃ R', (if c l' = true then f l' else g l') = .ok R' ∧ _) ∨ (_ ∧ (if c l' = true then f l' else g l') = _)
  rw [← hc l l' r]
  by_cases e : c l = true
  · rw [if_pos e] at h ⊢
    exact hf l l' R e r h
  · rw [if_neg e] at h ⊢
    exact hg l l' R r h
theorem TrN.ite {w : Str} (hf : TrN b f) (hg : TrN b g) : TrN b fun l => if isW w l = true then f l else g l := TrN.ite' (c := isW w) (fun _ _ r => r.w w) (fun l l' R _ r h => hf l l' R r h) hg
theorem TrN.tl {w : Str} (hf : TrN b f) (hg : TrN b g) : TrN b fun l => if isW w l = true then f l.tail else g l := TrN.ite' (c := isW w) (f := fun l => f l.tail) (fun _ _ r => r.w w) (fun l l' R e r h => hf _ _ R (r.tail (isW_kind e)) h) hg
theorem TrN.opt {w : Str} (hf : TrN b f) : TrN b fun l => if isW w l = true then f l.tail else .ok l := TrN.tl hf TrN.ok
theorem tr_exp (w : Str) : TrN b (rExp w) := TrN.tl (f := fun l => .ok l) TrN.ok TrN.syn
theorem tr_name : TrN b rName := TrN.ite' (c := isN) (f := fun l => .ok l.tail) (fun _ _ r => r.n) (fun l l' R e r h => by
  cases h
  exact .inl ⟨_, rfl, r.tail (isN_kind e)⟩) TrN.syn
theorem tr_loop' {c : Tl → Bool} (hc : ∀ l l', RelN b l l' → c l = c l') (cn : c [] = false) (ck : ∀ l, c l = true → kindH l ≠ "number") (sf : Suf f) (hf : TrN b f) : ∀ (k : Nat) (l l' R : Tl), l.length ≤ k → RelN b l l' → rLoop c f l.length l = .ok R → (∃ R', rLoop c f l'.length l' = .ok R' ∧ RelN b R R') ∨ (b = true ∧ rLoop c f l'.length l' = .error (.large "numbers"))
  | k, l, l', R, hk, r, h => by
    rw [loop_eq sf cn] at h ⊢
    rw [← hc l l' r]
    by_cases e : c l = true
    · rw [if_pos e] at h ⊢
      obtain ⟨M, h1, h2⟩ := and_ok h
      have ne : l ≠ [] := fun z => by rw [z, cn] at e; cases e
      have lt : M.length < l.length := Nat.lt_of_le_of_lt (sf _ _ h1).length_le (tail_lt ne)
      rcases hf _ _ M (r.tail (ck l e)) h1 with ⟨M', e1, r2⟩ | ⟨e0, e1⟩
      · rw [e1]
        cases k with
        | zero => omega
        | succ k => exact tr_loop' hc cn ck sf hf k M M' R (by omega) r2 h2
      · rw [e1]
        exact .inr ⟨e0, rfl⟩
    · rw [if_neg e] at h ⊢
      cases h
      exact .inl ⟨_, rfl, r⟩
theorem isW_nil (w : Str) : isW w [] = false := by
  unfold isW
  rw [show kindH [] = "" from rfl, decide_eq_false (by decide +kernel)]
  rfl
theorem tr_loop {w : Str} (sf : Suf f) (hf : TrN b f) : TrN b fun l => rLoop (isW w) f l.length l := fun l l' R r h => tr_loop' (fun _ _ r => r.w w) (isW_nil w) (fun _ e => isW_kind e) sf hf l.length l l' R (Nat.le_refl _) r h
theorem tr_names : TrN b rNames := tr_name.and (tr_loop suf_name tr_name)
theorem tr_row : TrN b rRow := tr_name.and (g := fun l => rLoop isN (fun l => .ok l) l.length l) fun l l' R r h => tr_loop' (fun _ _ r => r.n) (by decide +kernel) (fun _ e => isN_kind e) Suf.ok TrN.ok l.length l l' R (Nat.le_refl _) r h
theorem tr_num {l l' R : Tl} (r : RelN b l l') (k : kindH l = "number") (h : rNum l = .ok R) : (∃ R', rNum l' = .ok R' ∧ RelN b R R') ∨ (b = true ∧ rNum l' = .error (.large "numbers")) := by
  unfold rNum at h ⊢
  by_cases n : (textH l).length ≤ 12
  · rw [if_pos n] at h
    rcases r.numb k n with ⟨n', r2⟩ | ⟨e0, n'⟩
    · rw [if_pos n']
      exact TrN.tl (w := "*") tr_name TrN.ok _ _ R r2 h
    · rw [if_neg n']
      exact .inr ⟨e0, rfl⟩
  · rw [if_neg n] at h
    cases h
theorem tr_term : TrN b rTerm := by
  have e : rTerm = fun l => if isN l = true then .ok l.tail else if decide (kindH l = "number") = true then rNum l else synE l := funext rTerm_eq
  rw [e]
  refine TrN.ite' (c := isN) (f := fun l => .ok l.tail) (fun _ _ r => r.n) (fun l l' R e r h => by
    cases h
    exact .inl ⟨_, rfl, r.tail (isN_kind e)⟩) ?_
  exact TrN.ite' (c := fun l => decide (kindH l = "number")) (f := rNum) (fun _ _ r => by rw [r.kind]) (fun l l' R e r h => tr_num r (of_decide_eq_true e) h) TrN.syn
theorem tr_sums' : ∀ (k : Nat) (l l' R : Tl), l.length ≤ k → RelN b l l' → rSums l = .ok R → (∃ R', rSums l' = .ok R' ∧ RelN b R R') ∨ (b = true ∧ rSums l' = .error (.large "numbers"))
  | k, l, l', R, hk, r, h => by
    rw [sums_eq] at h ⊢
    obtain ⟨M, h1, h2⟩ := and_ok h
    have le : M.length ≤ l.length := (suf_term _ _ h1).length_le
    rcases tr_term l l' M r h1 with ⟨M', e1, r2⟩ | ⟨e0, e1⟩
    · rw [e1]
      show (∃ R', sumT M' = .ok R' ∧ _) ∨ (_ ∧ sumT M' = _)
      unfold sumT at h2 ⊢
      rw [← r2.w "+", ← r2.w "-"]
      by_cases p : isW "+" M = true
      · rw [if_pos p] at h2 ⊢
        have lt := tail_lt (nonnil_W p)
        cases k with
        | zero => omega
        | succ k => exact tr_sums' k _ _ R (by omega) (r2.tail (isW_kind p)) h2
      · rw [if_neg p] at h2 ⊢
        by_cases q : isW "-" M = true
        · rw [if_pos q] at h2 ⊢
          have lt := tail_lt (nonnil_W q)
          cases k with
          | zero => omega
          | succ k => exact tr_sums' k _ _ R (by omega) (r2.tail (isW_kind q)) h2
        · rw [if_neg q] at h2 ⊢
          cases h2
          exact .inl ⟨_, rfl, r2⟩
    · rw [e1]
      exact .inr ⟨e0, rfl⟩
theorem tr_sums : TrN b rSums := fun l l' R r h => tr_sums' l.length l l' R (Nat.le_refl _) r h
theorem tr_expr : TrN b rExpr := by
  have e : rExpr = fun l => if isW "-" l = true then rSums l.tail else rSums l := funext fun l => by
    rw [expr_eq]
    split <;> rfl
  rw [e]
  exact TrN.tl tr_sums tr_sums
theorem tr_arg : TrN b rArg := TrN.tl tr_name tr_expr
theorem tr_list (sf : Suf f) (hf : TrN b f) : TrN b fun l => if isW ")" l = true then (.ok l.tail : RdR) else andR (f l) fun l2 => andR (rMore f l2.length l2) (rExp ")") :=
  TrN.tl (f := fun l => .ok l) TrN.ok (hf.and ((tr_loop sf hf).and (tr_exp _)))
theorem tr_args : TrN b rArgs := (tr_exp _).and (tr_list suf_arg tr_arg)
theorem tr_set : TrN b rSet := by
  have k : TrN b fun l => if (isN l && decide (textH l.tail = "(")) = true then andR (rName l) rArgs else rExpr l := by
    refine TrN.ite' (c := fun l => isN l && decide (textH l.tail = "(")) (f := fun l => andR (rName l) rArgs) (fun l l' r => ?_) (fun l l' R _ r h => (tr_name.and tr_args) l l' R r h) tr_expr
    show (isN l && decide (textH l.tail = "(")) = (isN l' && decide (textH l'.tail = "("))
    rw [← r.n]
    cases e : isN l with
    | false => rfl
    | true => rw [(r.tail (isN_kind e)).par]
  exact TrN.tl (f := fun l => .ok l) TrN.ok k
theorem tr_action : TrN b rAction := tr_name.and (TrN.ite tr_args ((tr_exp _).and tr_set))
variable {blk : Tl → RdR}
theorem tr_hand (h : TrN b blk) : TrN b (rHand blk) := tr_names.and h
theorem tr_try (s : Suf blk) (h : TrN b blk) : TrN b (rTry blk) := h.and (TrN.tl ((tr_hand h).and ((tr_loop (suf_names.and s) (tr_hand h)).and (TrN.opt h))) ((tr_exp _).and h))
theorem tr_with (h : TrN b blk) : TrN b (rWith blk) := tr_name.and (tr_args.and ((tr_exp _).and (tr_name.and (tr_args.and ((TrN.opt tr_names).and h)))))
theorem tr_stmt (s : Suf blk) (h : TrN b blk) : TrN b (rStmt blk) := by
  refine TrN.ite' (c := isN) (f := rAction) (fun _ _ r => r.n) (fun l l' R _ r h => tr_action l l' R r h) ?_
  exact TrN.tl (h.and (TrN.opt h)) (TrN.tl h (TrN.tl tr_names (TrN.tl tr_name (TrN.tl (tr_try s h) (TrN.tl (tr_names.and h) (TrN.tl (tr_with h) ((tr_exp _).and tr_expr)))))))
theorem tr_stms' (s3 : Rd3 blk) (h : TrN b blk) : ∀ (k : Nat) (l l' R : Tl), l.length ≤ k → RelN b l l' → rStms blk l = .ok R → (∃ R', rStms blk l' = .ok R' ∧ RelN b R R') ∨ (b = true ∧ rStms blk l' = .error (.large "numbers"))
  | k, l, l', R, hk, r, e => by
    rw [stms_eq s3] at e ⊢
    rw [← r.w "}"]
    by_cases p : isW "}" l = true
    · rw [if_pos p] at e ⊢
      cases e
      exact .inl ⟨_, rfl, r.tail (isW_kind p)⟩
    · rw [if_neg p] at e ⊢
      obtain ⟨M, h1, h2⟩ := and_ok e
      have lt := dec_stmt s3 _ _ h1
      rcases tr_stmt s3.u h l l' M r h1 with ⟨M', e1, r2⟩ | ⟨e0, e1⟩
      · rw [e1]
        cases k with
        | zero => omega
        | succ k => exact tr_stms' s3 h k M M' R (by omega) r2 h2
      · rw [e1]
        exact .inr ⟨e0, rfl⟩
theorem tr_block : ∀ m, TrN b (rBlock m)
  | 0 => TrN.ite (f := fun _ => .error (.large "nesting")) (g := synE) (fun _ _ _ _ h => nomatch h) TrN.syn
  | m + 1 => (tr_exp "{").and (g := rStms (rBlock m)) fun l l' R r h => tr_stms' (block3 m) (tr_block m) l.length l l' R (Nat.le_refl _) r h
theorem tr_param : TrN b rParam := by
  have e : rParam = fun l => if isW "&" l = true then rName l.tail else rName l := funext fun l => by
    unfold rParam
    split <;> rfl
  rw [e]
  exact TrN.tl tr_name tr_name
theorem tr_function : TrN b rFunction := tr_name.and ((tr_exp _).and (TrN.and (f := fun l2 => if isW ")" l2 = true then (.ok l2.tail : RdR) else andR (rParam l2) fun l3 => andR (rMore rParam l3.length l3) (rExp ")")) (tr_list param3.u tr_param) (tr_block 30)))
theorem tr_prog : TrN b rProgram := by
  have e4 : TrN b fun l4 => if kindH l4 = "end" then (.ok l4 : RdR) else synE l4 := fun l l' R r h => by
    have h : (if kindH l = "end" then (.ok l : RdR) else synE l) = .ok R := h
    show (∃ R', (if kindH l' = "end" then (.ok l' : RdR) else synE l') = .ok R' ∧ _) ∨ _
    rw [← r.kind]
    by_cases e : kindH l = "end"
    · rw [if_pos e] at h ⊢
      cases h
      exact .inl ⟨_, rfl, r⟩
    · rw [if_neg e] at h
      cases h
  exact (TrN.opt (w := "globals") tr_row).and ((TrN.opt (w := "kinds") tr_row).and ((tr_loop (w := "keep") suf_expr tr_expr).and ((tr_loop (w := "def") function3.u tr_function).and e4)))
end
theorem prog_end {l R : Tl} (e : rProgram l = .ok R) : kindH R = "end" := by
  obtain ⟨M, _, h2⟩ := and_ok e
  obtain ⟨M2, _, h3⟩ := and_ok h2
  obtain ⟨M3, _, h4⟩ := and_ok h3
  obtain ⟨M4, _, h5⟩ := and_ok h4
  split at h5
  · rename_i z
    cases h5
    exact z
  · cases h5
theorem RelN.app {b : Bool} (P : Tl) {l l' : Tl} (r : RelN b l l') : RelN b (P ++ l) (P ++ l') := by
  induction P with
  | nil => exact r
  | cons x P ih => exact .cons rfl rfl ih
/-- a number that is too great is found -/
theorem prog_long {l l' R : Tl} (he : EndT l) (r : RelN true l l') (h : rProgram l = .ok R) : rProgram l' = .error (.large "numbers") := by
  rcases tr_prog l l' R r h with ⟨R', h2, r2⟩ | ⟨_, h2⟩
  · exfalso
    have ke := prog_end h
    have sf : R <:+ l := by
      obtain ⟨M, h1, h2⟩ := and_ok h
      obtain ⟨M2, h3, h4⟩ := and_ok h2
      obtain ⟨M3, h5, h6⟩ := and_ok h4
      obtain ⟨M4, h7, h8⟩ := and_ok h6
      have s1 : M <:+ l := Suf.tl (c := isW "globals") suf_row Suf.ok l M h1
      have s2 : M2 <:+ M := Suf.tl (c := isW "kinds") suf_row Suf.ok M M2 h3
      have s3 : M3 <:+ M2 := suf_loop suf_expr _ _ _ h5
      have s4 : M4 <:+ M3 := suf_loop function3.u _ _ _ h7
      split at h8
      · cases h8
        exact s4.trans (s3.trans (s2.trans s1))
      · cases h8
    obtain ⟨P, k, rfl, hP, hk⟩ := he
    have one : R = [k] := by
      rcases List.suffix_concat_iff.mp sf with rfl | ⟨t, rfl, s⟩
      · exact absurd ke (by decide +kernel)
      · cases t with
        | nil => rfl
        | cons x t => exact absurd ke (hP x (s.subset List.mem_cons_self)).1
    rw [one] at r2
    cases r2 with
    | cons _ _ r => cases r with | nil e => cases e
    | num _ _ _ _ _ r => cases r with | nil e => cases e
    | long _ h1 _ _ _ _ =>
      rw [one] at ke
      have ke : k.1 = "end" := ke
      rw [h1] at ke
      exact absurd ke (by decide +kernel)
  · exact h2

/-! ### k05: the names and numbers in a drawn tree's tokens -/
/-- names are among W, numbers are small -/
def NmT (W : List Str) (y : Str × Str) : Prop := (y.1 = "name" → y.2 ∈ W) ∧ (y.1 = "number" → ∃ n : Nat, n < 10 ∧ y.2 = numS n)
def NmS (W : List Str) (s : SH) : Prop := ∀ y ∈ s, NmT W y
section
variable {W : List Str}
theorem NmS.nil : NmS W [] := fun _ h => nomatch h
theorem NmS.cons {y : Str × Str} {s : SH} (h : NmT W y) (k : NmS W s) : NmS W (y :: s) := fun z hz => by
  rcases List.mem_cons.mp hz with rfl | q
  · exact h
  · exact k z q
theorem NmS.app {s r : SH} (h : NmS W s) (k : NmS W r) : NmS W (s ++ r) := fun z hz => by
  rcases List.mem_append.mp hz with q | q
  · exact h z q
  · exact k z q
theorem NmS.one {y : Str × Str} (h : NmT W y) : NmS W [y] := NmS.cons h .nil
theorem nm_mk (z : Str) : NmT W (mk z) := ⟨fun h => absurd h (by show ¬ (("mark" : Str) = "name"); decide +kernel), fun h => absurd h (by show ¬ (("mark" : Str) = "number"); decide +kernel)⟩
theorem nm_nme {x : Str} (h : x ∈ W) : NmT W (nme x) := ⟨fun _ => h, fun h => absurd h (by show ¬ (("name" : Str) = "number"); decide +kernel)⟩
theorem nm_num {n : Nat} (h : n < 10) : NmT W ("number", numS n) := ⟨fun h => absurd h (by show ¬ (("number" : Str) = "name"); decide +kernel), fun _ => ⟨n, h, rfl⟩⟩
theorem NmS.flat {α : Type} {f : α → SH} {l : List α} (h : ∀ x ∈ l, NmS W (f x)) : NmS W (l.flatMap f) := fun z hz => by
  obtain ⟨x, hx, q⟩ := List.mem_flatMap.mp hz
  exact h x hx z q
theorem NmS.sep : ∀ {l : List SH}, (∀ s ∈ l, NmS W s) → NmS W (sepH l)
  | [], _ => .nil
  | [x], h => h x List.mem_cons_self
  | x :: y :: r, h => (h x List.mem_cons_self).app ((NmS.one (nm_mk ",")).app (NmS.sep (l := y :: r) fun s hs => h s (List.mem_cons_of_mem _ hs)))
theorem nm_pt {p : Option Str × Nat} (h : p.2 < 10) (k : ∀ x, p.1 = some x → x ∈ W) : NmS W (shPt p) := by
  obtain ⟨o, n⟩ := p
  cases o with
  | none => exact .one (nm_num h)
  | some x =>
    have hx := nm_nme (k x rfl)
    unfold shPt
    by_cases q : n = 1
    · simp only [if_pos q]; exact .one hx
    · simp only [if_neg q]; exact .cons (nm_num h) (.cons (nm_mk _) (.one hx))
theorem nm_sg (b : Bool) : NmT W (sgM b) := nm_mk _
theorem nm_ex {own : List Str} {e : Ex} (h : EX own e) (ho : ∀ x ∈ own, x ∈ W) : NmS W (shE e) := by
  have hp : ∀ p ∈ ptsE e, p.2.2 < 10 ∧ ∀ x, p.2.1 = some x → x ∈ W := by
    intro p hp
    unfold ptsE at hp
    rcases List.mem_append.mp hp with z | z
    · obtain ⟨q, hq, rfl⟩ := List.mem_map.mp z
      have := h.nm q hq
      refine ⟨?_, fun x e => ?_⟩
      · show q.2.natAbs < 10
        omega
      · have e : some q.1 = some x := e
        cases e
        exact ho _ this.1
    · split at z
      · rw [List.mem_singleton.mp z]
        have := h.c
        refine ⟨?_, fun x e => by cases e⟩
        show e.c.natAbs < 10
        omega
      · cases z
  unfold shE
  cases q : ptsE e with
  | nil => exact .nil
  | cons p r =>
    rw [q] at hp
    have h0 := hp p List.mem_cons_self
    refine NmS.app ?_ ((nm_pt h0.1 h0.2).app (.flat fun x hx => ?_))
    · split
      · exact .one (nm_mk _)
      · exact .nil
    · have h1 := hp x (List.mem_cons_of_mem _ hx)
      exact .cons (nm_sg _) (nm_pt h1.1 h1.2)
theorem nm_ns {ns : List Str} (h : ∀ x ∈ ns, x ∈ W) : NmS W (shNs ns) := .sep fun s hs => by
  obtain ⟨x, hx, rfl⟩ := List.mem_map.mp hs
  exact .one (nm_nme (h x hx))
section
variable {own kinds : List Str} {heads : List Head}
theorem nm_arg {a : Arg} (h : WA own a) (ho : ∀ x ∈ own, x ∈ W) : NmS W (shA a) := by
  cases a with
  | place n => exact .cons (nm_mk _) (.one (nm_nme (ho _ h)))
  | value e => exact nm_ex h ho
theorem nm_cal {c : Cal} (h : WC own heads c) (ho : ∀ x ∈ own, x ∈ W) (hh : ∀ h ∈ heads, h.1 ∈ W) : NmS W (shC c) := by
  obtain ⟨hd, hm, e1, _⟩ := h.hd
  refine .cons (nm_nme (e1 ▸ hh hd hm)) (.cons (nm_mk _) (NmS.app (.sep fun s hs => ?_) (.one (nm_mk _))))
  obtain ⟨a, ha, rfl⟩ := List.mem_map.mp hs
  exact nm_arg (h.as a ha) ho
theorem wL_mem {last : Bool} {s : St} : ∀ {b : List St}, wL own kinds heads last b → s ∈ b → wS own kinds heads last s
  | [], _, h => nomatch h
  | x :: r, h, hm => by
    rcases List.mem_cons.mp hm with rfl | z
    · exact h.1
    · exact wL_mem h.2 z
theorem wHs_mem {hd : Hd} : ∀ {hs : List Hd}, wHs own kinds heads hs → hd ∈ hs → (∀ k ∈ hd.ks, k ∈ kinds) ∧ wL own kinds heads false hd.b
  | [], _, h => nomatch h
  | x :: r, h, hm => by
    rcases List.mem_cons.mp hm with rfl | z
    · obtain ⟨ks, b⟩ := hd
      have h1 : (ks ≠ [] ∧ ks.length ≤ 2 ∧ ∀ k ∈ ks, k ∈ kinds) ∧ wL own kinds heads false b := h.1
      exact ⟨h1.1.2.2, h1.2⟩
    · exact wHs_mem h.2 z
theorem nm_S (ho : ∀ x ∈ own, x ∈ W) (hk : ∀ x ∈ kinds, x ∈ W) (hh : ∀ h ∈ heads, h.1 ∈ W) : ∀ (n : Nat) (last : Bool) (s : St), wS own kinds heads last s → NmS W (shS n s)
  | 0, _, _, _ => .nil
  | n + 1, last, s, h => by
    have B : ∀ (l : Bool) (b : List St), wL own kinds heads l b → NmS W (blkH n b) := fun l b hb => .cons (nm_mk _) (NmS.app (.flat fun s hs => nm_S ho hk hh n l s (wL_mem hb hs)) (.one (nm_mk _)))
    cases s with
    | set t e =>
      have h : t ∈ own ∧ EX own e := h
      rw [sh_sim n rfl]
      exact .cons (nm_nme (ho _ h.1)) (.cons (nm_mk _) (nm_ex h.2 ho))
    | input t =>
      have h : t ∈ own := h
      rw [sh_sim n rfl]
      exact .cons (nm_nme (ho _ h)) (.cons (nm_mk _) (.one (nm_mk _)))
    | call t f as =>
      have h : (∀ x, t = some x → x ∈ own) ∧ WC own heads (f, as) := h
      rw [sh_sim n rfl]
      cases t with
      | none => exact nm_cal h.2 ho hh
      | some t => exact .cons (nm_nme (ho _ (h.1 t rfl))) (.cons (nm_mk _) (nm_cal h.2 ho hh))
    | risk ks =>
      have h : ks ≠ [] ∧ ks.length ≤ 2 ∧ ∀ k ∈ ks, k ∈ kinds := h
      rw [sh_sim n rfl]
      exact .cons (nm_mk _) (nm_ns fun x hx => hk _ (h.2.2 x hx))
    | raise k =>
      have h : k ∈ kinds := h
      rw [sh_sim n rfl]
      exact .cons (nm_mk _) (.one (nm_nme (hk _ h)))
    | ret e =>
      have h : last = false ∧ EX own e := h
      rw [sh_sim n rfl]
      exact .cons (nm_mk _) (nm_ex h.2 ho)
    | ite a b =>
      have h : wL own kinds heads last a ∧ wL own kinds heads last b := h
      rw [sh_ite]
      refine .cons (nm_mk _) ((B _ a h.1).app ?_)
      split
      · exact .nil
      · exact .cons (nm_mk _) (B _ b h.2)
    | whl b =>
      have h : last = false ∧ wL own kinds heads false b := h
      rw [sh_whl]
      exact .cons (nm_mk _) (B _ b h.2)
    | try_ b hs f =>
      have h : last = false ∧ hs.length ≤ 2 ∧ wL own kinds heads false b ∧ wHs own kinds heads hs ∧ wL own kinds heads true f := h
      rw [sh_try]
      refine .cons (nm_mk _) ((B _ b h.2.2.1).app (NmS.app (.flat fun x hx => ?_) ?_))
      · have hx := wHs_mem h.2.2.2.1 hx
        exact .cons (nm_mk _) ((nm_ns fun k z => hk _ (hx.1 k z)).app (B _ _ hx.2))
      · unfold shFin
        split
        · exact .nil
        · exact .cons (nm_mk _) (B _ f h.2.2.2.2)
    | undo ns b =>
      have h : last = false ∧ (ns ≠ [] ∧ ns.length ≤ 3 ∧ ∀ n ∈ ns, n ∈ own) ∧ wL own kinds heads false b := h
      rw [sh_undo]
      exact .cons (nm_mk _) ((nm_ns fun x hx => ho _ (h.2.1.2.2 x hx)).app (B _ b h.2.2))
    | with_ e l ks b =>
      have h : last = false ∧ WC own heads e ∧ WC own heads l ∧ (ks.length ≤ 2 ∧ ∀ k ∈ ks, k ∈ kinds) ∧ wL own kinds heads false b := h
      rw [sh_with]
      refine .cons (nm_mk _) ((nm_cal h.2.1 ho hh).app (.cons (nm_mk _) ((nm_cal h.2.2.1 ho hh).app (NmS.app ?_ (B _ b h.2.2.2.2)))))
      unfold shSwa
      split
      · exact .nil
      · exact .cons (nm_mk _) (nm_ns fun x hx => hk _ (h.2.2.2.1.2 x hx))
end
theorem nm_row {z : Str} {ns : List Str} (h : ∀ x ∈ ns, x ∈ W) : NmS W (shRow z ns) := by
  unfold shRow
  split
  · exact .nil
  · refine .cons (nm_mk _) fun y hy => ?_
    obtain ⟨x, hx, rfl⟩ := List.mem_map.mp hy
    exact nm_nme (h x hx)
end
theorem drawn_nm {t : Tr} (D : DrawnT t) : ∃ W : List Str, W.length = 16 ∧ NmS W (shT 6 t) := by
  obtain ⟨ws, nok, lws, nN, nK, hN, hK1, hK2, en, ek, kp, lkp, lf1, lf2, efn, sz, w8, w9, w10, h8, h9, h10, hf⟩ := D.ex
  have m8 := List.mem_of_getElem? h8
  have m9 := List.mem_of_getElem? h9
  have m10 := List.mem_of_getElem? h10
  have gn : ∀ x ∈ t.names, x ∈ ws := fun x hx => by rw [en] at hx; exact List.mem_of_mem_take hx
  have gk : ∀ x ∈ t.kinds, x ∈ ws := fun x hx => by rw [ek] at hx; exact List.mem_of_mem_drop (List.mem_of_mem_take hx)
  have gfn : ∀ f ∈ t.fns, f.name ∈ ws := fun f hm => by
    have : f.name ∈ t.fns.map Fn.name := List.mem_map_of_mem hm
    rw [efn] at this
    exact List.mem_of_mem_drop (List.mem_of_mem_take this)
  have gps : ∀ f ∈ t.fns, ∀ p ∈ f.ps, p.1 ∈ ws := fun f hm => by
    obtain ⟨⟨b1, b2, k, e⟩, _⟩ := hf f hm
    rw [e]
    intro p hp
    have := List.mem_of_mem_take hp
    simp only [List.mem_cons, List.not_mem_nil, or_false] at this
    rcases this with rfl | rfl
    · exact m8
    · exact m9
  refine ⟨ws, lws, (nm_row gn).app ((nm_row gk).app (NmS.app (.flat fun e he => .cons (nm_mk _) (nm_ex (kp e he).2 gn)) (.flat fun f hm => ?_)))⟩
  obtain ⟨_, e, blk, eb, lb, db, he, hw⟩ := hf f hm
  have ho1 : ∀ x ∈ t.names ++ prs f, x ∈ ws := fun x hx => by
    rcases List.mem_append.mp hx with z | z
    · exact gn x z
    · obtain ⟨p, hp, rfl⟩ := List.mem_map.mp z
      exact gps f hm p hp
  have ho : ∀ x ∈ t.names ++ (prs f ++ [w10]), x ∈ ws := fun x hx => by
    rw [← List.append_assoc] at hx
    rcases List.mem_append.mp hx with z | z
    · exact ho1 x z
    · rw [List.mem_singleton.mp z]
      exact m10
  have hh : ∀ h ∈ t.fns.map (fun f => (f.name, f.ps)), (h : Head).1 ∈ ws := fun h hh => by
    obtain ⟨g, hg, rfl⟩ := List.mem_map.mp hh
    exact gfn g hg
  refine .cons (nm_mk _) (.cons (nm_nme (gfn f hm)) (.cons (nm_mk _) (NmS.app (.sep fun s hs => ?_) (.cons (nm_mk _) (.cons (nm_mk _) (NmS.app ?_ (.one (nm_mk _))))))))
  · obtain ⟨p, hp, rfl⟩ := List.mem_map.mp hs
    have := nm_nme (gps f hm p hp)
    unfold shPar
    split
    · exact .cons (nm_mk _) (.one this)
    · exact .one this
  · rw [eb]
    unfold shB
    rw [List.flatMap_cons]
    refine NmS.app ?_ (.flat fun s hs => nm_S ho gk hh 6 false s (wL_mem hw hs))
    rw [sh_sim 5 rfl]
    exact .cons (nm_nme m10) (.cons (nm_mk _) (nm_ex he ho1))

/-! ### for sign in '..': text = text.replace(' ' + sign, sign).replace(sign + ' ', sign): the texts' tokens are told -/
section
variable {X : Cx}
/-- the slot's own value -/
def SlotIs (X : Cx) (s : Shared) (x : Str) (u : Value) : Prop := ∃ m, s.heap.Ns X.env.locals m ∧ m x = some u
theorem store_is {M : Model} {A : Around} {E : Value → Shared → Prop} {pins : List (Addr × Obj)} {σ : L2.St} {H : Hp} {s : Shared} {i : Nat} {x : Str} {v : V} {u : Value} {Q : Unit → Shared → Prop} (I : Inv X pins σ H s) (hN : X.N.Nodup) (hi : X.N[i]? = some x) (hk : X.env.kindOf x = some .local) (r : RelV v u)
    (h : ∀ s', Inv X pins (σ.set i (some v)) H s' → SlotIs X s' x u → Heap.SameBut X.env.locals s.heap s'.heap → s'.toks = s.toks + 1 → Q () s') : wpAny M A (storeName X.env x u) Q E s := by
  obtain ⟨m, hn, hl⟩ := id I.loc
  have hiσ : i < σ.length := by
    rw [I.len]
    exact (List.getElem?_eq_some_iff.mp hi).1
  have cne := I.cne
  obtain ⟨oL, _, _, hoL, _⟩ := id hn
  have low : ∀ {b : Addr} {o : Obj}, X.s_0.heap.get? b = some o → b ≠ X.env.locals := fun e => Nat.ne_of_lt (Nat.lt_of_lt_of_le (Heap.lt_size e) I.ok.above)
  refine wpAny_storeName_local hk hn (fun h' hn' hs => h _ ?_ ⟨_, hn', by simp⟩ hs rfl) (by rw [I.ok.kind]; rfl)
  exact {
    ok := I.ok
    os := I.os
    bare := I.bare
    base := {
      keep := fun b o e n hb hx => (hs.2 b (low e)).trans (I.base.keep b o e n hb hx)
      slot := fun b o e n hb hx => let ⟨sl, q⟩ := I.base.slot b o e n hb hx; ⟨sl, (hs.2 b (low e)).trans q⟩
      free := I.base.free
      there := fun b o e hx => let ⟨o', q⟩ := I.base.there b o e hx; ⟨o', (hs.2 b (low e)).trans q⟩
      tups := I.base.tups
      frzs := I.base.frzs
      tbls := I.base.tbls }
    loc := by
      refine ⟨_, hn', fun j y v' e1 e2 e3 => ?_⟩
      by_cases hj : j = i
      · subst hj
        rw [hi] at e1
        cases e1
        rw [List.getElem?_set_self hiσ] at e2
        cases e2
        exact ⟨u, r, .inl ⟨hk, if_pos rfl⟩⟩
      · rw [List.getElem?_set_ne (Ne.symm hj)] at e2
        obtain ⟨u', r', q⟩ := hl j y v' e1 e2 e3
        have yx : y ≠ x := fun e => hj (nodup_ix hN e1 (e ▸ hi))
        refine ⟨u', r', ?_⟩
        rcases q with ⟨k, e⟩ | ⟨k, c, e, z⟩
        · exact .inl ⟨k, (if_neg yx).trans e⟩
        · exact .inr ⟨k, c, e, z.sameBut hs (cne y c e)⟩
    cell := fun y c e => let ⟨w', z⟩ := I.cell y c e; ⟨w', z.sameBut hs (cne y c e)⟩
    free := I.free
    freeC := I.freeC
    pin := fun p hp => let ⟨e, n, ne, nf, d⟩ := I.pin p hp; ⟨(hs.2 p.1 ne).trans e, n, ne, nf, d⟩
    hok := fun b ob e => by
      have nl : ∀ {c : Addr} {w' : HO}, H c = some w' → c ≠ X.env.locals := fun q z => by rw [z, I.free] at q; cases q
      refine (I.hok b ob e).stay (fun c w' hc q => (hs.2 c ?_).trans q) (fun _ q => q) fun _ _ q => q
      rcases hc with z | z
      · rw [z]; exact nl e
      · exact nl z
    len := by rw [List.length_set]; exact I.len }
def rp (c z : Str) : Str := Txt.replace (Txt.replace z (" " ++ c) c) (c ++ " ") c
theorem sp_ne {c : Nat} : ((" " ++ (⟨#[c]⟩ : Str) : Str) == (⟨#[c]⟩ : Str)) = false ∧ (((⟨#[c]⟩ : Str) ++ " " : Str) == (⟨#[c]⟩ : Str)) = false := by
  have l1 : ∀ a b : Str, a.cps.size ≠ b.cps.size → (a == b) = false := fun a b h => beq_eq_false_iff_ne.mpr fun e => h (by rw [e])
  exact ⟨l1 _ _ (by show (#[32] ++ #[c] : Array Nat).size ≠ 1; simp), l1 _ _ (by show (#[c] ++ #[32] : Array Nat).size ≠ 1; simp)⟩
/-- one turn's text -/
theorem tight_body {sg tg : Str} {p4 p5 p6 p7 p8 p9 p10 p11 p12 p13 p14 p15 p16 : Pos} {k2 k3 : Nat} {pins : List (Addr × Obj)} {σ : L2.St} {H : Hp} {s : Shared} {c : Nat} {t : Tok} {z : Str} {Q : Value → Shared → Prop} {E : Value → Shared → Prop} (I : Inv X pins σ H s)
    (hks : X.env.kindOf sg = some .local) (hkt : X.env.kindOf tg = some .local) (hd1 : (sg == ("__debug__" : Str)) = false) (hd2 : (tg == ("__debug__" : Str)) = false) (sl : SlotIs X s sg (.str ⟨#[c]⟩ t)) (ht0 : t ≠ 0) (ht1 : t < s.toks) (tz : ∃ tk, SlotIs X s tg (.str z tk)) (hz : z.length ≤ 100000)
    (b1 : attributeBase (.Call (.Attribute (.Name tg p4) "replace" p5) [.BinOp (.Constant (.str " ") k2 p6) .Add (.Name sg p7) p8, .Name sg p9] [] p10) "replace" X.env (eval (.Call (.Attribute (.Name tg p4) "replace" p5) [.BinOp (.Constant (.str " ") k2 p6) .Add (.Name sg p7) p8, .Name sg p9] [] p10) X.env) = eval (.Call (.Attribute (.Name tg p4) "replace" p5) [.BinOp (.Constant (.str " ") k2 p6) .Add (.Name sg p7) p8, .Name sg p9] [] p10) X.env)
    (b2 : attributeBase (.Name tg p4) "replace" X.env (eval (.Name tg p4) X.env) = eval (.Name tg p4) X.env) (l1 : (p11.endLine == p16.line) = true) (l2 : (p5.endLine == p10.line) = true)
    (h : ∀ tk n, Q (.str (rp ⟨#[c]⟩ z) tk) { s with toks := n }) :
    wpAny (model X.prog X.w) X.A (eval (.Call (.Attribute (.Call (.Attribute (.Name tg p4) "replace" p5) [.BinOp (.Constant (.str " ") k2 p6) .Add (.Name sg p7) p8, .Name sg p9] [] p10) "replace" p11) [.BinOp (.Name sg p12) .Add (.Constant (.str " ") k3 p13) p14, .Name sg p15] [] p16) X.env) Q E s := by
  obtain ⟨m, hn, hv⟩ := sl
  obtain ⟨tk, m2, hn2, hv2⟩ := tz
  have one : (⟨#[c]⟩ : Str).length = 1 := rfl
  have sp1 : (" " : Str).length = 1 := by decide +kernel
  have zl : ∀ {y : Str}, y.length ≤ 300000 → y.length + (y.length + 1) * (⟨#[c]⟩ : Str).length ≤ 16777216 := fun h => by rw [one]; omega
  have rl := TK.replace_len z (" " ++ (⟨#[c]⟩ : Str)) ⟨#[c]⟩
  rw [one] at rl
  refine Call_method2 b1 rfl l1 ?_
  refine Call_method2 b2 rfl l2 (wpAny_Name (wpAny_loadName_local I.ok.kind hkt hn2 hv2 ?_) hd2)
  refine ⟨"str", _, PySem.F.plainAttrs_str, PySem.F.slot_str_replace, PySem.F.type_str_replace, typeIs_str _ _ _, (fun _ e => nomatch e), Calls.callWith_builtin rfl (Calls.evalArgs_plain (Calls.spliced_cons ?_))⟩
  refine wpAny_BinOp (Calls.Constant_str (wpAny_Name (wpAny_loadName_local I.ok.kind hks hn hv ?_) hd1))
  refine PySem.P.add_str ?_
  rw [if_neg (by rw [sp1]; decide), if_neg (by rw [one]; decide)]
  refine ⟨by rw [str_app_len, sp1, one]; decide, ?_⟩
  refine Calls.spliced_cons (wpAny_Name (wpAny_loadName_local I.ok.kind hks hn hv (Calls.spliced_nil ?_)) hd1)
  refine wpAny_with_toks (n := s.toks) (by show s.toks ≤ s.toks + 1 + 1; omega) (PySem.SC.replace ?_ ht0 ?_ sp_ne.1 (zl (by omega)) fun t1 n1 hn1 => ?_)
  · show s.toks + 1 ≠ 0
    omega
  · exact Nat.ne_of_gt (Nat.lt_succ_of_lt ht1)
  have hn1 : s.toks ≤ n1 := hn1
  refine ⟨"str", _, PySem.F.plainAttrs_str, PySem.F.slot_str_replace, PySem.F.type_str_replace, typeIs_str _ _ _, (fun _ e => nomatch e), Calls.callWith_builtin rfl (Calls.evalArgs_plain (Calls.spliced_cons ?_))⟩
  refine wpAny_BinOp (wpAny_Name (wpAny_loadName_local (s := { s with toks := n1 }) I.ok.kind hks hn hv (Calls.Constant_str ?_)) hd1)
  refine PySem.P.add_str ?_
  rw [if_neg (by rw [one]; decide), if_neg (by rw [sp1]; decide)]
  refine ⟨by rw [str_app_len, sp1, one]; decide, ?_⟩
  refine Calls.spliced_cons (wpAny_Name (wpAny_loadName_local (s := { s with toks := n1 + 1 + 1 }) I.ok.kind hks hn hv (Calls.spliced_nil ?_)) hd1)
  refine PySem.SC.replace ?_ ht0 ?_ sp_ne.2 (zl (by omega)) fun t2 n2 => h t2 n2
  · show n1 + 1 ≠ 0
    omega
  · exact Nat.ne_of_gt (Nat.lt_succ_of_lt (Nat.lt_of_lt_of_le ht1 hn1))
def par (k : Nat) : Str := if k = 0 then "(" else ")"
def stT (i j : Nat) (σ : L2.St) (z : Str) : Nat → L2.St × Str
  | 0 => (σ, z)
  | k + 1 => (((stT i j σ z k).1.set i (some (.str (par k)))).set j (some (.str (rp (par k) (stT i j σ z k).2))), rp (par k) (stT i j σ z k).2)
def tTight (i j : Nat) : TS := fun D σ H => ∃ z, σ[j]? = some (some (.str z)) ∧ z.length ≤ 20000 ∧ D.nx (stT i j σ z 2).1 H
theorem rp_len (c : Nat) (z : Str) : (rp ⟨#[c]⟩ z).length ≤ 4 * z.length + 3 := by
  have h1 := TK.replace_len z (" " ++ (⟨#[c]⟩ : Str)) ⟨#[c]⟩
  have h2 := TK.replace_len (Txt.replace z (" " ++ (⟨#[c]⟩ : Str)) ⟨#[c]⟩) ((⟨#[c]⟩ : Str) ++ " ") ⟨#[c]⟩
  have one : (⟨#[c]⟩ : Str).length = 1 := rfl
  rw [one] at h1 h2
  unfold rp
  omega
theorem par_sign (k : Nat) (hk : k < 2) : ∃ c, par k = ⟨#[c]⟩ ∧ ("()" : Str).cps[k]? = some c := by
  rcases (show k = 0 ∨ k = 1 by omega) with rfl | rfl
  · exact ⟨40, by decide +kernel, by decide +kernel⟩
  · exact ⟨41, by decide +kernel, by decide +kernel⟩
theorem slot_at {pins : List (Addr × Obj)} {σ : L2.St} {H : Hp} {s : Shared} {j : Nat} {x z : Str} (I : Inv X pins σ H s) (hj : X.N[j]? = some x) (hk : X.env.kindOf x = some .local) (hv : Vis X.env.scope x) (e : σ[j]? = some (some (.str z))) : ∃ tk, SlotIs X s x (.str z tk) := by
  obtain ⟨m, hn, hl⟩ := I.loc
  obtain ⟨u, r, q⟩ := hl j x _ hj e hv
  obtain ⟨tk, rfl⟩ := r
  rcases q with ⟨_, e⟩ | ⟨k | k, _⟩
  · exact ⟨tk, m, hn, e⟩
  · rw [hk] at k; cases k
  · rw [hk] at k; cases k
theorem ps_tight {i j : Nat} {sg tg : Str} {p1 p2 p3 p4 p5 p6 p7 p8 p9 p10 p11 p12 p13 p14 p15 p16 p17 p18 : Pos} {k1 k2 k3 : Nat} (hN : X.N.Nodup) (hi : X.N[i]? = some sg) (hj : X.N[j]? = some tg) (hij : i ≠ j) (hks : X.env.kindOf sg = some .local) (hkt : X.env.kindOf tg = some .local) (hvt : Vis X.env.scope tg) (hc : X.calm = true) (hp : PassesOwn (model X.prog X.w) X.A X.env X.xe)
    (hd1 : (sg == ("__debug__" : Str)) = false := by decide) (hd2 : (tg == ("__debug__" : Str)) = false := by decide)
    (b1 : attributeBase (.Call (.Attribute (.Name tg p4) "replace" p5) [.BinOp (.Constant (.str " ") k2 p6) .Add (.Name sg p7) p8, .Name sg p9] [] p10) "replace" X.env (eval (.Call (.Attribute (.Name tg p4) "replace" p5) [.BinOp (.Constant (.str " ") k2 p6) .Add (.Name sg p7) p8, .Name sg p9] [] p10) X.env) = eval (.Call (.Attribute (.Name tg p4) "replace" p5) [.BinOp (.Constant (.str " ") k2 p6) .Add (.Name sg p7) p8, .Name sg p9] [] p10) X.env := by rfl)
    (b2 : attributeBase (.Name tg p4) "replace" X.env (eval (.Name tg p4) X.env) = eval (.Name tg p4) X.env := by rfl) (l1 : (p11.endLine == p16.line) = true := by rfl) (l2 : (p5.endLine == p10.line) = true := by rfl)
    (hsw : swapsWith (.Call (.Attribute (.Call (.Attribute (.Name tg p4) "replace" p5) [.BinOp (.Constant (.str " ") k2 p6) .Add (.Name sg p7) p8, .Name sg p9] [] p10) "replace" p11) [.BinOp (.Name sg p12) .Add (.Constant (.str " ") k3 p13) p14, .Name sg p15] [] p16) (some (.Name tg p3)) p17.line X.env = pure false := by rfl) :
    PS X (.For (.Name sg p1) (.Constant (.str "()") k1 p2) [.Assign [.Name tg p3] (.Call (.Attribute (.Call (.Attribute (.Name tg p4) "replace" p5) [.BinOp (.Constant (.str " ") k2 p6) .Add (.Name sg p7) p8, .Name sg p9] [] p10) "replace" p11) [.BinOp (.Name sg p12) .Add (.Constant (.str " ") k3 p13) p14, .Name sg p15] [] p16) p17] [] p18) (tTight i j) := by
  refine ⟨fun pins s σ H D I h => ?_⟩
  obtain ⟨z, ez, hz, q⟩ := h
  have jl : j < σ.length := (List.getElem?_eq_some_iff.mp ez).1
  have jk : ∀ k, (stT i j σ z k).1[j]? = some (some (.str (stT i j σ z k).2)) ∧ j < (stT i j σ z k).1.length := fun k => by
    induction k with
    | zero => exact ⟨ez, jl⟩
    | succ k ih =>
      have l : j < ((stT i j σ z k).1.set i (some (.str (par k)))).length := by rw [List.length_set]; exact ih.2
      exact ⟨List.getElem?_set_self l, by show j < (List.set _ _ _).length; rw [List.length_set]; exact l⟩
  have zk : ∀ k, k < 2 → (stT i j σ z k).2.length ≤ 100000 := fun k hk => by
    rcases (show k = 0 ∨ k = 1 by omega) with rfl | rfl
    · exact Nat.le_trans hz (by decide)
    · obtain ⟨c, ec, _⟩ := par_sign 0 (by decide)
      show (rp (par 0) z).length ≤ 100000
      rw [ec]
      exact Nat.le_trans (rp_len c z) (by omega)
  refine wpAny_For (Calls.Constant_str (wpAny_pyIter_ascii (by decide +kernel) ?_)) (by intro _; rfl)
  obtain ⟨it, eit⟩ : ∃ it, it = s.heap.objs.size := ⟨_, rfl⟩
  have I0 : Inv X pins σ H { s with heap := s.heap.push { cls := .type "str_ascii_iterator", data := .fields #[.str "()" s.toks, .int 0 0] }, toks := s.toks + 1 } := I.kept (t' := s.toks + 1) fun b o e => Heap.get?_push_of_some _ e
  have fp : FpOk X pins H it := I.fpOk (by rw [eit]; exact Nat.le_refl _) (by rw [eit]; exact I.hok.fresh (Nat.le_refl _))
  obtain ⟨f0, f1, f2, f3, f4, f5⟩ := fp
  show codeAny _ _ (.forLoop _ (.ref s.heap.objs.size) _ _ _) _ _
  rw [← eit]
  refine codeAny_forLoop_any (fun n s' => ∃ k, n = 2 - k ∧ k ≤ 2 ∧ Inv X pins (stT i j σ z k).1 H s' ∧ s'.heap.IsStrIter it "str_ascii_iterator" "()" s.toks k ∧ 0 < s'.toks) ?_ 2 ⟨0, rfl, by decide, I0, ⟨_, by rw [eit]; exact Heap.get?_push_size _ rfl, rfl, rfl⟩, Nat.succ_pos _⟩
  rintro n s3 ⟨k, rfl, hk, I3, st3, ht3⟩
  rcases Nat.lt_or_ge k 2 with hlt | hge
  · obtain ⟨c, ec, hcx⟩ := par_sign k hlt
    refine wpAny_passesOwn hp (wpAny_pyNext_ascii_item st3 hcx fun h4 st4 hs4 => ?_)
    have I4 : Inv X pins (stT i j σ z k).1 H { s3 with heap := h4, toks := s3.toks + 1 } := I3.turned (fun b o hb e => (hs4.2 b hb).trans e) f0 f1 f3 f4 f5
    obtain ⟨oi, e4, c4, d4⟩ := id st4
    refine go_of (s := { s3 with heap := h4, toks := s3.toks + 1 }) e4 c4 d4 (by decide) ?_
    refine wpAny_passesOwn hp (wpAny_assign_Name (store_is (v := .str ⟨#[c]⟩) I4 hN hi hks ⟨_, rfl⟩ fun s5 I5 sl5 hs5 ht5 => ?_))
    have ht5 : s5.toks = s3.toks + 1 + 1 := ht5
    have ej : ((stT i j σ z k).1.set i (some (.str ⟨#[c]⟩)))[j]? = some (some (.str (stT i j σ z k).2)) := by
      rw [List.getElem?_set_ne hij]
      exact (jk k).1
    refine wpAny_passesOwn hp (wpAny_execs_cons (wpAny_Assign_Name (tight_body I5 hks hkt hd1 hd2 sl5 (Nat.ne_of_gt ht3) (by rw [ht5]; exact Nat.lt_succ_of_lt (Nat.lt_succ_self _)) (slot_at I5 hj hkt hvt ej) (zk k hlt) b1 b2 l1 l2 fun tk n6 => ?_) hsw))
    have I6 : Inv X pins ((stT i j σ z k).1.set i (some (.str ⟨#[c]⟩))) H { s5 with toks := n6 } := I5.tok n6
    refine wpAny_with_toks (n := 0) (Nat.zero_le _) (store_is (v := .str (rp ⟨#[c]⟩ (stT i j σ z k).2)) I6 hN hj hkt ⟨_, rfl⟩ fun s7 I7 sl7 hs7 ht7 _ => wpAny_execs_nil ?_)
    refine ⟨2 - (k + 1), by omega, k + 1, rfl, by omega, ?_, ?_, ?_⟩
    · show Inv X pins (((stT i j σ z k).1.set i (some (.str (par k)))).set j (some (.str (rp (par k) (stT i j σ z k).2)))) H s7
      rw [ec]
      exact I7
    · obtain ⟨o, ho, r⟩ := st4
      exact ⟨o, (hs7.2 it f1).trans ((hs5.2 it f1).trans ho), r⟩
    · rw [ht7]
      exact Nat.succ_pos _
  · have e2 : k = 2 := by omega
    subst e2
    refine wpAny_passesOwn hp (wpAny_pyNext_ascii_end (I3.ok.hd hc) st3 (by decide +kernel) fun h4 he4 => ?_)
    refine wpAny_execs_nil ⟨_, H, ?_, q⟩
    exact I3.turned (t' := s3.toks) (fun b o hb e => he4 b o hb e) f0 f1 f3 f4 f5
end

/-! ### for sign in '=+-*&?(){},': text = text.replace(sign, ' ' + sign + ' '); a token is out behind an assignment -/
def SGN : List Nat := [61, 43, 45, 42, 38, 63, 40, 41, 123, 125, 44]
def SGT : Str := "=+-*&?(){},"
def sgOf (k : Nat) : Str := ⟨#[SGN.getD k 0]⟩
def wdF (k c : Nat) : List Nat := if c ∈ SGN.take k then [32, c, 32] else [c]
def wT (z : Str) (k : Nat) : Str := ⟨((TL.tl z).flatMap (wdF k)).toArray⟩
theorem tl_wT (z : Str) (k : Nat) : TL.tl (wT z k) = (TL.tl z).flatMap (wdF k) := by
  show (((TL.tl z).flatMap (wdF k)).toArray).toList = _
  rfl
theorem wT_zero (z : Str) : wT z 0 = z := TL.ext_tl (by
  rw [tl_wT]
  have : ∀ l : List Nat, l.flatMap (wdF 0) = l := fun l => by
    induction l with
    | nil => rfl
    | cons c r ih =>
      rw [List.flatMap_cons, ih]
      rfl
  exact this _)
theorem wdF_len (k c : Nat) : (wdF k c).length ≤ 4 := by
  unfold wdF
  split
  · exact (by decide : 3 ≤ 4)
  · exact (by decide : 1 ≤ 4)
theorem wT_len (z : Str) (k : Nat) : (wT z k).length ≤ 4 * z.length := by
  rw [TL.len_tl, tl_wT, TL.len_tl]
  generalize TL.tl z = l
  induction l with
  | nil => exact Nat.zero_le _
  | cons c r ih =>
    have := wdF_len k c
    rw [List.flatMap_cons, List.length_append, List.length_cons]
    omega
theorem replL_one {c : Nat} {y : List Nat} : ∀ l : List Nat, PySem.StrLaws.replL [c] y l = l.flatMap fun x => if x = c then y else [x]
  | [] => PySem.StrLaws.replL_nil
  | d :: r => by
    rw [List.flatMap_cons, ← replL_one r]
    by_cases e : d = c
    · rw [if_pos e, PySem.StrLaws.replL_hit (by simp) (by show [d] = [c]; rw [e])]
      rfl
    · rw [if_neg e, PySem.StrLaws.replL_miss (by show ¬ [d] = [c]; intro z; injection z with z; exact e z)]
      rfl
theorem wd_old : ∀ k < 11, ∀ d ∈ SGN.take k, ([32, d, 32].flatMap fun x => if x = SGN.getD k 0 then [32, SGN.getD k 0, 32] else [x]) = [32, d, 32] := by decide +kernel
theorem wd_new : ∀ k < 11, SGN.take (k + 1) = SGN.take k ++ [SGN.getD k 0] := by decide +kernel
theorem wd_step {k : Nat} (hk : k < 11) (l : List Nat) : ((l.flatMap (wdF k)).flatMap fun x => if x = SGN.getD k 0 then [32, SGN.getD k 0, 32] else [x]) = l.flatMap (wdF (k + 1)) := by
  induction l with
  | nil => rfl
  | cons d r ih =>
    rw [List.flatMap_cons, List.flatMap_append, ih, List.flatMap_cons]
    congr 1
    unfold wdF
    rw [wd_new k hk]
    by_cases h : d ∈ SGN.take k
    · rw [if_pos h, if_pos (List.mem_append_left _ h)]
      exact wd_old k hk d h
    · rw [if_neg h, List.flatMap_cons, List.flatMap_nil, List.append_nil]
      by_cases e : d = SGN.getD k 0
      · rw [if_pos e, if_pos (List.mem_append_right _ (List.mem_singleton.mpr e)), e]
      · rw [if_neg e, if_neg fun z => (List.mem_append.mp z).elim h fun z => e (List.mem_singleton.mp z)]
theorem wT_step (z : Str) {k : Nat} (hk : k < 11) : Txt.replace (wT z k) (sgOf k) (" " ++ sgOf k ++ " ") = wT z (k + 1) := TL.ext_tl (by
  have h1 : (sgOf k).length = 1 := rfl
  have e : TL.tl (Txt.replace (wT z k) (sgOf k) (" " ++ sgOf k ++ " ")) = PySem.StrLaws.replL (TL.tl (sgOf k)) (TL.tl (" " ++ sgOf k ++ " ")) (TL.tl (wT z k)) := PySem.StrLaws.replace_list (by rw [h1]; exact Nat.le_refl _)
  have e1 : TL.tl (sgOf k) = [SGN.getD k 0] := rfl
  have e2 : TL.tl (" " ++ sgOf k ++ " ") = [32, SGN.getD k 0, 32] := by
    rw [TL.tl_append, TL.tl_append, e1, show TL.tl (" " : Str) = [32] by decide +kernel]
    rfl
  rw [e, e1, e2, replL_one, tl_wT, wd_step hk, tl_wT])
theorem sg_at : ∀ k < 11, SGT.cps[k]? = some (SGN.getD k 0) := by decide +kernel
section
variable {X : Cx}
/-- behind x = e a token is out -/
theorem pss_setT {i : Nat} {x : Str} {e : Expr} {te : TE} {rest : List Stmt} {u : TS} {pos' pos : Pos} (hN : X.N.Nodup) (hi : X.N[i]? = some x) (hk : X.env.kindOf x = some .local) (he : PE X e te) (h2 : PSsT X rest u) (hs : swapsWith e (some (.Name x pos')) pos.line X.env = pure false := by rfl) :
    PSs X (.Assign [.Name x pos'] e pos :: rest) (tSeq (tAsg te (gName i)) u) := by
  refine ⟨fun pins s σ H D I h => wpAny_execs_cons (wpAny_Assign_Name (thn (he.run pins s σ H _ I h) fun v s1 ⟨y, H1, I1, r1, q1⟩ => ?_) hs)⟩
  refine store_is I1 hN hi hk r1 fun s' I' sl hs' ht => ?_
  exact h2 pins s' _ H1 D (by omega) I' q1
/-- e.replace(y, z) of written texts is a list's item, one token out -/
theorem pet_replN {o : Expr} {to : TE} {y z : Str} {j k : Nat} {c0 c1 apos pos : Pos} (ho : PE X o to) (hyz : (y == z) = false := by decide +kernel)
    (hst : starEach [.Constant (.str y) j c0, .Constant (.str z) k c1] X.env = [(false, eval (.Constant (.str y) j c0) X.env), (false, eval (.Constant (.str z) k c1) X.env)] := by rfl)
    (hbase : attributeBase o "replace" X.env (eval o X.env) = eval o X.env := by rfl) (hline : (apos.endLine == pos.line) = true := by rfl) :
    PET X (.Call (.Attribute o "replace" apos) [.Constant (.str y) j c0, .Constant (.str z) k c1] [] pos) (CwR.tReplC to y z) := CwR.pet_replC ho hyz hst hbase hline
theorem sgw_ne (k : Nat) : (sgOf k == (" " ++ sgOf k ++ " " : Str)) = false := beq_eq_false_iff_ne.mpr fun e => by
  have := congrArg (fun s : Str => (TL.tl s).length) e
  simp only [TL.tl_append, List.length_append] at this
  have a1 : (TL.tl (sgOf k)).length = 1 := rfl
  have a2 : (TL.tl (" " : Str)).length = 1 := by decide +kernel
  have a3 : (TL.tl (" " : Str)).length = 1 := by decide +kernel
  omega
/-- one turn's text -/
theorem wide_body {sg tg : Str} {p4 p5 p6 p7 p8 p9 p10 p11 p12 : Pos} {k2 k3 : Nat} {pins : List (Addr × Obj)} {σ : L2.St} {H : Hp} {s : Shared} {k : Nat} {t : Tok} {z : Str} {Q : Value → Shared → Prop} {E : Value → Shared → Prop} (I : Inv X pins σ H s)
    (hks : X.env.kindOf sg = some .local) (hkt : X.env.kindOf tg = some .local) (hd1 : (sg == ("__debug__" : Str)) = false) (hd2 : (tg == ("__debug__" : Str)) = false) (sl : SlotIs X s sg (.str (sgOf k) t)) (ht0 : t ≠ 0) (ht1 : t < s.toks) (tz : ∃ tk, SlotIs X s tg (.str z tk)) (hz : z.length ≤ 1000000)
    (b2 : attributeBase (.Name tg p4) "replace" X.env (eval (.Name tg p4) X.env) = eval (.Name tg p4) X.env) (l2 : (p5.endLine == p12.line) = true)
    (h : ∀ tk n, Q (.str (Txt.replace z (sgOf k) (" " ++ sgOf k ++ " ")) tk) { s with toks := n }) :
    wpAny (model X.prog X.w) X.A (eval (.Call (.Attribute (.Name tg p4) "replace" p5) [.Name sg p6, .BinOp (.BinOp (.Constant (.str " ") k2 p7) .Add (.Name sg p8) p9) .Add (.Constant (.str " ") k3 p10) p11] [] p12) X.env) Q E s := by
  obtain ⟨m, hn, hv⟩ := sl
  obtain ⟨tk, m2, hn2, hv2⟩ := tz
  have one : (sgOf k).length = 1 := rfl
  have sp1 : (" " : Str).length = 1 := by decide +kernel
  have sp2 : (" " : Str).length = 1 := by decide +kernel
  refine Call_method2 b2 rfl l2 (wpAny_Name (wpAny_loadName_local I.ok.kind hkt hn2 hv2 ?_) hd2)
  refine ⟨"str", _, PySem.F.plainAttrs_str, PySem.F.slot_str_replace, PySem.F.type_str_replace, typeIs_str _ _ _, (fun _ e => nomatch e), Calls.callWith_builtin rfl (Calls.evalArgs_plain (Calls.spliced_cons ?_))⟩
  refine wpAny_Name (wpAny_loadName_local I.ok.kind hks hn hv ?_) hd1
  refine Calls.spliced_cons (wpAny_BinOp (wpAny_BinOp (Calls.Constant_str (wpAny_Name (wpAny_loadName_local I.ok.kind hks hn hv ?_) hd1))))
  refine PySem.P.add_str ?_
  rw [if_neg (by rw [sp1]; decide), if_neg (by rw [one]; decide)]
  refine ⟨by rw [str_app_len, sp1, one]; decide, ?_⟩
  refine Calls.Constant_str ?_
  refine PySem.P.add_str ?_
  rw [if_neg (by rw [str_app_len, sp1, one]; decide), if_neg (by rw [sp2]; decide)]
  refine ⟨by rw [str_app_len, str_app_len, sp1, one]; decide, ?_⟩
  refine Calls.spliced_nil ?_
  refine wpAny_with_toks (n := s.toks) (by show s.toks ≤ s.toks + 1 + 1 + 1 + 1; omega) (PySem.SC.replace ht0 ?_ ?_ (sgw_ne k) ?_ fun t1 n1 hn1 => h t1 n1)
  · show s.toks + 1 + 1 + 1 ≠ 0
    omega
  · exact Nat.ne_of_lt (Nat.lt_of_lt_of_le ht1 (by show s.toks ≤ s.toks + 1 + 1 + 1; omega))
  · rw [str_app_len, str_app_len, sp1, one]
    show z.length + (z.length + 1) * 3 ≤ 16777216
    omega
def stW (i j : Nat) (σ : L2.St) (z : Str) : Nat → L2.St
  | 0 => σ
  | k + 1 => ((stW i j σ z k).set i (some (.str (sgOf k)))).set j (some (.str (wT z (k + 1))))
def tWide (i j : Nat) : TS := fun D σ H => ∃ z, σ[j]? = some (some (.str z)) ∧ z.length ≤ 200000 ∧ D.nx (stW i j σ z 11) H
theorem ps_wide {i j : Nat} {sg tg : Str} {p1 p2 p3 p4 p5 p6 p7 p8 p9 p10 p11 p12 p13 p14 : Pos} {k1 k2 k3 : Nat} (hN : X.N.Nodup) (hi : X.N[i]? = some sg) (hj : X.N[j]? = some tg) (hij : i ≠ j) (hks : X.env.kindOf sg = some .local) (hkt : X.env.kindOf tg = some .local) (hvt : Vis X.env.scope tg) (hc : X.calm = true) (hp : PassesOwn (model X.prog X.w) X.A X.env X.xe)
    (hd1 : (sg == ("__debug__" : Str)) = false := by decide) (hd2 : (tg == ("__debug__" : Str)) = false := by decide)
    (b2 : attributeBase (.Name tg p4) "replace" X.env (eval (.Name tg p4) X.env) = eval (.Name tg p4) X.env := by rfl) (l2 : (p5.endLine == p12.line) = true := by rfl)
    (hsw : swapsWith (.Call (.Attribute (.Name tg p4) "replace" p5) [.Name sg p6, .BinOp (.BinOp (.Constant (.str " ") k2 p7) .Add (.Name sg p8) p9) .Add (.Constant (.str " ") k3 p10) p11] [] p12) (some (.Name tg p3)) p13.line X.env = pure false := by rfl) :
    PS X (.For (.Name sg p1) (.Constant (.str "=+-*&?(){},") k1 p2) [.Assign [.Name tg p3] (.Call (.Attribute (.Name tg p4) "replace" p5) [.Name sg p6, .BinOp (.BinOp (.Constant (.str " ") k2 p7) .Add (.Name sg p8) p9) .Add (.Constant (.str " ") k3 p10) p11] [] p12) p13] [] p14) (tWide i j) := by
  refine ⟨fun pins s σ H D I h => ?_⟩
  obtain ⟨z, ez, hz, q⟩ := h
  have jl : j < σ.length := (List.getElem?_eq_some_iff.mp ez).1
  have jk : ∀ k, (stW i j σ z k)[j]? = some (some (.str (wT z k))) ∧ j < (stW i j σ z k).length := fun k => by
    induction k with
    | zero => exact ⟨by rw [wT_zero]; exact ez, jl⟩
    | succ k ih =>
      have l : j < ((stW i j σ z k).set i (some (.str (sgOf k)))).length := by rw [List.length_set]; exact ih.2
      exact ⟨List.getElem?_set_self l, by show j < (List.set _ _ _).length; rw [List.length_set]; exact l⟩
  have zk : ∀ k, (wT z k).length ≤ 1000000 := fun k => Nat.le_trans (wT_len z k) (by omega)
  refine wpAny_For (Calls.Constant_str (wpAny_pyIter_ascii (by decide +kernel) ?_)) (by intro _; rfl)
  obtain ⟨it, eit⟩ : ∃ it, it = s.heap.objs.size := ⟨_, rfl⟩
  have I0 : Inv X pins σ H { s with heap := s.heap.push { cls := .type "str_ascii_iterator", data := .fields #[.str "=+-*&?(){}," s.toks, .int 0 0] }, toks := s.toks + 1 } := I.kept (t' := s.toks + 1) fun b o e => Heap.get?_push_of_some _ e
  have fp : FpOk X pins H it := I.fpOk (by rw [eit]; exact Nat.le_refl _) (by rw [eit]; exact I.hok.fresh (Nat.le_refl _))
  obtain ⟨f0, f1, f2, f3, f4, f5⟩ := fp
  show codeAny _ _ (.forLoop _ (.ref s.heap.objs.size) _ _ _) _ _
  rw [← eit]
  refine codeAny_forLoop_any (fun n s' => ∃ k, n = 11 - k ∧ k ≤ 11 ∧ Inv X pins (stW i j σ z k) H s' ∧ s'.heap.IsStrIter it "str_ascii_iterator" "=+-*&?(){}," s.toks k ∧ 0 < s'.toks) ?_ 11 ⟨0, rfl, by decide, I0, ⟨_, by rw [eit]; exact Heap.get?_push_size _ rfl, rfl, rfl⟩, Nat.succ_pos _⟩
  rintro n s3 ⟨k, rfl, hk, I3, st3, ht3⟩
  rcases Nat.lt_or_ge k 11 with hlt | hge
  · have hcx := sg_at k hlt
    refine wpAny_passesOwn hp (wpAny_pyNext_ascii_item st3 hcx fun h4 st4 hs4 => ?_)
    have I4 : Inv X pins (stW i j σ z k) H { s3 with heap := h4, toks := s3.toks + 1 } := I3.turned (fun b o hb e => (hs4.2 b hb).trans e) f0 f1 f3 f4 f5
    obtain ⟨oi, e4, c4, d4⟩ := id st4
    refine go_of (s := { s3 with heap := h4, toks := s3.toks + 1 }) e4 c4 d4 (by decide) ?_
    refine wpAny_passesOwn hp (wpAny_assign_Name (store_is (v := .str (sgOf k)) I4 hN hi hks ⟨_, rfl⟩ fun s5 I5 sl5 hs5 ht5 => ?_))
    have ht5 : s5.toks = s3.toks + 1 + 1 := ht5
    have ej : ((stW i j σ z k).set i (some (.str (sgOf k))))[j]? = some (some (.str (wT z k))) := by
      rw [List.getElem?_set_ne hij]
      exact (jk k).1
    refine wpAny_passesOwn hp (wpAny_execs_cons (wpAny_Assign_Name (wide_body I5 hks hkt hd1 hd2 sl5 (Nat.ne_of_gt ht3) (by rw [ht5]; exact Nat.lt_succ_of_lt (Nat.lt_succ_self _)) (slot_at I5 hj hkt hvt ej) (zk k) b2 l2 fun tk n6 => ?_) hsw))
    rw [wT_step z hlt]
    have I6 : Inv X pins ((stW i j σ z k).set i (some (.str (sgOf k)))) H { s5 with toks := n6 } := I5.tok n6
    refine wpAny_with_toks (n := 0) (Nat.zero_le _) (store_is (v := .str (wT z (k + 1))) I6 hN hj hkt ⟨_, rfl⟩ fun s7 I7 sl7 hs7 ht7 _ => wpAny_execs_nil ?_)
    refine ⟨11 - (k + 1), by omega, k + 1, rfl, by omega, I7, ?_, ?_⟩
    · obtain ⟨o, ho, r⟩ := st4
      exact ⟨o, (hs7.2 it f1).trans ((hs5.2 it f1).trans ho), r⟩
    · rw [ht7]
      exact Nat.succ_pos _
  · have e2 : k = 11 := by omega
    subst e2
    refine wpAny_passesOwn hp (wpAny_pyNext_ascii_end (I3.ok.hd hc) st3 (by decide +kernel) fun h4 he4 => ?_)
    refine wpAny_execs_nil ⟨_, H, ?_, q⟩
    exact I3.turned (t' := s3.toks) (fun b o hb e => he4 b o hb e) f0 f1 f3 f4 f5
end

/-! ### k05: texts and their tokens, with places -/
inductive Tkp : Nat → List Nat → Tl → Prop
  | fin {p : Nat} : Tkp p [] [("end", "", p)]
  | gap {p c : Nat} {t : List Nat} {ts : Tl} (hc : c = 32 ∨ c = 10) (r : Tkp (p + 1) t ts) : Tkp p (c :: t) ts
  | sign {p c : Nat} {t : List Nat} {ts : Tl} (hc : c ∈ SIG.cps.toList) (r : Tkp (p + 1) t ts) : Tkp p (c :: t) (("mark", (⟨#[c]⟩ : Str), p) :: ts)
  | word {p : Nat} {w t : List Nat} {ts : Tl} (hw : w ≠ []) (ha : ∀ c ∈ w, al c = true) (hk : kindOf ⟨w.toArray⟩ ≠ "bad") (hn : NoAl t) (r : Tkp (p + w.length) t ts) : Tkp p (w ++ t) ((kindOf ⟨w.toArray⟩, (⟨w.toArray⟩ : Str), p) :: ts)
  | char {p c : Nat} {t : List Nat} (hc : Plain c) (ha : al c = false) : Tkp p (c :: t) [badT p]
  | bad {p : Nat} {w t : List Nat} (hw : w ≠ []) (ha : ∀ c ∈ w, al c = true) (hk : kindOf ⟨w.toArray⟩ = "bad") (hn : NoAl t) : Tkp p (w ++ t) [badT p]
theorem word_run (p : List Nat) {w t : List Nat} (hw : w ≠ []) (ha : ∀ c ∈ w, al c = true) (hn : NoAl t) : Run (p ++ (w ++ t)) p.length (p.length + w.length) ∧ cutT (p ++ (w ++ t)) p.length (p.length + w.length) = ⟨w.toArray⟩ ∧ ∃ c, (p ++ (w ++ t))[p.length]? = some c ∧ Plain c := by
  have wl : 0 < w.length := List.length_pos_iff.mpr hw
  have cut : cutT (p ++ (w ++ t)) p.length (p.length + w.length) = ⟨w.toArray⟩ := by
    unfold cutT
    rw [List.drop_left, Nat.add_sub_cancel_left, List.take_left]
  have at_w : ∀ x, p.length ≤ x → x < p.length + w.length → (p ++ (w ++ t))[x]? = w[x - p.length]? := fun x h1 h2 => by
    rw [List.getElem?_append_right h1, List.getElem?_append_left (by omega)]
  obtain ⟨c, hc⟩ : ∃ c, w[0]? = some c := ⟨_, List.getElem?_eq_getElem wl⟩
  refine ⟨⟨by omega, by rw [List.length_append, List.length_append]; omega, fun x h1 h2 => ?_, fun c hc => ?_⟩, cut, c, by rw [at_w _ (Nat.le_refl _) (by omega), Nat.sub_self]; exact hc, al_plain (ha c (List.mem_of_getElem? hc))⟩
  · have hx : x - p.length < w.length := by omega
    exact ⟨_, by rw [at_w x h1 h2]; exact List.getElem?_eq_getElem hx, ha _ (List.getElem_mem hx)⟩
  · rw [List.getElem?_append_right (by omega), Nat.add_sub_cancel_left, List.getElem?_append_right (Nat.le_refl _), Nat.sub_self] at hc
    exact hn c hc
theorem Tkp.tkz {p : Nat} {s : List Nat} {ts : Tl} (h : Tkp p s ts) : ∀ pre : List Nat, pre.length = p → Tkz (pre ++ s) p ts := by
  induction h with
  | fin => exact fun pre e => .fin (by rw [List.append_nil, e])
  | @gap p c t ts hc _ ih =>
    intro pre e
    subst e
    have := ih (pre ++ [c]) (by rw [List.length_append]; rfl)
    rw [List.append_assoc] at this
    exact .gap (mid_get pre t c) hc this
  | @sign p c t ts hc _ ih =>
    intro pre e
    subst e
    have := ih (pre ++ [c]) (by rw [List.length_append]; rfl)
    rw [List.append_assoc] at this
    exact .sign (mid_get pre t c) hc this
  | @word p w t ts hw ha hk hn _ ih =>
    intro pre e
    subst e
    have k := ih (pre ++ w) (by rw [List.length_append])
    rw [List.append_assoc] at k
    obtain ⟨run, cut, c, hc, pl⟩ := word_run pre hw ha hn
    have wl : 0 < w.length := List.length_pos_iff.mpr hw
    have tk := Tkz.word (t := pre ++ (w ++ t)) (a := pre.length) (j := pre.length + w.length) (c := c) hc pl run (by omega) (by rw [cut]; exact hk) k
    rw [cut] at tk
    exact tk
  | @char p c t hc ha =>
    intro pre e
    subst e
    refine .bad (j := pre.length) (mid_get pre t c) hc ⟨Nat.le_refl _, by rw [List.length_append]; omega, fun x h1 h2 => by omega, fun d hd => ?_⟩ (.inl rfl)
    rw [mid_get] at hd
    cases hd
    exact ha
  | @bad p w t hw ha hk hn =>
    intro pre e
    subst e
    obtain ⟨run, cut, c, hc, pl⟩ := word_run pre hw ha hn
    exact .bad hc pl run (.inr (by rw [cut]; exact hk))
/-- a token as it stands in a text -/
def TokG (y : Str × Str) : Prop := (∃ c, c ∈ SIG.cps.toList ∧ y = (("mark", ⟨#[c]⟩) : Str × Str)) ∨ (TL.tl y.2 ≠ [] ∧ (∀ c ∈ TL.tl y.2, al c = true) ∧ kindOf y.2 = y.1 ∧ y.1 ≠ "bad")
theorem tok_put {y : Str × Str} {p : Nat} {t : List Nat} {ts : Tl} (g : TokG y) (hn : NoAl t) (r : Tkp (p + y.2.length) t ts) : Tkp p (TL.tl y.2 ++ t) ((y.1, y.2, p) :: ts) := by
  rcases g with ⟨c, hc, rfl⟩ | ⟨h1, h2, h3, h4⟩
  · exact .sign hc r
  · obtain ⟨k, w⟩ := y
    have h3 : kindOf w = k := h3
    subst h3
    have := Tkp.word (p := p) h1 h2 (by rw [str_tl]; exact h4) hn (by rw [← TL.len_tl]; exact r)
    rw [str_tl] at this
    exact this
/-- tokens, each behind a blank -/
def lay : Nat → SH → Tl
  | _, [] => []
  | p, y :: r => (y.1, y.2, p) :: lay (p + y.2.length + 1) r
theorem sh_lay : ∀ (l : SH) (p : Nat), shOf (lay p l) = l
  | [], _ => rfl
  | y :: r, p => by
    show (y.1, y.2) :: shOf (lay _ r) = _
    rw [sh_lay r]
theorem lay_app : ∀ (l r : SH) (p : Nat), ∃ q, lay p (l ++ r) = lay p l ++ lay q r
  | [], r, p => ⟨p, rfl⟩
  | y :: l, r, p => by
    obtain ⟨q, e⟩ := lay_app l r (p + y.2.length + 1)
    exact ⟨q, by show _ :: lay _ (l ++ r) = _ :: (lay _ l ++ _); rw [e]⟩
theorem lay_len : ∀ (l : SH) (p : Nat), (lay p l).length = l.length
  | [], _ => rfl
  | y :: r, p => by show (lay _ r).length + 1 = r.length + 1; rw [lay_len r]
abbrev joinT (l : SH) : List Nat := TL.joinL [32] (l.map fun y => TL.tl y.2)
theorem lay_join : ∀ {l : SH} {p : Nat} {t : List Nat} {ts : Tl}, l ≠ [] → (∀ y ∈ l, TokG y) → NoAl t → Tkp (p + (joinT l).length) t ts → Tkp p (joinT l ++ t) (lay p l ++ ts)
  | [], _, _, _, h, _, _, _ => absurd rfl h
  | [y], p, t, ts, _, g, hn, r => tok_put (g y List.mem_cons_self) hn (by rw [TL.len_tl]; exact r)
  | y :: z :: l, p, t, ts, _, g, hn, r => by
    have e : joinT (y :: z :: l) ++ t = TL.tl y.2 ++ 32 :: (joinT (z :: l) ++ t) := by
      show (TL.tl y.2 ++ ([32] ++ joinT (z :: l))) ++ t = _
      simp
    have el : (joinT (y :: z :: l)).length = y.2.length + 1 + (joinT (z :: l)).length := by
      show (TL.tl y.2 ++ ([32] ++ joinT (z :: l))).length = _
      rw [List.length_append, List.length_append, TL.len_tl]
      show _ + (1 + _) = _
      omega
    rw [e]
    refine tok_put (g y List.mem_cons_self) noAl_gap (.gap (.inl rfl) ?_)
    refine lay_join (List.cons_ne_nil _ _) (fun x hx => g x (List.mem_cons_of_mem _ hx)) hn ?_
    rw [el] at r
    rw [show p + y.2.length + 1 + (joinT (z :: l)).length = p + (y.2.length + 1 + (joinT (z :: l)).length) by omega]
    exact r
/-- some tokens, a blank, and what follows -/
theorem lay_blank {l : SH} {t : List Nat} {ts : Tl} (g : ∀ y ∈ l, TokG y) (r : Tkp ((joinT l).length + 1) t ts) : Tkp 0 (joinT l ++ 32 :: t) (lay 0 l ++ ts) := by
  cases l with
  | nil => exact .gap (.inl rfl) r
  | cons y l => exact lay_join (List.cons_ne_nil _ _) g noAl_gap (.gap (.inl rfl) (by rw [Nat.zero_add]; exact r))
theorem lay_end {l : SH} (h : l ≠ []) (g : ∀ y ∈ l, TokG y) : Tkp 0 (joinT l) (lay 0 l ++ [(("end", "", (joinT l).length) : TK)]) := by
  have := lay_join (p := 0) h g noAl_nil (Tkp.fin (p := 0 + (joinT l).length))
  rw [List.append_nil, Nat.zero_add] at this
  exact this
/-! what is no token -/
def OddZ (z : Str) : Prop := ∀ (p : Nat) (t : List Nat), NoAl t → Tkp p (TL.tl z ++ t) [badT p]
def oddB (z : Str) : Bool := match TL.tl z with
  | [] => false
  | c :: r => (decide (c ≠ 32 ∧ c ≠ 10 ∧ c ∉ SIG.cps.toList) && !al c) || ((c :: r).all al && decide (kindOf z = "bad"))
theorem odd_of {z : Str} (h : oddB z = true) : OddZ z := fun p t hn => by
  unfold oddB at h
  cases e : TL.tl z with
  | nil => rw [e] at h; cases h
  | cons c r =>
    rw [e] at h
    simp only [Bool.or_eq_true, Bool.and_eq_true, decide_eq_true_eq, Bool.not_eq_true'] at h
    rcases h with ⟨h1, h2⟩ | ⟨h1, h2⟩
    · exact .char h1 h2
    · rw [← e] at h1 ⊢
      exact .bad (by rw [e]; simp) (fun d hd => List.all_eq_true.mp h1 d hd) (by rw [str_tl]; exact h2) hn
def ODDS : List Str := ["A", ";", "#", "0a", "07", "3x", ".", "!", "00", "12345x", "\"", "~", "[", "_q"]
theorem odds_ok : ∀ z ∈ ODDS, oddB z = true ∧ z.length ≤ 6 ∧ z.length ≠ 0 := by decide +kernel
/-! the words of a text -/
def spF (t : List Nat) : List Nat := (t.map f10).flatMap (wdF 11)
theorem spF_app (a b : List Nat) : spF (a ++ b) = spF a ++ spF b := by unfold spF; rw [List.map_append, List.flatMap_append]
theorem spF_cons (c : Nat) (t : List Nat) : spF (c :: t) = wdF 11 (f10 c) ++ spF t := by unfold spF; rw [List.map_cons, List.flatMap_cons]
theorem sg_sig : ∀ c ∈ SIG.cps.toList, c ∈ SGN.take 11 := by decide +kernel
theorem sig_sg : ∀ c ∈ SGN.take 11, c ∈ SIG.cps.toList := by decide +kernel
theorem wd_gap : wdF 11 32 = [32] := by decide +kernel
theorem spF_word : ∀ {w : List Nat}, (∀ c ∈ w, al c = true) → spF w = w
  | [], _ => rfl
  | c :: r, h => by
    have hc := h c List.mem_cons_self
    rw [spF_cons, f10_al hc, spF_word fun d hd => h d (List.mem_cons_of_mem _ hd)]
    unfold wdF
    rw [if_neg fun z => (al_plain hc).2.2 (sig_sg c z)]
    rfl
theorem spF_head {t : List Nat} {sh : SH} (hn : NoAl t) (h : Tkw t sh) : spF t = [] ∨ ∃ r, spF t = 32 :: r := by
  cases h with
  | nil => exact .inl rfl
  | @gap c t _ hc _ =>
    refine .inr ⟨spF t, ?_⟩
    rw [spF_cons, show f10 c = 32 by unfold f10; rcases hc with rfl | rfl <;> rfl, wd_gap]
    rfl
  | @sign c t sh hc _ =>
    have e : f10 c = c := if_neg (sig_gap c hc).2
    refine .inr ⟨[c, 32] ++ spF t, ?_⟩
    rw [spF_cons, e]
    unfold wdF
    rw [if_pos (sg_sig c hc)]
    rfl
  | @word w t sh hw ha _ _ _ =>
    cases w with
    | nil => exact absurd rfl hw
    | cons c r =>
      have := hn c rfl
      rw [ha c List.mem_cons_self] at this
      cases this
abbrev spW (l : List Nat) : List (List Nat) := (TL.spl [32] 0 [] l).filter fun w => !w.isEmpty
theorem spW_gap (r : List Nat) : spW (32 :: r) = spW r := by
  have : TL.spl [32] 0 [] (32 :: r) = [] :: TL.spl [32] 0 [] r := TL.spl_part1 (p := []) (S := []) (by simp)
  unfold spW
  rw [this]
  rfl
theorem spW_word {w r : List Nat} (hw : w ≠ []) (h : 32 ∉ w) : spW (w ++ 32 :: r) = w :: spW r := by
  have : TL.spl [32] 0 [] (w ++ 32 :: r) = ([] ++ w) :: TL.spl [32] 0 [] r := TL.spl_part1 (p := w) (S := []) h
  unfold spW
  rw [this, List.nil_append, List.filter_cons, if_pos (by cases w with | nil => exact absurd rfl hw | cons _ _ => rfl)]
theorem spW_last {w : List Nat} (hw : w ≠ []) (h : 32 ∉ w) : spW w = [w] := by
  have : TL.spl [32] 0 [] w = [[] ++ w] := TL.spl_last1 (S := []) h
  unfold spW
  rw [this, List.nil_append, List.filter_cons, if_pos (by cases w with | nil => exact absurd rfl hw | cons _ _ => rfl)]
  rfl
theorem spW_nil : spW [] = [] := rfl
theorem no_gap {w : List Nat} (h : ∀ c ∈ w, al c = true) : 32 ∉ w := fun z => by
  have := h 32 z
  rw [al_gap.1] at this
  cases this
theorem tkw_words {t : List Nat} {sh : SH} (h : Tkw t sh) : ∃ s0, sh = s0 ++ [endH] ∧ (∀ y ∈ s0, TokG y) ∧ spW (spF t) = s0.map fun y => TL.tl y.2 := by
  induction h with
  | nil => exact ⟨[], rfl, (fun _ z => nomatch z), rfl⟩
  | @gap c t sh hc _ ih =>
    obtain ⟨s0, e, g, k⟩ := ih
    refine ⟨s0, e, g, ?_⟩
    rw [spF_cons, show f10 c = 32 by unfold f10; rcases hc with rfl | rfl <;> rfl, wd_gap]
    show spW (32 :: spF t) = _
    rw [spW_gap, k]
  | @sign c t sh hc _ ih =>
    obtain ⟨s0, e, g, k⟩ := ih
    refine ⟨(("mark", ⟨#[c]⟩) : Str × Str) :: s0, by rw [e]; rfl, fun y hy => ?_, ?_⟩
    · rcases List.mem_cons.mp hy with rfl | z
      · exact .inl ⟨c, hc, rfl⟩
      · exact g y z
    · have ec : f10 c = c := if_neg (sig_gap c hc).2
      rw [spF_cons, ec]
      unfold wdF
      rw [if_pos (sg_sig c hc)]
      show spW (32 :: ([c] ++ 32 :: spF t)) = _
      rw [spW_gap, spW_word (by simp) (by rw [List.mem_singleton]; exact fun z => (sig_gap c hc).1 z.symm), k]
      rfl
  | @word w t sh hw ha hk hn r ih =>
    obtain ⟨s0, e, g, k⟩ := ih
    refine ⟨(kindOf ⟨w.toArray⟩, (⟨w.toArray⟩ : Str)) :: s0, by rw [e]; rfl, fun y hy => ?_, ?_⟩
    · rcases List.mem_cons.mp hy with rfl | z
      · exact .inr ⟨hw, ha, rfl, hk⟩
      · exact g y z
    · rw [spF_app, spF_word ha]
      show _ = w :: s0.map _
      rcases spF_head hn r with q | ⟨r', q⟩
      · rw [q] at k ⊢
        rw [List.append_nil, spW_last hw (no_gap ha), ← k]
        rfl
      · rw [q] at k ⊢
        rw [spW_gap] at k
        rw [spW_word hw (no_gap ha), k]

/-! ### a def that is called where a token is out (str.replace of written texts as its first step) -/
structure FnOkT (P : Program) (w : World) (K : PySem.W.Frag) (mg : Str → Option Value) (base : Heap) (CX : CXT) (k : Nat) (f : Addr) (fd : FuncData) (ps : List Str) (sp : Sp) : Prop where
  len : ∀ vs H Q E, sp vs H Q E → vs.length = ps.length
  run : ∀ (A : Around) (outer : List Env) (s : Shared) (H : Hp) (args : Args) (us : List Value) (vs : List V) (Q : VK) (E : XK), 1 ≤ s.toks → Room k A → Env0 P w K mg base A outer s H → BindsTo s fd args (ps.zip us) → Vals vs us → sp vs H Q E →
    codeAny (model P w) A (.call (.ref f) args) (CR CX outer P w H s Q E) s
structure HasT (P : Program) (w : World) (K : PySem.W.Frag) (mg : Str → Option Value) (base : Heap) (CX : CXT) (k : Nat) (x : Str) (ps : List Str) (sp : Sp) : Prop where
  ex : ∃ (f : Addr) (fd : FuncData), FnOkT P w K mg base CX k f fd ps sp ∧ mg x = some (.ref f) ∧ PySem.W.keepIn K (.ref f) = true ∧ Binds K fd ps []
theorem psst_nox {X : Cx} {st : List Stmt} {t : TS} (h : PSsT X.nox st t) : PSsT X st t := fun pins s σ H D h0 I hw =>
  wpAny_mono (h pins s σ H D h0 (I.wish _) hw) (fun _ _ q => q.unwish) fun _ _ z => False.elim z
theorem fun_okT {P : Program} {w : World} {K : PySem.W.Frag} {mg : Str → Option Value} {base : Heap} {x qual : Str} {st : Stmt} {f : Addr} {fd : FuncData} {N ps : List Str} {k : Nat} {sp : Sp} (F : Fun K x qual st f fd) (S : FnScope N ps (defScope st)) (len : ∀ vs H Q E, sp vs H Q E → vs.length = ps.length)
    (hbody : ∀ (cdv : Value) (A : Around) (outer : List Env) (s : Shared) (H : Hp) (vs : List V) (Q : VK) (E : XK), Room k (A.deeper (PyProof.Rows.envOfC qual (defScope st) s.heap.objs.size f cdv)) → sp vs H Q E →
      ∃ t, PSsT (cxOf CX0 P w K mg base N qual (defScope st) f cdv A outer s H E).nox (defBody st) t ∧ t { nx := fun _ H' => Q .non H', rt := Q } (L2.start N vs) H) :
    FnOkT P w K mg base CX0 (k + 1) f fd ps sp := by
  obtain ⟨oc, od, kV, doc, pm, an, cdv, ct, osl, rfl, lk, hcd⟩ := F.ex
  refine ⟨len, fun A outer s H args us vs Q E h0 hr e0 hb r hsp => ?_⟩
  have hl := len _ _ _ _ hsp
  have old : ∀ b o, base.get? b = some o → s.heap.get? b = some o := fun b o e => (e0.bs b o e).1
  have kx : K.In s.heap := e0.mod.kin.keeps old
  have lim : s.heap.NoLimit := e0.mod.nolimit.keeps old
  have kinds : ∀ y ∈ ps.zip us, (defScope st).names.lookup y.1 = some .local ∨ ((defScope st).names.lookup y.1 = some .cell ∧ ((cellsFrom (s.heap.objs.size + 1) (defScope st).names []).lookup y.1).isSome = true) := fun ⟨n, v⟩ hy => (S.par n (List.of_mem_zip hy).1).imp id fun q => ⟨q, PySem.W.cellsFrom_some _ _ _ (.inl q)⟩
  refine codeAny_call_function hr.depth (kx _ _ lk) rfl S.co S.gen rfl (PySem.W.codeRec_of kx hcd) (hb _ _ _ _ (wpAny_mono (PySem.wpAny_toks (wpAny_newFunctionEnv_cells S.kind kinds (fun env he s1 x => (⟨he, x⟩ : _ ∧ _)))) (fun env s1 q => ?_) fun _ _ z => z.2))
  obtain ⟨hk, he, x⟩ := q
  subst he
  obtain ⟨t, ht, hq⟩ := hbody cdv A outer s H vs Q E (hr.deeper _) hsp
  have ht := psst_nox ht
  refine ⟨lim.keeps x.toInCall.keep, codeAny_func (wpAny_mono (ht [] s1 (L2.start N vs) H _ (Nat.le_trans h0 hk) (inv_start S hr.hd e0 hl r x) hq) (fun fl s' hs => ?_) fun e s' hs => hs)⟩
  have fin : ∀ {σ' : L2.St} {H' : Hp} {v : V} {u : Value}, Inv (cxOf CX0 P w K mg base N qual (defScope st) f cdv A outer s H E) [] σ' H' s' → RelV v u → Q v H' → CE outer P w H s Q u s' := fun {σ' H' v u} J rv q => ⟨v, H', J.os, J.bare, J.base, J.hok, rv, q⟩
  cases fl with
  | ret u => exact let ⟨_, _, _, J, rv, q⟩ := hs; fin J rv q
  | next => exact let ⟨_, _, J, q⟩ := hs; fin (v := V.non) (u := Value.none) J rfl q
  | brk => exact let ⟨_, _, _, q⟩ := hs; False.elim q
  | cont => exact let ⟨_, _, _, q⟩ := hs; False.elim q
section
variable {X : Cx}
theorem pet_callH {CX : CXT} {k : Nat} {x : Str} {ps : List Str} {sp : Sp} {E : XK} {e : Expr} {es : List Expr} {t : L2.TA} {p pos : Pos} (F : HasT X.prog X.w X.K X.mg X.base CX k x ps sp) (hr : Room k X.A) (hg : Gl X x) (hx : Passes CX X E) (ha : PA X (e :: es) t)
    (hdb : (x == ("__debug__" : Str)) = false := by decide) (he : starEach (e :: es) X.env = (false, eval e X.env) :: starEach es X.env := by rfl) (hpl : (backTo pos (starEach es X.env)).any (·.1) = false := by rfl) :
    PET X (.Call (.Name x p) (e :: es) [] pos) (tCall sp [] E t) := by
  obtain ⟨f, fd, F, hm, hk, hb⟩ := F.ex
  intro pins s σ H Q h0 I h
  refine wpAny_Call_Name_kw (ld_glob I hg hm ?_ hdb)
  refine PySem.W.callWith_K (h₀ := X.base) I.ok.mod.kin hk (wpAny_mono (PySem.wpAny_toks (ha.run pos pins s σ H _ I h)) (fun us s1 q => ?_) fun _ _ z => z.2) he hpl
  obtain ⟨hk1, vs, H1, I1, r, h⟩ := q
  refine ⟨I1.kIn, ?_⟩
  have r2 : Vals (vs ++ []) (us ++ []) := r.append .nil
  have hl : (us ++ []).length = ps.length := by rw [← r2.length]; exact F.len _ _ _ _ h
  refine wpAny_call (codeAny_mono (F.run X.A X.stack s1 H1 ⟨us, []⟩ (us ++ []) (vs ++ []) Q E (Nat.le_trans h0 hk1) hr I1.env0 (hb s1 us I1.kIn hl) r2 h) fun r s' hq => ?_)
  cases r with
  | error e => exact hx pins σ H1 s1 e s' I1 hq
  | ok fl =>
    cases fl with
    | ret u => exact I1.after hq
    | next => exact False.elim hq
    | brk => exact False.elim hq
    | cont => exact False.elim hq
theorem pst_setP {i : Nat} {x : Str} {e : Expr} {te : TE} {pos' pos : Pos} (hN : X.N.Nodup) (hi : X.N[i]? = some x) (hx : Loc X.env.scope x) (he : PET X e te) (hs : swapsWith e (some (.Name x pos')) pos.line X.env = pure false := by rfl) (hf : X.fn x = true ∨ X.env.scope.names.lookup x = some .local := by first | exact .inl rfl | exact .inr rfl | assumption) :
    PST X (.Assign [.Name x pos'] e pos) (tAsg te (gName i)) := by
  intro pins s σ H D h0 I h
  refine wpAny_Assign_Name (thn (he pins s σ H _ h0 I h) fun v s1 ⟨y, H1, I1, r1, q1⟩ => ?_) hs
  exact store_ok I1 hN hi hx r1 (fun s2 I2 => ⟨_, H1, I2, q1⟩) hf
/-- a block where a token is out -/
structure PSk (X : Cx) (st : List Stmt) (t : TS) : Prop where
  h : PSsT X st t
theorem psk_cons {st : Stmt} {rest : List Stmt} {t u : TS} (h1 : PS X st t) (h2 : PSk X rest u) : PSk X (st :: rest) (tSeq t u) := ⟨psst_cons (PST.of h1) h2.h⟩
theorem psk_pst {st : Stmt} {rest : List Stmt} {t u : TS} (h1 : PST X st t) (h2 : PSk X rest u) : PSk X (st :: rest) (tSeq t u) := ⟨psst_cons h1 h2.h⟩
theorem psk_of {rest : List Stmt} {u : TS} (h2 : PSs X rest u) : PSk X rest u := ⟨PSsT.of h2⟩
theorem psk_set {i : Nat} {x : Str} {e : Expr} {te : TE} {rest : List Stmt} {u : TS} {pos' pos : Pos} (hN : X.N.Nodup) (hi : X.N[i]? = some x) (hk : X.env.kindOf x = some .local) (he : PE X e te) (h2 : PSk X rest u) (hs : swapsWith e (some (.Name x pos')) pos.line X.env = pure false := by rfl) :
    PSs X (.Assign [.Name x pos'] e pos :: rest) (tSeq (tAsg te (gName i)) u) := pss_setT hN hi hk he h2.h hs
theorem psk_given {rest : List Stmt} {u : TS} (h : PSk X rest u) : PSsT X rest u := h.h
end

/-! ### k05: _law_tokens -/
abbrev sLTk : Stmt := topS 37
abbrev NLTk : List Str := ["_law_text_here", "_law_spaced", "_law_sign", "_law_word"]
abbrev PLTk : List Str := ["_law_text_here"]
theorem scLTk : FnScope NLTk PLTk (defScope sLTk) := ⟨rfl, rfl, rfl, by decide +kernel, rfl, by decide +kernel, by decide +kernel⟩
theorem stW_at {i j : Nat} {σ : L2.St} {z : Str} (h : j < σ.length) {k : Nat} : (stW i j σ z (k + 1))[j]? = some (some (.str (wT z (k + 1)))) := by
  have hl : ∀ k, (stW i j σ z k).length = σ.length := fun k => by
    induction k with
    | zero => rfl
    | succ k ih =>
      show ((stW i j σ z k).set _ _ |>.set _ _).length = _
      rw [List.length_set, List.length_set, ih]
  show ((stW i j σ z k).set i (some (.str (sgOf k))) |>.set j (some (.str (wT z (k + 1)))))[j]? = _
  exact List.getElem?_set_self (by rw [List.length_set, hl]; exact h)
theorem stW_len {i j : Nat} {σ : L2.St} {z : Str} : ∀ k, (stW i j σ z k).length = σ.length
  | 0 => rfl
  | k + 1 => by
    show ((stW i j σ z k).set _ _ |>.set _ _).length = _
    rw [List.length_set, List.length_set, stW_len k]
theorem stW_4 (a b c d : Option V) (z : Str) : ∀ k, stW 2 1 [a, b, c, d] z (k + 1) = [a, some (.str (wT z (k + 1))), some (.str (sgOf k)), d]
  | 0 => rfl
  | k + 1 => by
    show ((stW 2 1 [a, b, c, d] z (k + 1)).set 2 _).set 1 _ = _
    rw [stW_4 a b c d z k]
    rfl
theorem blank_tl (z : Str) : TL.tl (Txt.replace z "\n" " ") = (TL.tl z).map f10 := by
  have l1 : ("\n" : Str).length = 1 := by decide +kernel
  have e : TL.tl (Txt.replace z "\n" " ") = PySem.StrLaws.replL (TL.tl ("\n" : Str)) (TL.tl (" " : Str)) (TL.tl z) := PySem.StrLaws.replace_list (by rw [l1]; exact Nat.le_refl _)
  rw [e, show TL.tl ("\n" : Str) = [10] by decide +kernel, show TL.tl (" " : Str) = [32] by decide +kernel, replL_one]
  generalize TL.tl z = l
  induction l with
  | nil => rfl
  | cons c r ih =>
    rw [List.flatMap_cons, ih, List.map_cons]
    unfold f10
    by_cases h : c = 10
    · rw [if_pos h, if_pos h]; rfl
    · rw [if_neg h, if_neg h]; rfl
theorem blank_len (z : Str) : (Txt.replace z "\n" " ").length = z.length := by
  rw [TL.len_tl, blank_tl, List.length_map, TL.len_tl]
/-- the words of the spaced text -/
theorem words_of {z : Str} {sh : SH} (h : Tkw (TL.tl z) sh) : ∃ s0, sh = s0 ++ [endH] ∧ (∀ y ∈ s0, TokG y) ∧ (Txt.split (wT (Txt.replace z "\n" " ") 11) " ").filter (fun x => !(TL.tl x).isEmpty) = s0.map Prod.snd := by
  obtain ⟨s0, e, g, k⟩ := tkw_words h
  refine ⟨s0, e, g, TL.map_tl_inj ?_⟩
  have sp : (Txt.split (wT (Txt.replace z "\n" " ") 11) " ").map TL.tl = TL.spl [32] 0 [] (spF (TL.tl z)) := by
    have e32 : TL.tl (" " : Str) = [32] := by decide +kernel
    rw [TL.split_spl _ _ (by rw [e32]; simp) (TL.kind_ok (by decide +kernel)), e32, tl_wT, blank_tl]
    rfl
  rw [List.map_map]
  have : ∀ l : List Str, (l.filter fun x => !(TL.tl x).isEmpty).map TL.tl = (l.map TL.tl).filter fun w => !w.isEmpty := fun l => by
    induction l with
    | nil => rfl
    | cons a r ih =>
      rw [List.filter_cons, List.map_cons, List.filter_cons]
      by_cases q : (!(TL.tl a).isEmpty) = true
      · rw [if_pos q, if_pos q, List.map_cons, ih]
      · rw [if_neg q, if_neg q, ih]
  rw [this, sp]
  exact k
def spLTk : Sp := fun vs H Q _ => ∃ (z : Str) (sh : SH), vs = [.str z] ∧ z.length ≤ 200000 ∧ Tkw (TL.tl z) sh ∧ ∀ s0, sh = s0 ++ [endH] → (∀ y ∈ s0, TokG y) → ∀ (L : Addr) (H' : Hp), Same H H' → H L = none → H' L = some (.lst (s0.map fun y => V.str y.2)) → Q (.ref L) H'
section
variable {P : Program} {w : World} {K : PySem.W.Frag} {mg : Str → Option Value} {base : Heap}
theorem ok_LTk {f : Addr} {fd : FuncData} (F : Fun K "_law_tokens" "_law_tokens" sLTk f fd) : FnOkT P w K mg base CX0 1 f fd PLTk spLTk := by
  refine fun_okT F scLTk (fun vs H Q E h => ?_) (fun cdv A outer s H vs Q E hr h => ?_)
  · obtain ⟨z, sh, rfl, _⟩ := h
    rfl
  · obtain ⟨z, sh, rfl, hz, ht, k⟩ := h
    refine ⟨_, (psk_given (psk_pst (pst_setP (i := 1) scLTk.nd rfl (Or.inl rfl) (pet_replN (pv 0)))
  (psk_of (pss_cons (ps_wide (i := 2) (j := 1) scLTk.nd rfl rfl (by decide) rfl rfl (.inl rfl) rfl PassesOwn.never)
  (pss_one (ps_ret (pe_lc (own := [("_law_word", 3)]) (g := gName 3) rfl scLTk.nd (pi_list (pe_split (pv 1) pe_str)) (blkOk_by (own := [("_law_word", 3)]) (N := NLTk) (sc := (defScope sLTk)) (by decide +kernel)) (fun _ _ _ _ _ => (pg_name (i := 3) scLTk.nd rfl (Or.inl rfl))) (fun _ _ _ _ _ => (pts_one (pt_cmpR op_ne (pv 3) pe_str (nomark _)))) (fun _ _ _ _ _ => (pv 3))))))))), ?_⟩
    have e24 : sizeLine = 2 ^ 24 := rfl
    have l1 : (" " : Str).length = 1 := by decide +kernel
    have hb := blank_len z
    refine ⟨_, rfl, z, rfl, by rw [l1]; omega, _, rfl, by rw [hb]; exact hz, ?_⟩
    generalize hz1 : Txt.replace z "\n" " " = z1 at *
    have eσ : stW 2 1 (List.set (L2.start NLTk [V.str z]) 1 (some (V.str z1))) z1 11 = [some (.str z), some (.str (wT z1 11)), some (.str (sgOf 10)), none] := stW_4 (some (.str z)) (some (.str z1)) none none z1 10
    rw [eσ]
    obtain ⟨s0, es, g, wd⟩ := words_of ht
    rw [hz1] at wd
    have k := k s0 es g
    have bl := wT_len z1 11
    generalize wT z1 11 = z2 at *
    have ly : (Txt.split z2 " ").length ≤ z2.length + 2 := PyProof.Rows.split_le _ _
    generalize hys : Txt.split z2 " " = ys at *
    refine ⟨_, rfl, ⟨_, rfl⟩, _, _, rfl, rfl, by decide +kernel, by omega, fun p new => ?_⟩
    rw [hys]
    have s1 := same_new (o := .lst (ys.map V.str)) new
    have ep : upd H p (.lst (ys.map V.str)) p = some (.lst (ys.map V.str)) := upd_same
    generalize upd H p (.lst (ys.map V.str)) = H1 at *
    refine ⟨p, rfl, ⟨_, SqL.of ep⟩, fun D hD => ?_⟩
    have fl : ∀ i, ((ys.take i).filter fun x => !(TL.tl x).isEmpty).length ≤ ys.length := fun i => Nat.le_trans (List.length_filter_le _ _) (by rw [List.length_take]; omega)
    refine lc_it (walk_list (K := K) (a := p) (xs := ys.map V.str)) (fun i H' => Same H1 H' ∧ H' D = some (.lst (((ys.take i).filter fun x => !(TL.tl x).isEmpty).map V.str))) ⟨same_new hD, upd_same⟩ (fun i H' _ h' => SqL.of (h'.1 _ _ ep)) ?_ ?_
    · rintro i x H2 H3 hi ⟨s2, e2⟩ ⟨rfl, hx⟩
      rw [List.getElem?_map] at hx
      obtain ⟨y, hy, rfl⟩ : ∃ y, ys[i]? = some y ∧ x = V.str y := by
        cases q : ys[i]? with
        | none => rw [q] at hx; cases hx
        | some y => rw [q] at hx; exact ⟨y, rfl, (Option.some.inj hx).symm⟩
      rw [take_snoc hy, List.filter_append]
      refine ⟨rfl, _, rfl, rfl, _, rfl, ?_⟩
      have fi := fl i
      by_cases q : y = ""
      · have e : (TL.tl y).isEmpty = true := by rw [q]; decide +kernel
        have ef : ([y] : List Str).filter (fun x => !(TL.tl x).isEmpty) = [] := by rw [List.filter_cons, if_neg (by rw [e]; decide)]; rfl
        rw [ef, List.append_nil]
        refine iteE (by rw [q, decide_eq_true rfl]; rfl) ⟨s2, e2⟩
      · have e : (TL.tl y).isEmpty = false := by
          cases h : TL.tl y with
          | nil => exact absurd (TL.ext_tl (h.trans (by decide +kernel))) q
          | cons _ _ => rfl
        have ef : ([y] : List Str).filter (fun x => !(TL.tl x).isEmpty) = [y] := by rw [List.filter_cons, if_pos (by rw [e]; rfl)]; rfl
        rw [ef]
        refine iteS (by rw [decide_eq_false fun z => q (V.str.inj z)]; rfl) ?_
        refine ⟨_, rfl, _, e2, ?_, fun b o z => ?_, ?_⟩
        · rw [List.length_map]; omega
        · rw [upd_ne (ne_of_none z hD)]; exact s2 _ _ z
        · rw [upd_same, List.map_append]; rfl
    · rintro H2 ⟨s2, e2⟩
      rw [show (ys.map V.str).length = ys.length from List.length_map .., List.take_length, wd, List.map_map] at e2
      exact k D H2 (s1.trans s2) (none_same s1 hD) e2
end

/-! ### e.f in a suite that takes several classes -/
def tXfG (K : PySem.W.Frag) (a : Addr) (cls : Value) (d : Option Addr) (f : Str) (te : TE) : TE := fun σ H Q => te σ H fun x H1 => x = .ref a ∧ ∃ (C dd : Addr) (fs : List (Str × V)) (v : V), cls = .ref C ∧ XfC K C ∧ PySem.W.findIn K (.ref C) f = some none ∧ d = some dd ∧ H1 dd = some (.xd fs) ∧ fs.lookup f = some v ∧ Q v H1
theorem pe_xfG {X : Cx} {a : Addr} {oe : Obj} {cls : Value} {d : Option Addr} {pn : List (Addr × Obj)} {e : Expr} {te : TE} {pos : Pos} {n : Str} (hz : L2N.Zn cls d oe) (hf : ∃ vs, oe.data = .fields vs) (he : PE (X.suite a ((a, oe) :: pn)) e te)
    (hb : attributeBase e n X.env (eval e X.env) = eval e X.env := by rfl) : PE (X.suite a ((a, oe) :: pn)) (.Attribute e n pos) (tXfG X.K a cls d n te) := by
  refine ⟨fun pins s σ H Q I h => attr_of hb (thn (he.run pins s σ H _ I h) fun u s1 ⟨x, H1, I1, rx, ex, C, dd, fs, v, ec, T, hno, ed, ea, l, q⟩ => ?_)⟩
  subst ex ec ed
  obtain rfl : u = Value.ref a := rx
  obtain ⟨vs, hd⟩ := hf
  obtain ⟨mA, hns, hr⟩ := (show ObjOk X.prog X.w H1 s1.heap dd (.xd fs) from I1.hok dd _ ea)
  obtain ⟨od, ho, hl⟩ := lookIn_ns hns
  obtain ⟨u, hu, ru⟩ := RelO.some_of (v := v) (o := mA n) (by rw [← l]; exact hr n)
  exact HandSPX.exc_get I1.kIn ⟨(I1.pin (a, oe) (List.mem_append_left _ List.mem_cons_self)).1, hz.1, by unfold PySem.W.notCls; rw [hd] <;> rfl, by rw [hz.2.1]; exact ho⟩ T.ga T.gg T.exC (PySem.W.findObj_own T.hdC hno rfl (by rw [hl, hu])) (handed_of ru) ⟨v, H1, I1.tok _, ru, q⟩
theorem HasX.mg {P : Program} {w : World} {K : PySem.W.Frag} {mg : Str → Option Value} {base : Heap} {k : Nat} {x : Str} {C : Addr} {f : Str} (h : HasX P w K mg base k x C f) : mg x = some (.ref C) := by
  obtain ⟨_, _, _, _, _, _, _, m, _⟩ := h.ex
  exact m

theorem exm_one {K : PySem.W.Frag} {cls c : Value} {b : Bool} (h : PySem.W.exmOne K cls c = some b) : PySem.W.exmAny K cls [c] = some b := by
  unfold PySem.W.exmAny
  rw [h]
  cases b <;> rfl

/-! ### k05: _law_told, _law_nested -/
abbrev sLTd : Stmt := topS 38
abbrev NLTd : List Str := ["_law_value", "e"]
abbrev PLTd : List Str := ["_law_value"]
theorem scLTd : FnScope NLTd PLTd (defScope sLTd) := ⟨rfl, rfl, rfl, by decide +kernel, rfl, by decide +kernel, by decide +kernel⟩
abbrev sLNs : Stmt := topS 39
abbrev NLNs : List Str := ["_law_count"]
abbrev PLNs : List Str := ["_law_count"]
theorem scLNs : FnScope NLNs PLNs (defScope sLNs) := ⟨rfl, rfl, rfl, by decide +kernel, rfl, by decide +kernel, by decide +kernel⟩
theorem passAllN {X : Cx} {W : WX} {n : Nat} (hn : X.N.length = n) (tk : L2N.Takes X W) : Passes (L2N.CX X.prog X.w) X (fun cls d H => ∀ σ : L2.St, σ.length = n → W cls d σ H) := fun pins σ H s e s' I c => by
  obtain ⟨a, B, H', cls, d, h1, h2, h3, h4, h5, h6, h7, h8⟩ := c
  exact L2N.passAt tk σ pins H s e s' I ⟨a, B, H', cls, d, h1, h2, h3, h4, h5, h6, h7, h8 σ (I.len.trans hn)⟩
structure ErrN (K : PySem.W.Frag) (mg : Str → Option Value) (C' : Nat → Addr) (CE : Addr) : Prop where
  mE : mg "ProgramError" = some (.ref CE)
  ss : PySem.W.exmOne K (.ref (C' 1)) (.ref (C' 1)) = some true
  ts : PySem.W.exmOne K (.ref (C' 2)) (.ref (C' 1)) = some false
  vs : PySem.W.exmOne K (.ref (C' 0)) (.ref (C' 1)) = some false
  tt : PySem.W.exmOne K (.ref (C' 2)) (.ref (C' 2)) = some true
  vt : PySem.W.exmOne K (.ref (C' 0)) (.ref (C' 2)) = some false
  vv : PySem.W.exmOne K (.ref (C' 0)) (.ref (C' 0)) = some true
  xS : XfC K (C' 1)
  fS : PySem.W.findIn K (.ref (C' 1)) "position" = some none
  xT : XfC K (C' 2)
  fT : PySem.W.findIn K (.ref (C' 2)) "word" = some none
  xV : XfC K (C' 0)
  fV : PySem.W.findIn K (.ref (C' 0)) "value" = some none
def toldD : RdR → PyData
  | .ok _ => .tuple [.str "fine", .int 0]
  | .error (.syn p) => .tuple [.str "syntax", .int (p : Nat)]
  | .error (.large w) => .tuple [.str "large", .str w]
def spLTd (K : PySem.W.Frag) : Sp := fun vs H Q _ => ∃ v : V, vs = [v] ∧ ((∃ (z : Str) (ts : Tl), v = .str z ∧ z.length ≤ 1000000 ∧ Tkz (TL.tl z) 0 ts ∧ TsOk ts ∧ ∀ (u : V) (H' : Hp), Same H H' → Dp K H' u (toldD (rProgram ts)) → Q u H') ∨
  (NoStr K H v ∧ ∀ (b : Addr) (H' : Hp), Same H H' → H b = none → H' b = some (.tup [.str "text", v]) → Q (.ref b) H'))
section
variable {P : Program} {w : World} {K : PySem.W.Frag} {mg : Str → Option Value} {base : Heap} {C CE : Addr} {C' : Nat → Addr}
theorem ok_LTd {f : Addr} {fd : FuncData} (F : Fun K "_law_told" "_law_told" sLTd f fd) (X : ErrH P w K mg base C') (M : ErrN K mg C' CE) (GP : Has P w K mg base (L2N.CX P w) (9 + 3 * 30 + 1 + 1 + 1) "parse" PParse (spParseG K (C' 1) (C' 2) (C' 0))) :
    FnOk P w K mg base CX0 (9 + 3 * 30 + 1 + 1 + 1 + 1) f fd PLTd (spLTd K) := by
  refine F.ok scLTd (fun vs H Q E h => ?_) (fun cdv A outer s H vs Q E hr h => ?_)
  · obtain ⟨v, rfl, _⟩ := h
    rfl
  · obtain ⟨v, rfl, h⟩ := h
    refine ⟨_, (pss_cons (ps_tryX (Wout := fun _ _ _ _ => False) rfl rfl scLTd.nd (fun _ _ x => by obtain ⟨_, _, _, _, _, _, _, _, _, _, _, _, _, _, _, _, z⟩ := x; exact z) (fun W pn xe tk _ => pss_one (ps_expr (pe_callH GP hr rfl (passAllN (n := 2) rfl tk) (pa_cons (pv 0) pa_nil))))
 (.named (i := 1) (.one ⟨rfl, by decide, .inl X.h1.mg⟩) rfl rfl (fun a oe cls d pn hz hf => pss_one (ps_ret (pe_tup (pa_cons pe_str (pa_cons (pe_xfG hz hf (pv 1)) pa_nil)))))
 (.named (i := 1) (.one ⟨rfl, by decide, .inl X.h2.mg⟩) rfl rfl (fun a oe cls d pn hz hf => pss_one (ps_ret (pe_tup (pa_cons pe_str (pa_cons (pe_xfG hz hf (pv 1)) pa_nil)))))
 (.named (i := 1) (.one ⟨rfl, by decide, .inl X.h0.mg⟩) rfl rfl (fun a oe cls d pn hz hf => pss_one (ps_ret (pe_tup (pa_cons pe_str (pa_cons (pe_xfG hz hf (pv 1)) pa_nil)))))
 (.only (.one ⟨rfl, by decide, .inl M.mE⟩) (fun a oe cls d pn hz hf => pss_one (ps_ret (pe_tup (pa_cons pe_str (pa_cons pe_int pa_nil))))) .nil)))))
  (pss_one (ps_ret (pe_tup (pa_cons pe_str (pa_cons pe_int pa_nil)))))), ?_⟩
    have look : ∀ (n : Str) (v : V), ([(n, v)] : List (Str × V)).lookup n = some v := fun n v => by simp [List.lookup]
    rcases h with ⟨z, ts, rfl, hz, ht, ho, k⟩ | ⟨ns, k⟩
    · refine ⟨_, rfl, _, rfl, .inl ⟨z, ts, rfl, hz, ht, ho, fun l' e x H1 s1 => ?_, fun e he => ?_⟩⟩
      · rw [e] at k
        exact ⟨(by show 2 ≤ sizeLine; decide), fun p hp => k _ _ (s1.trans (same_new hp)) (.tup (SqT.of upd_same) (.cons (.str _) (.cons (.int _) .nil)))⟩
      · rw [he] at k
        cases e with
        | syn q =>
          intro d H1 s1 hd σ hl
          have s9 := s1.trans (same_new (o := .xd [("position", .int (q : Nat))]) hd)
          have e9 : upd H1 d (.xd [("position", .int (q : Nat))]) d = some (.xd [("position", .int (q : Nat))]) := upd_same
          refine ⟨true, exm_one M.ss, fun _ a' na => ?_, fun z => nomatch z⟩
          exact ⟨_, List.getElem?_set_self (by omega), rfl, C' 1, d, _, _, rfl, M.xS, M.fS, rfl, e9, look _ _, (by show 2 ≤ sizeLine; decide), fun b hb => k _ _ (s9.trans (same_new hb)) (.tup (SqT.of upd_same) (.cons (.str _) (.cons (.int _) .nil)))⟩
        | large q =>
          intro d H1 s1 hd σ hl
          have s9 := s1.trans (same_new (o := .xd [("word", .str q)]) hd)
          have e9 : upd H1 d (.xd [("word", .str q)]) d = some (.xd [("word", .str q)]) := upd_same
          refine ⟨false, exm_one M.ts, (fun z => nomatch z), fun _ => ⟨true, exm_one M.tt, fun _ a' na => ?_, fun z => nomatch z⟩⟩
          exact ⟨_, List.getElem?_set_self (by omega), rfl, C' 2, d, _, _, rfl, M.xT, M.fT, rfl, e9, look _ _, (by show 2 ≤ sizeLine; decide), fun b hb => k _ _ (s9.trans (same_new hb)) (.tup (SqT.of upd_same) (.cons (.str _) (.cons (.str _) .nil)))⟩
    · refine ⟨_, rfl, _, rfl, .inr ⟨ns, fun d H1 s1 hd σ hl => ?_⟩⟩
      have s9 := s1.trans (same_new (o := .xd [("value", v)]) hd)
      have e9 : upd H1 d (.xd [("value", v)]) d = some (.xd [("value", v)]) := upd_same
      refine ⟨false, exm_one M.vs, (fun z => nomatch z), fun _ => ⟨false, exm_one M.vt, (fun z => nomatch z), fun _ => ⟨true, exm_one M.vv, fun _ a' na => ?_, fun z => nomatch z⟩⟩⟩
      exact ⟨_, List.getElem?_set_self (by omega), rfl, C' 0, d, _, _, rfl, M.xV, M.fV, rfl, e9, look _ _, (by show 2 ≤ sizeLine; decide), fun b hb => k _ _ (s9.trans (same_new hb)) (none_same s9 hb) upd_same⟩


end

/-! ### k05: texts times a number; written texts and their tokens -/
def repZ (n : Nat) (z : Str) : Str := ⟨(List.replicate n (TL.tl z)).flatten.toArray⟩
theorem tl_repZ (n : Nat) (z : Str) : TL.tl (repZ n z) = (List.replicate n (TL.tl z)).flatten := rfl
theorem len_repZ (n : Nat) (z : Str) : (repZ n z).length = n * z.length := by
  rw [TL.len_tl, tl_repZ, TL.len_tl]
  induction n with
  | zero => simp
  | succ n ih => rw [List.replicate_succ, List.flatten_cons, List.length_append, ih]; rw [Nat.succ_mul]; omega
theorem fold_repZ (c : Array Nat) : ∀ (n : Nat) (acc : Array Nat), (List.replicate n c).foldl (· ++ ·) acc = acc ++ (List.replicate n c.toList).flatten.toArray
  | 0, acc => by simp
  | n + 1, acc => by
    rw [List.replicate_succ, List.foldl_cons, fold_repZ c n, List.replicate_succ]
    apply Array.ext'
    simp
theorem op_repM {X : Cx} : OpR X (binaryOp .Mult) (fun x y H Q => ∃ (z : Str) (n : Nat), x = .str z ∧ y = .int (n : Nat) ∧ 1 ≤ z.length ∧ n * z.length ≤ 1000000 ∧ Q (.str (repZ n z)) H) := by
  intro pins s σ H x y v u Q I rx ry h
  obtain ⟨c, n, rfl, rfl, hc, hn, q⟩ := h
  obtain ⟨t, rfl⟩ := rx
  obtain ⟨t', rfl⟩ := ry
  have nn : n ≤ n * c.length := Nat.le_mul_of_pos_right n hc
  refine P.mul_str (by rw [decide_eq_false (by omega), decide_eq_false (by omega)]; rfl) (fun h1 h2 => ?_) (fun h1 h2 => ?_) ?_
  · have n1 : 1 ≤ n := by omega
    have cl : c.length ≤ n * c.length := Nat.le_mul_of_pos_left _ n1
    have : (c.length : Int) ≤ (2 ^ 63 - 1) / (n : Int) := by
      rw [Int.le_ediv_iff_mul_le (by omega)]
      have : (c.length : Int) * (n : Int) = ((n * c.length : Nat) : Int) := by rw [Int.natCast_mul, Int.mul_comm]
      omega
    omega
  · unfold Builtin.Str.tooLong
    refine decide_eq_false ?_
    rw [Int.toNat_natCast, Nat.mul_comm]
    show ¬ n * c.length > 2 ^ 24
    omega
  · rcases Nat.lt_or_ge n 1 with h0 | h0
    · have en : n = 0 := by omega
      subst en
      rw [if_pos (by decide)]
      exact ⟨by decide, .str _, H, I.tok _, ⟨_, rfl⟩, q⟩
    · rw [if_neg (by omega)]
      rcases Nat.lt_or_ge n 2 with h1 | h1
      · have en : n = 1 := by omega
        subst en
        rw [if_pos (show (((1 : Nat) : Int) == 1 || _) = true from rfl)]
        have e : repZ 1 c = c := TL.ext_tl (by rw [tl_repZ]; simp)
        rw [e] at q
        exact ⟨.str _, H, I, ⟨_, rfl⟩, q⟩
      · have e2 : (((n : Nat) : Int) == 1 || c.length == 0) = false := by
          have : (((n : Nat) : Int) == 1) = false := by rw [beq_eq_false_iff_ne]; omega
          have h2 : (c.length == 0) = false := by rw [beq_eq_false_iff_ne]; omega
          rw [this, h2]
          rfl
        rw [if_neg (by rw [e2]; decide), Int.toNat_natCast]
        have e3 : (⟨(List.replicate n c.cps).foldl (· ++ ·) #[]⟩ : Str) = repZ n c := by
          unfold repZ
          rw [fold_repZ, Array.empty_append]
        rw [e3]
        refine ⟨?_, .str _, H, I.tok _, ⟨_, rfl⟩, q⟩
        have := len_repZ n c
        show (repZ n c).length ≤ 2 ^ 24
        omega
/-! written texts, token by token -/
inductive Pc
  | gap
  | tok (y : Str × Str)
def sgB (y : Str × Str) : Bool := SIG.cps.toList.any fun c => decide (y = (("mark", ⟨#[c]⟩) : Str × Str))
def wdB (y : Str × Str) : Bool := !(TL.tl y.2).isEmpty && (TL.tl y.2).all al && decide (kindOf y.2 = y.1) && decide (y.1 ≠ "bad")
theorem tokG_sg {y : Str × Str} (h : sgB y = true) : TokG y := by
  obtain ⟨c, hc, e⟩ := List.any_eq_true.mp h
  exact .inl ⟨c, hc, of_decide_eq_true e⟩
theorem tokG_wd {y : Str × Str} (h : wdB y = true) : TokG y := by
  unfold wdB at h
  simp only [Bool.and_eq_true, decide_eq_true_eq, Bool.not_eq_true'] at h
  refine .inr ⟨fun e => ?_, fun c hc => List.all_eq_true.mp h.1.1.2 c hc, h.1.2, h.2⟩
  have := h.1.1.1
  rw [e] at this
  cases this
def pcT : List Pc → List Nat
  | [] => []
  | .gap :: r => 32 :: pcT r
  | .tok y :: r => TL.tl y.2 ++ pcT r
def pcK : Nat → List Pc → Tl
  | _, [] => []
  | p, .gap :: r => pcK (p + 1) r
  | p, .tok y :: r => (y.1, y.2, p) :: pcK (p + y.2.length) r
/-- a word has a sign or a blank behind it -/
def hdB : List Pc → Bool
  | .gap :: _ => true
  | .tok z :: _ => sgB z
  | [] => false
def pcB : List Pc → Bool
  | [] => true
  | .gap :: r => pcB r
  | .tok y :: r => (sgB y || (wdB y && hdB r)) && pcB r
theorem pcB_cons {y : Str × Str} {l : List Pc} (h : sgB y = true ∨ (wdB y = true ∧ hdB l = true)) (k : pcB l = true) : pcB (.tok y :: l) = true := by
  show ((sgB y || (wdB y && hdB l)) && pcB l) = true
  rw [k, Bool.and_true, Bool.or_eq_true, Bool.and_eq_true]
  exact h
theorem sg_al {y : Str × Str} (h : sgB y = true) (t : List Nat) : NoAl (TL.tl y.2 ++ t) := by
  obtain ⟨c, hc, e⟩ := List.any_eq_true.mp h
  have e := of_decide_eq_true e
  subst e
  exact NoAl.cons (sig_al hc)
theorem pc_tk : ∀ (l : List Pc) (p : Nat) (t : List Nat) (ts : Tl), pcB l = true → Tkp (p + (pcT l).length) t ts → Tkp p (pcT l ++ t) (pcK p l ++ ts)
  | [], _, _, _, _, r => r
  | .gap :: l, p, t, ts, h, r => by
    refine .gap (.inl rfl) (pc_tk l (p + 1) t ts h ?_)
    have : p + 1 + (pcT l).length = p + (pcT (.gap :: l)).length := by show _ = p + ((pcT l).length + 1); omega
    rw [this]
    exact r
  | .tok y :: l, p, t, ts, h, r => by
    have h : ((sgB y || (wdB y && hdB l)) && pcB l) = true := h
    rw [Bool.and_eq_true, Bool.or_eq_true, Bool.and_eq_true] at h
    have ih : Tkp (p + y.2.length) (pcT l ++ t) (pcK (p + y.2.length) l ++ ts) := by
      refine pc_tk l _ t ts h.2 ?_
      have : p + y.2.length + (pcT l).length = p + (pcT (.tok y :: l)).length := by
        show _ = p + (TL.tl y.2 ++ pcT l).length
        rw [List.length_append, TL.len_tl]; omega
      rw [this]
      exact r
    show Tkp p ((TL.tl y.2 ++ pcT l) ++ t) ((y.1, y.2, p) :: (pcK (p + y.2.length) l ++ ts))
    rw [List.append_assoc]
    rcases h.1 with q | ⟨q1, q2⟩
    · obtain ⟨c, hc, e⟩ := List.any_eq_true.mp q
      have e := of_decide_eq_true e
      subst e
      exact .sign hc ih
    · refine tok_put (tokG_wd q1) ?_ ih
      cases l with
      | nil => cases q2
      | cons x l =>
        cases x with
        | gap => exact noAl_gap
        | tok z =>
          show NoAl ((TL.tl z.2 ++ pcT l) ++ t)
          rw [List.append_assoc]
          exact sg_al q2 _
/-- the same piece n times -/
def pcN (l : List Pc) : Nat → List Pc
  | 0 => []
  | n + 1 => l ++ pcN l n
theorem pcT_app : ∀ l r : List Pc, pcT (l ++ r) = pcT l ++ pcT r
  | [], _ => rfl
  | .gap :: l, r => by show 32 :: pcT (l ++ r) = _; rw [pcT_app l r]; rfl
  | .tok y :: l, r => by show TL.tl y.2 ++ pcT (l ++ r) = (TL.tl y.2 ++ pcT l) ++ pcT r; rw [pcT_app l r, List.append_assoc]
theorem pcT_N (l : List Pc) {z : Str} (h : pcT l = TL.tl z) : ∀ n, pcT (pcN l n) = TL.tl (repZ n z)
  | 0 => rfl
  | n + 1 => by
    show pcT (l ++ pcN l n) = _
    rw [pcT_app, pcT_N l h n, h, tl_repZ, tl_repZ, List.replicate_succ, List.flatten_cons]
abbrev DEFQ : List Pc := [.tok (mk "def"), .gap, .tok (nme "q"), .tok (mk "("), .tok (mk ")"), .tok (mk "{")]
abbrev IFB : List Pc := [.tok (mk "if"), .tok (mk "{")]
theorem defq_t : pcT DEFQ = TL.tl "def q(){" := by decide +kernel
theorem ifb_t : pcT IFB = TL.tl "if{" := by decide +kernel
theorem pcK_app : ∀ (l r : List Pc) (p : Nat), pcK p (l ++ r) = pcK p l ++ pcK (p + (pcT l).length) r
  | [], _, _ => rfl
  | .gap :: l, r, p => by
    show pcK (p + 1) (l ++ r) = pcK (p + 1) l ++ pcK (p + ((pcT l).length + 1)) r
    rw [pcK_app l r, show p + 1 + (pcT l).length = p + ((pcT l).length + 1) by omega]
  | .tok y :: l, r, p => by
    show (y.1, y.2, p) :: pcK (p + y.2.length) (l ++ r) = (y.1, y.2, p) :: (pcK (p + y.2.length) l ++ pcK (p + (TL.tl y.2 ++ pcT l).length) r)
    rw [pcK_app l r, List.length_append, ← TL.len_tl, show p + y.2.length + (pcT l).length = p + (y.2.length + (pcT l).length) by omega]
theorem pcB_if {r : List Pc} (h : pcB r = true) : pcB (IFB ++ r) = true := pcB_cons (.inr ⟨by decide +kernel, (by decide +kernel : sgB (mk "{") = true)⟩) (pcB_cons (.inl (by decide +kernel)) h)
theorem pcB_ifs : ∀ n, pcB (pcN IFB n) = true
  | 0 => rfl
  | n + 1 => pcB_if (pcB_ifs n)
/-- a function's head, n heads of if -/
abbrev nestP (n : Nat) : List Pc := DEFQ ++ pcN IFB n
theorem pcB_nest (n : Nat) : pcB (nestP n) = true := by
  have h := pcB_ifs n
  have g : pcB (.tok (nme "q") :: .tok (mk "(") :: .tok (mk ")") :: .tok (mk "{") :: pcN IFB n) = true := pcB_cons (.inr ⟨by decide +kernel, (by decide +kernel : sgB (mk "(") = true)⟩) (pcB_cons (.inl (by decide +kernel)) (pcB_cons (.inl (by decide +kernel)) (pcB_cons (.inl (by decide +kernel)) h)))
  exact pcB_cons (l := .gap :: .tok (nme "q") :: .tok (mk "(") :: .tok (mk ")") :: .tok (mk "{") :: pcN IFB n) (.inr ⟨by decide +kernel, rfl⟩) g
/-! what the Reader makes of them -/
theorem blk_if {m : Nat} {a b : Nat} {l : Tl} {e : RdE} (h : rBlock m l = .error e) : rBlock (m + 1) (("mark", "{", a) :: ("mark", "if", b) :: l) = .error e := by
  have s0 : shOf ((("mark", "{", a) : TK) :: ("mark", "if", b) :: l) = mk "{" :: mk "if" :: shOf l := rfl
  have s1 : shOf ((("mark", "if", b) : TK) :: l) = mk "if" :: shOf l := rfl
  show andR (rExp "{" _) (rStms (rBlock m)) = _
  rw [exp_sh s0]
  show rStms (rBlock m) ((("mark", "if", b) : TK) :: l) = _
  rw [stms_eq (block3 m), if_neg (isW_no s1 (by decide +kernel)), stmtW s1, if_pos (isW_yes s1)]
  show andR (andR (rBlock m l) _) _ = _
  rw [h]
  rfl
theorem nest_err {e : RdE} : ∀ (n m p a : Nat) (ts : Tl), (∀ a, rBlock m (("mark", "{", a) :: ts) = .error e) → rBlock (m + n) (("mark", "{", a) :: (pcK p (pcN IFB n) ++ ts)) = .error e
  | 0, m, p, a, ts, h => h a
  | n + 1, m, p, a, ts, h => by
    have e1 : pcK p (pcN IFB (n + 1)) = (("mark", "if", p) : TK) :: (("mark", "{", p + ("if" : Str).length) : TK) :: pcK (p + ("if" : Str).length + ("{" : Str).length) (pcN IFB n) := rfl
    rw [e1]
    exact blk_if (nest_err n m _ _ ts h)
theorem fun_err' {e : RdE} {l : Tl} {x : Str} {r : SH} (s0 : shOf l = mk "def" :: nme x :: mk "(" :: mk ")" :: r) (h : rBlock 30 l.tail.tail.tail.tail = .error e) : rProgram l = .error e := by
  have s1 := tail_sh s0
  have s2 := tail_sh s1
  have s3 := tail_sh s2
  have ff : rFunction l.tail = .error e := by
    unfold rFunction
    rw [nam_sh s1]
    show andR (rExp "(" l.tail.tail) _ = _
    rw [exp_sh s2]
    show andR (if isW ")" l.tail.tail.tail = true then .ok l.tail.tail.tail.tail else andR (rParam l.tail.tail.tail) fun l3 => andR (rMore rParam l3.length l3) (rExp ")")) _ = _
    rw [if_pos (isW_yes s3)]
    exact h
  unfold rProgram
  rw [if_neg (isW_no s0 (by decide +kernel))]
  show andR (if isW "kinds" l = true then rRow l.tail else .ok l) _ = _
  rw [if_neg (isW_no s0 (by decide +kernel))]
  show andR (rLoop (isW "keep") rExpr l.length l) _ = _
  rw [loop_eq suf_expr (isW_nil _), if_neg (isW_no s0 (by decide +kernel))]
  show andR (rLoop (isW "def") rFunction l.length l) _ = _
  rw [loop_eq function3.u (isW_nil _), if_pos (isW_yes s0), ff]
  rfl
theorem fun_err {e : RdE} {l : Tl} (h : ∀ a, rBlock 30 (("mark", "{", a) :: l) = .error e) : rProgram (pcK 0 DEFQ ++ l) = .error e := fun_err' (x := "q") (r := mk "{" :: shOf l) rfl (h 7)
/-- thirty and more: too deep -/
theorem nest_deep {n : Nat} (h : 30 ≤ n) (ts : Tl) : rProgram (pcK 0 (nestP n) ++ ts) = .error (.large "nesting") := by
  rw [pcK_app, List.append_assoc]
  refine fun_err fun a => ?_
  obtain ⟨k, rfl⟩ : ∃ k, n = 30 + k := ⟨n - 30, by omega⟩
  have sp : ∀ (x y : Nat), pcN IFB (x + y) = pcN IFB x ++ pcN IFB y := fun x y => by
    induction x with
    | zero => rw [Nat.zero_add]; rfl
    | succ x ih => rw [Nat.succ_add]; show IFB ++ pcN IFB (x + y) = _; rw [ih]; rfl
  rw [sp, pcK_app, List.append_assoc]
  have := nest_err (e := .large "nesting") 30 0 (0 + (pcT DEFQ).length) a (pcK (0 + (pcT DEFQ).length + (pcT (pcN IFB 30)).length) (pcN IFB k) ++ ts) fun a => by
    show (if isW "{" _ = true then _ else _) = _
    exact if_pos (isW_yes (r := shOf _) rfl)
  exact this
/-- less than thirty: what stands there is no statement -/
theorem nest_syn {n : Nat} (h : n ≤ 29) {k : TK} (ts : Tl) (h1 : kindH [k] ≠ "name") (h2 : ∀ w, w ∈ ([("}" : Str), "if", "while", "risk", "raise", "try", "undo", "with", "return"]) → k.1 = "mark" → k.2.1 ≠ w) : rProgram (pcK 0 (nestP n) ++ k :: ts) = .error (.syn k.2.2) := by
  rw [pcK_app, List.append_assoc]
  refine fun_err fun a => ?_
  obtain ⟨m, e⟩ : ∃ m, 30 = (m + 1) + n := ⟨29 - n, by omega⟩
  rw [e]
  refine nest_err n (m + 1) _ a (k :: ts) fun a => ?_
  have s0 : shOf ((("mark", "{", a) : TK) :: k :: ts) = mk "{" :: (k.1, k.2.1) :: shOf ts := rfl
  have s1 : shOf (k :: ts) = (k.1, k.2.1) :: shOf ts := rfl
  have nw : ∀ w, w ∈ ([("}" : Str), "if", "while", "risk", "raise", "try", "undo", "with", "return"]) → ¬ isW w (k :: ts) = true := fun w hw => isW_no s1 fun z => by
    have z1 : k.1 = "mark" := congrArg Prod.fst z
    have z2 : k.2.1 = w := congrArg Prod.snd z
    exact h2 w hw z1 z2
  show andR (rExp "{" _) (rStms (rBlock m)) = _
  rw [exp_sh s0]
  show rStms (rBlock m) (k :: ts) = _
  rw [stms_eq (block3 m), if_neg (nw _ (by simp))]
  have st : rStmt (rBlock m) (k :: ts) = .error (.syn k.2.2) := by
    unfold rStmt
    rw [if_neg (isN_no s1 h1), if_neg (nw _ (by simp)), if_neg (nw _ (by simp)), if_neg (nw _ (by simp)), if_neg (nw _ (by simp)), if_neg (nw _ (by simp)), if_neg (nw _ (by simp)), if_neg (nw _ (by simp))]
    show andR (if isW "return" _ = true then _ else synE _) _ = _
    rw [if_neg (nw _ (by simp))]
    rfl
  rw [st]
  rfl

/-! ### k05: a number where none may stand -/
abbrev HEADS : List (Str × List Pc) := [("", []), ("globals ", [.tok (mk "globals"), .gap]), ("kinds ", [.tok (mk "kinds"), .gap]), ("keep 1 ", [.tok (mk "keep"), .gap, .tok (("number", "1") : Str × Str), .gap]), ("def ", [.tok (mk "def"), .gap]), ("def q(", [.tok (mk "def"), .gap, .tok (nme "q"), .tok (mk "(")]),
  ("def q(&", [.tok (mk "def"), .gap, .tok (nme "q"), .tok (mk "("), .tok (mk "&")]), ("def q(){", DEFQ), ("def q(){ a ", DEFQ ++ [.gap, .tok (nme "a"), .gap]), ("def q(){ risk ", DEFQ ++ [.gap, .tok (mk "risk"), .gap])]
theorem heads_ok : ∀ h ∈ HEADS, pcT h.2 = TL.tl h.1 ∧ pcB h.2 = true ∧ h.1.length ≤ 20 := by decide +kernel
theorem heads_syn : ∀ h ∈ HEADS, ∀ (w : Str) (p : Nat) (ts : Tl), rProgram (pcK 0 h.2 ++ (("number", w, p) : TK) :: ts) = .error (.syn p) := by
  intro h hh w p ts
  simp only [List.mem_cons, List.not_mem_nil, or_false] at hh
  rcases hh with rfl | rfl | rfl | rfl | rfl | rfl | rfl | rfl | rfl | rfl
  · kernel_rfl
  · kernel_rfl
  · kernel_rfl
  · kernel_rfl
  · kernel_rfl
  · kernel_rfl
  · kernel_rfl
  · kernel_rfl
  · kernel_rfl
  · kernel_rfl

/-! ### k05: the written texts are tokens -/
def NumG (w : Str) : Prop := w.length ≤ 1000000 ∧ (w.length ≤ 12 → ∃ n, PySem.intText? w = some n)
/-- what a token may be -/
def GdT (W : List Str) (y : Str × Str) : Prop := (y.1 = "name" → y.2 ∈ W) ∧ (y.1 = "number" → NumG y.2)
def GdK (W : List Str) (ts : Tl) : Prop := ∀ k ∈ ts, GdT W (k.1, k.2.1)
theorem TsOk.of {W : List Str} {ts : Tl} (h : ts.length ≤ 1000001) (hW : W.length < 50) (g : GdK W ts) : TsOk ts := ⟨h, ⟨W, hW, fun x ⟨k, hk, h1, h2⟩ => h2 ▸ (g k hk).1 h1⟩, fun k hk e => (g k hk).2 e⟩
section
variable {W : List Str}
theorem GdK.nil : GdK W [] := fun _ h => nomatch h
theorem GdK.cons {k : TK} {ts : Tl} (h : GdT W (k.1, k.2.1)) (g : GdK W ts) : GdK W (k :: ts) := fun x hx => by
  rcases List.mem_cons.mp hx with rfl | z
  · exact h
  · exact g x z
theorem GdK.app {a b : Tl} (h : GdK W a) (g : GdK W b) : GdK W (a ++ b) := fun x hx => by
  rcases List.mem_append.mp hx with z | z
  · exact h x z
  · exact g x z
theorem gd_other {k w : Str} (h1 : k ≠ "name") (h2 : k ≠ "number") : GdT W (k, w) := ⟨fun z => absurd z h1, fun z => absurd z h2⟩
theorem gd_mark (w : Str) : GdT W (("mark", w) : Str × Str) := gd_other (by decide +kernel) (by decide +kernel)
theorem gd_bad (p : Nat) : GdT W (((badT p).1, (badT p).2.1) : Str × Str) := gd_other (k := "bad") (by decide +kernel) (by decide +kernel)
theorem gd_end : GdT W (("end", "") : Str × Str) := gd_other (by decide +kernel) (by decide +kernel)
theorem gd_numb {w : Str} (h : NumG w) : GdT W (("number", w) : Str × Str) := ⟨fun z => absurd z (by show ¬ (("number" : Str) = "name"); decide +kernel), fun _ => h⟩
theorem gd_name {w : Str} (h : w ∈ W) : GdT W (("name", w) : Str × Str) := ⟨fun _ => h, fun z => absurd z (by show ¬ (("name" : Str) = "number"); decide +kernel)⟩
theorem pcK_gd : ∀ {l : List Pc} (p : Nat), (∀ y, Pc.tok y ∈ l → GdT W y) → GdK W (pcK p l)
  | [], _, _ => .nil
  | .gap :: l, p, h => pcK_gd (l := l) (p + 1) fun y hy => h y (List.mem_cons_of_mem _ hy)
  | .tok y :: l, p, h => .cons (h y List.mem_cons_self) (pcK_gd (l := l) _ fun y hy => h y (List.mem_cons_of_mem _ hy))
theorem pcK_len : ∀ (l : List Pc) (p : Nat), (pcK p l).length ≤ l.length
  | [], _ => Nat.le_refl _
  | .gap :: l, p => Nat.le_succ_of_le (pcK_len l _)
  | .tok y :: l, p => Nat.succ_le_succ (pcK_len l _)
end
theorem pcN_mem {l : List Pc} {x : Pc} : ∀ n, x ∈ pcN l n → x ∈ l
  | 0, h => nomatch h
  | n + 1, h => by
    rcases List.mem_append.mp h with z | z
    · exact z
    · exact pcN_mem n z
theorem pcN_len (l : List Pc) : ∀ n, (pcN l n).length = n * l.length
  | 0 => by rw [Nat.zero_mul]; rfl
  | n + 1 => by show (l ++ pcN l n).length = _; rw [List.length_append, pcN_len l n, Nat.succ_mul]; omega
abbrev WQ : List Str := ["q", "a"]
def sev (d : Nat) : Str := repZ d "7"
theorem sev_g : ∀ d, 11 ≤ d → d ≤ 13 → NumG (sev d) ∧ TokG (("number", sev d) : Str × Str) ∧ (sev d).length = d ∧ sev d ≠ "(" := fun d h1 h2 => by
  have ex : ∀ d, d = 11 ∨ d = 12 ∨ d = 13 → (sev d).length = d ∧ wdB (("number", sev d) : Str × Str) = true ∧ sev d ≠ "(" := by
    rintro d (rfl | rfl | rfl) <;> decide +kernel
  have h : d = 11 ∨ d = 12 ∨ d = 13 := by omega
  obtain ⟨e1, e2, e3⟩ := ex d h
  refine ⟨⟨by omega, fun l => ?_⟩, tokG_wd e2, e1, e3⟩
  rcases h with rfl | rfl | rfl
  · exact ⟨77777777777, by decide +kernel⟩
  · exact ⟨777777777777, by decide +kernel⟩
  · rw [e1] at l; omega
theorem gd_defq : ∀ y, Pc.tok y ∈ DEFQ → GdT WQ y := by
  intro y hy
  simp only [List.mem_cons, List.not_mem_nil, or_false, Pc.tok.injEq, reduceCtorEq, false_or] at hy
  rcases hy with rfl | rfl | rfl | rfl | rfl
  · exact gd_mark _
  · exact gd_name (by decide +kernel)
  · exact gd_mark _
  · exact gd_mark _
  · exact gd_mark _
theorem gd_ifb : ∀ y, Pc.tok y ∈ IFB → GdT WQ y := by
  intro y hy
  simp only [List.mem_cons, List.not_mem_nil, or_false, Pc.tok.injEq] at hy
  rcases hy with rfl | rfl
  · exact gd_mark _
  · exact gd_mark _
theorem gd_nest (n p : Nat) : GdK WQ (pcK p (nestP n)) := pcK_gd p fun y hy => by
  rcases List.mem_append.mp hy with z | z
  · exact gd_defq y z
  · exact gd_ifb y (pcN_mem n z)
theorem nest_len (n p : Nat) : (pcK p (nestP n)).length ≤ 6 + n * 2 := by
  have := pcK_len (nestP n) p
  rw [List.length_append, pcN_len] at this
  exact this
/-- what parse makes of a text -/
def Tells (z : Str) (r : RdR) : Prop := z.length ≤ 1000000 ∧ ∃ ts : Tl, Tkz (TL.tl z) 0 ts ∧ TsOk ts ∧ toldD (rProgram ts) = toldD r
theorem Tells.of {W : List Str} {z : Str} {ts : Tl} {r : RdR} (hz : z.length ≤ 1000000) (h : Tkp 0 (TL.tl z) ts) (hl : ts.length ≤ 1000001) (hW : W.length < 50) (g : GdK W ts) (e : toldD (rProgram ts) = toldD r) : Tells z r := ⟨hz, ts, h.tkz [] rfl, .of hl hW g, e⟩
/-! the function's head and heads of if -/
def nestZ (n : Nat) : Str := "def q(){" ++ repZ n "if{"
theorem tl_nestZ (n : Nat) : TL.tl (nestZ n) = pcT (nestP n) := by
  unfold nestZ
  rw [TL.tl_append, pcT_app, defq_t, pcT_N IFB ifb_t]
theorem len_nestZ (n : Nat) : (nestZ n).length = 8 + n * 3 ∧ (pcT (nestP n)).length = 8 + n * 3 := by
  have e : (nestZ n).length = 8 + n * 3 := by
    unfold nestZ
    rw [len_add, len_repZ, show ("def q(){" : Str).length = 8 by decide +kernel, show ("if{" : Str).length = 3 by decide +kernel]
  exact ⟨e, by rw [← tl_nestZ, ← TL.len_tl]; exact e⟩
/-- a text behind the heads, of tokens k :: ts -/
theorem nest_tells {n : Nat} (hn : n ≤ 2000) {z : Str} {k : TK} {ts : Tl} (hz : z.length ≤ 100000) (h : Tkp (8 + n * 3) (TL.tl z) (k :: ts)) (hl : ts.length ≤ 100000) (g : GdK WQ (k :: ts)) (h1 : kindH [k] ≠ "name") (h2 : ∀ w, w ∈ ([("}" : Str), "if", "while", "risk", "raise", "try", "undo", "with", "return"]) → k.1 = "mark" → k.2.1 ≠ w) :
    Tells (nestZ n ++ z) (.error (if n > 29 then .large "nesting" else .syn k.2.2)) := by
  have tk := pc_tk (nestP n) 0 (TL.tl z) (k :: ts) (pcB_nest n) (by rw [(len_nestZ n).2, Nat.zero_add]; exact h)
  rw [← tl_nestZ, ← TL.tl_append] at tk
  have ln := (len_nestZ n).1
  have lk := nest_len n 0
  refine .of (W := WQ) (by rw [len_add]; omega) tk (by rw [List.length_append, List.length_cons]; omega) (by decide) ((gd_nest n 0).app g) ?_
  by_cases q : n > 29
  · rw [if_pos q, nest_deep (by omega)]
  · rw [if_neg q, nest_syn (by omega) ts h1 h2]
theorem odd_facts {z : Str} (h : z ∈ ODDS) : OddZ z ∧ z.length ≤ 6 := ⟨odd_of (odds_ok z h).1, (odds_ok z h).2.1⟩
theorem tl_sp : TL.tl (" " : Str) = [32] := by decide +kernel
theorem bad_kind (p : Nat) : kindH [badT p] ≠ "name" := by rw [kind_bad]; decide +kernel
theorem bad_mark {p : Nat} {L : List Str} : ∀ w, w ∈ L → (badT p).1 = "mark" → (badT p).2.1 ≠ w := fun w _ e => absurd e (by show ¬ (("bad" : Str) = "mark"); decide +kernel)
theorem closes_al (n : Nat) : NoAl (TL.tl (repZ n "}")) := by
  rw [tl_repZ]
  cases n with
  | zero => exact noAl_nil
  | succ n =>
    rw [List.replicate_succ, List.flatten_cons, show TL.tl ("}" : Str) = [125] by decide +kernel]
    exact NoAl.cons (by decide +kernel)
section
variable {n d : Nat} {odd : Str}
theorem mre0 (hn : n ≤ 2000) : Tells (nestZ n) (.error (if n > 29 then .large "nesting" else .syn (nestZ n).length)) := by
  have := nest_tells hn (z := "") (k := ("end", "", 8 + n * 3)) (ts := []) (by decide +kernel) (by rw [show TL.tl ("" : Str) = [] by decide +kernel]; exact .fin) (by decide) (.cons gd_end .nil) (by show ("end" : Str) ≠ "name"; decide +kernel) fun w _ e => absurd e (by show ¬ (("end" : Str) = "mark"); decide +kernel)
  rw [(len_nestZ n).1]
  rw [show nestZ n ++ "" = nestZ n from TL.ext_tl (by rw [TL.tl_append, show TL.tl ("" : Str) = [] by decide +kernel, List.append_nil])] at this
  exact this
theorem mre1 (hn : n ≤ 2000) (ho : odd ∈ ODDS) : Tells (nestZ n ++ odd) (.error (if n > 29 then .large "nesting" else .syn (nestZ n).length)) := by
  obtain ⟨o1, o2⟩ := odd_facts ho
  have := nest_tells hn (z := odd) (k := badT (8 + n * 3)) (ts := []) (by omega) (by have := o1 (8 + n * 3) [] noAl_nil; rw [List.append_nil] at this; exact this) (by decide) (.cons (gd_bad _) .nil) (bad_kind _) bad_mark
  rw [(len_nestZ n).1]
  exact this
theorem mre2 (hn : n ≤ 2000) (ho : odd ∈ ODDS) : Tells (nestZ n ++ (" " ++ odd ++ repZ n "}")) (.error (if n > 29 then .large "nesting" else .syn ((nestZ n).length + 1))) := by
  obtain ⟨o1, o2⟩ := odd_facts ho
  have := nest_tells hn (z := " " ++ odd ++ repZ n "}") (k := badT (8 + n * 3 + 1)) (ts := []) (by rw [len_add, len_add, len_repZ, show (" " : Str).length = 1 by decide +kernel, show ("}" : Str).length = 1 by decide +kernel]; omega) (by
    rw [TL.tl_append, TL.tl_append, tl_sp, List.append_assoc]
    exact .gap (.inl rfl) (o1 _ _ (closes_al n))) (by decide) (.cons (gd_bad _) .nil) (bad_kind _) bad_mark
  rw [(len_nestZ n).1]
  exact this
theorem mre3 (hn : n ≤ 2000) (h1 : 11 ≤ d) (h2 : d ≤ 13) : Tells (nestZ n ++ (" else " ++ sev d)) (.error (if n > 29 then .large "nesting" else .syn ((nestZ n).length + 1))) := by
  obtain ⟨g1, g2, g3, g4⟩ := sev_g d h1 h2
  have := nest_tells hn (z := " else " ++ sev d) (k := ("mark", "else", 8 + n * 3 + 1)) (ts := [("number", sev d, 8 + n * 3 + 6), ("end", "", 8 + n * 3 + 6 + d)]) (by rw [len_add, g3, show (" else " : Str).length = 6 by decide +kernel]; omega) (by
    have tk := pc_tk [.gap, .tok (mk "else"), .gap] (8 + n * 3) (TL.tl (sev d)) [("number", sev d, 8 + n * 3 + 6), ("end", "", 8 + n * 3 + 6 + d)] (by decide +kernel) (by
      rw [show (pcT [.gap, .tok (mk "else"), .gap]).length = 6 by decide +kernel]
      have := tok_put (p := 8 + n * 3 + 6) (t := []) (ts := [("end", "", 8 + n * 3 + 6 + d)]) g2 noAl_nil (by rw [g3]; exact .fin)
      rw [List.append_nil] at this
      exact this)
    rw [TL.tl_append, show TL.tl (" else " : Str) = pcT [.gap, .tok (mk "else"), .gap] by decide +kernel]
    exact tk) (by show 2 ≤ 100000; decide) (.cons (gd_mark _) (.cons (gd_numb g1) (.cons gd_end .nil))) (by show ("mark" : Str) ≠ "name"; decide +kernel) (by
      intro w hw _
      show ("else" : Str) ≠ w
      exact (by decide +kernel : ∀ w ∈ ([("}" : Str), "if", "while", "risk", "raise", "try", "undo", "with", "return"]), ("else" : Str) ≠ w) w hw)
  rw [(len_nestZ n).1]
  exact this
/-- heads and numbers behind them -/
theorem head_tells {h : Str × List Pc} (hh : h ∈ HEADS) (h1 : 11 ≤ d) (h2 : d ≤ 13) : Tells (h.1 ++ sev d ++ "") (.error (.syn h.1.length)) ∧ (odd ∈ ODDS → Tells (h.1 ++ sev d ++ (" " ++ odd)) (.error (.syn h.1.length))) := by
  obtain ⟨g1, g2, g3, g4⟩ := sev_g d h1 h2
  obtain ⟨e1, e2, e3⟩ := heads_ok h hh
  have el : (pcT h.2).length = h.1.length := by rw [e1, TL.len_tl]
  have gp : ∀ y, Pc.tok y ∈ h.2 → GdT WQ y := by
    intro y hy
    simp only [List.mem_cons, List.not_mem_nil, or_false] at hh
    have n1 : NumG "1" := ⟨by decide +kernel, fun _ => ⟨1, by decide +kernel⟩⟩
    rcases hh with rfl | rfl | rfl | rfl | rfl | rfl | rfl | rfl | rfl | rfl <;>
      simp only [List.mem_cons, List.not_mem_nil, or_false, Pc.tok.injEq, reduceCtorEq, false_or, List.cons_append, List.nil_append] at hy <;>
      (try (rcases hy with rfl | rfl | rfl | rfl | rfl | rfl)) <;> (try (rcases hy with rfl | rfl | rfl | rfl | rfl)) <;> (try (rcases hy with rfl | rfl | rfl | rfl)) <;> (try (rcases hy with rfl | rfl | rfl)) <;> (try (rcases hy with rfl | rfl)) <;> (try subst hy) <;>
      first | exact gd_mark _ | exact gd_numb n1 | exact gd_name (by decide +kernel)
  have ll : h.2.length ≤ 20 := (by decide +kernel : ∀ h ∈ HEADS, h.2.length ≤ 20) h hh
  have key : ∀ {t : Str} {k : TK}, t.length ≤ 100 → NoAl (TL.tl t) → Tkp (h.1.length + d) (TL.tl t) [k] → GdT WQ (k.1, k.2.1) → Tells (h.1 ++ sev d ++ t) (.error (.syn h.1.length)) := fun {t k} lt na r gk => by
    have tk := pc_tk h.2 0 (TL.tl (sev d) ++ TL.tl t) ((("number", sev d, h.1.length) : TK) :: [k]) e2 (by
      rw [el, Nat.zero_add]
      exact tok_put g2 na (by rw [g3]; exact r))
    rw [e1] at tk
    have lk := pcK_len h.2 0
    refine .of (W := WQ) (by rw [len_add, len_add, g3]; omega) (by rw [TL.tl_append, TL.tl_append, List.append_assoc]; exact tk) (by rw [List.length_append]; show _ + 2 ≤ _; omega) (by decide) ((pcK_gd 0 gp).app (.cons (gd_numb g1) (.cons gk .nil))) ?_
    rw [heads_syn h hh]
  refine ⟨key (k := ("end", "", h.1.length + d)) (by decide +kernel) (by rw [show TL.tl ("" : Str) = [] by decide +kernel]; exact noAl_nil) (by rw [show TL.tl ("" : Str) = [] by decide +kernel]; exact .fin) gd_end, fun ho => ?_⟩
  obtain ⟨o1, o2⟩ := odd_facts ho
  refine key (k := badT (h.1.length + d + 1)) (by rw [len_add, show (" " : Str).length = 1 by decide +kernel]; omega) (by rw [TL.tl_append, tl_sp]; exact noAl_gap) (by
    rw [TL.tl_append, tl_sp]
    exact .gap (.inl rfl) (by have := o1 (h.1.length + d + 1) [] noAl_nil; rw [List.append_nil] at this; exact this)) (gd_bad _)
end
/-! blocks that are closed -/
def nestT (n : Nat) : Str := nestZ n ++ repZ n "}" ++ "}"
abbrev CLB : List Pc := [.tok (mk "}")]
theorem clb_t : pcT CLB = TL.tl "}" := by decide +kernel
theorem nestT_ok (p : Nat) : ∀ n, n = 28 ∨ n = 29 ∨ n = 30 ∨ n = 31 → toldD (rProgram (pcK 0 (nestP n ++ (pcN CLB n ++ CLB)) ++ [(("end", "", p) : TK)])) = if n > 29 then .tuple [.str "large", .str "nesting"] else .tuple [.str "fine", .int 0] := by
  rintro n (rfl | rfl | rfl | rfl)
  · kernel_rfl
  · kernel_rfl
  · kernel_rfl
  · kernel_rfl
theorem nestT_tells {n : Nat} (h1 : 28 ≤ n) (h2 : n ≤ 31) : ∃ r, Tells (nestT n) r ∧ toldD r = if n > 29 then .tuple [.str "large", .str "nesting"] else .tuple [.str "fine", .int 0] := by
  have h : n = 28 ∨ n = 29 ∨ n = 30 ∨ n = 31 := by omega
  have bb : pcB (nestP n ++ (pcN CLB n ++ CLB)) = true := by rcases h with rfl | rfl | rfl | rfl <;> decide +kernel
  have et : TL.tl (nestT n) = pcT (nestP n ++ (pcN CLB n ++ CLB)) := by
    unfold nestT
    rw [TL.tl_append, TL.tl_append, tl_nestZ, pcT_app (nestP n), pcT_app (pcN CLB n), pcT_N CLB clb_t, clb_t, List.append_assoc]
  have ln : (nestT n).length ≤ 1000 := by
    unfold nestT
    rw [len_add, len_add, (len_nestZ n).1, len_repZ, show ("}" : Str).length = 1 by decide +kernel]; omega
  have tk := pc_tk (nestP n ++ (pcN CLB n ++ CLB)) 0 [] [(("end", "", 0 + (pcT (nestP n ++ (pcN CLB n ++ CLB))).length) : TK)] bb .fin
  rw [List.append_nil, ← et] at tk
  have lk := pcK_len (nestP n ++ (pcN CLB n ++ CLB)) 0
  have ll : (nestP n ++ (pcN CLB n ++ CLB)).length ≤ 1000 := by
    rw [List.length_append, List.length_append, List.length_append, pcN_len, pcN_len]
    show 6 + n * 2 + (n * 1 + 1) ≤ 1000
    omega
  refine ⟨rProgram (pcK 0 (nestP n ++ (pcN CLB n ++ CLB)) ++ [(("end", "", 0 + (TL.tl (nestT n)).length) : TK)]), .of (W := WQ) (by omega) tk (by rw [List.length_append]; show _ + 1 ≤ _; omega) (by decide) ((pcK_gd 0 fun y hy => ?_).app (.cons gd_end .nil)) rfl, nestT_ok _ n h⟩
  rcases List.mem_append.mp hy with z | z
  · rcases List.mem_append.mp z with z | z
    · exact gd_defq y z
    · exact gd_ifb y (pcN_mem n z)
  · have z : Pc.tok y ∈ CLB := by
      rcases List.mem_append.mp z with z | z
      · exact pcN_mem n z
      · exact z
    simp only [List.mem_cons, List.not_mem_nil, or_false, Pc.tok.injEq] at z
    subst z
    exact gd_mark _

/-! ### k05: _law_nested, _law_cut_right -/
abbrev sLCr : Stmt := topS 40
abbrev NLCr : List Str := ["_law_odd", "_law_count", "_law_number", "_law_text_here", "_law_more", "_law_due", "_law_heads_here", "_law_head", "_law_tail"]
abbrev PLCr : List Str := ["_law_odd", "_law_count", "_law_number"]
theorem scLCr : FnScope NLCr PLCr (defScope sLCr) := ⟨rfl, rfl, rfl, by decide +kernel, rfl, by decide +kernel, by decide +kernel⟩
theorem cut1_eq (m : Str) : cutS m none (some 1) = ⟨((TL.tl m).take 1).toArray⟩ := by
  unfold cutS
  rw [show (some (1 : Int)) = some ((1 : Nat) : Int) from rfl, HT.sIx_none, HT.sIx_nat, List.drop_zero, Nat.sub_zero, TL.len_tl]
  show (⟨((TL.tl m).take (min 1 (TL.tl m).length)).toArray⟩ : Str) = _
  congr 2
  rw [← List.take_take, List.take_length]
theorem beg_eq (m : Str) : decide (V.str (cutS m none (some 1)) = V.str " ") = decide ((TL.tl m).take 1 = [32]) := decide_eq_decide.mpr (by
  rw [cut1_eq]
  constructor
  · intro h
    have h := congrArg TL.tl (V.str.inj h)
    exact h.trans (by decide +kernel)
  · intro h
    rw [h]
    rfl)
def bb1 (m : Str) : Nat := if (TL.tl m).take 1 = [32] then 1 else 0
theorem eqv_si (a : Str) (p : Int) : PyData.eqv (.tuple [.str a, .int p]) (.tuple [.str a, .int p]) = true := by simp [PyData.eqv, PyData.eqvAll]
theorem shaped_syn (p : Int) : SeqAt.shaped (.tuple [.str "syntax", .int p]) = true := shaped_tup (xs := [.str "syntax", .int p]) (by rw [List.all_cons, List.all_cons, List.all_nil, show okV (.str "syntax") = true by decide +kernel]; rfl)
theorem odds_beg : ∀ z ∈ ODDS, (TL.tl z).take 1 ≠ [32] := by decide +kernel
def spLNs : Sp := fun vs H Q _ => ∃ n : Nat, vs = [.int (n : Nat)] ∧ n ≤ 31 ∧ Q (.str (nestT n)) H
theorem tells_told {K : PySem.W.Frag} {H : Hp} {z : Str} {r : RdR} {Q : VK} {E : XK} (h : Tells z r) (k : ∀ (u : V) (H' : Hp), Same H H' → Dp K H' u (toldD r) → Q u H') : spLTd K [.str z] H Q E := by
  obtain ⟨hz, ts, t1, t2, e⟩ := h
  exact ⟨.str z, rfl, .inl ⟨z, ts, rfl, hz, t1, t2, fun u H' s d => k u H' s (e ▸ d)⟩⟩
def spLCr : Sp := fun vs H Q _ => ∃ (odd : Str) (n d : Nat), vs = [.str odd, .int (n : Nat), .str (sev d)] ∧ odd ∈ ODDS ∧ 28 ≤ n ∧ n ≤ 31 ∧ 11 ≤ d ∧ d ≤ 13 ∧ ∀ H', Same H H' → Q (.bl true) H'
section
variable {P : Program} {w : World} {K : PySem.W.Frag} {mg : Str → Option Value} {base : Heap}
theorem ok_LNs {f : Addr} {fd : FuncData} (F : Fun K "_law_nested" "_law_nested" sLNs f fd) : FnOk P w K mg base CX0 1 f fd PLNs spLNs := by
  refine F.ok scLNs (fun vs H Q E h => ?_) (fun cdv A outer s H vs Q E hr h => ?_)
  · obtain ⟨n, rfl, _⟩ := h
    rfl
  · obtain ⟨n, rfl, hn, k⟩ := h
    refine ⟨_, (pss_one (ps_ret (pe_op op_add_str (pe_op op_add_str (pe_op op_add_str pe_str (pe_op op_repM pe_str (pv 0))) (pe_op op_repM pe_str (pv 0))) pe_str))), ?_⟩
    have e24 : sizeLine = 2 ^ 24 := rfl
    have l8 : ("def q(){" : Str).length = 8 := by decide +kernel
    have l3 : ("if{" : Str).length = 3 := by decide +kernel
    have l1 : ("}" : Str).length = 1 := by decide +kernel
    have l2 : (repZ n "if{").length = n * 3 := by rw [len_repZ, l3]
    have l4 : (repZ n "}").length = n * 1 := by rw [len_repZ, l1]
    refine ⟨_, rfl, _, n, rfl, rfl, by rw [l3]; decide, by rw [l3]; omega, ?_⟩
    refine ⟨_, _, rfl, rfl, by rw [l8, l2, e24]; omega, ?_⟩
    refine ⟨_, rfl, _, n, rfl, rfl, by rw [l1]; decide, by rw [l1]; omega, ?_⟩
    refine ⟨_, _, rfl, rfl, by rw [len_add, l8, l2, l4, e24]; omega, ?_⟩
    exact ⟨_, _, rfl, rfl, by rw [len_add, len_add, l8, l2, l4, l1, e24]; omega, k⟩
theorem ok_LCr {k0 : Nat} {f : Addr} {fd : FuncData} (F : Fun K "_law_cut_right" "_law_cut_right" sLCr f fd) (nl : mg "len" = none) (ni : mg "int" = none) (GT : Has P w K mg base CX0 k0 "_law_told" PLTd (spLTd K)) (h1 : 1 ≤ k0) : FnOk P w K mg base CX0 (k0 + 1) f fd PLCr spLCr := by
  refine F.ok scLCr (fun vs H Q E h => ?_) (fun cdv A outer s H vs Q E hr h => ?_)
  · obtain ⟨odd, n, d, rfl, _⟩ := h
    rfl
  · obtain ⟨odd, n, d, rfl, ho, n1, n2, d1, d2, k⟩ := h
    refine ⟨_, (pss_cons (ps_set (i := 3) scLCr.nd rfl (Or.inl rfl) (pe_op op_add_str pe_str (pe_op op_repM pe_str (pv 1))))
  (pss_cons (ps_for PassesOwn.never rfl (pi_list (pe_lst (pa_cons pe_str (pa_cons (pv 0) (pa_cons (pe_op op_add_str (pe_op op_add_str pe_str (pv 0)) (pe_op op_repM pe_str (pv 1))) (pa_cons (pe_op op_add_str pe_str (pv 2)) pa_nil)))))) (pg_name (i := 4) scLCr.nd rfl (Or.inl rfl))
  (pss_cons (ps_set (i := 5) scLCr.nd rfl (Or.inl rfl) (pe_tup (pa_cons pe_str (pa_cons (pe_op op_add (pe_callB call_len_str (by rfl) nl bb_len (pa_cons (pv 3) pa_nil)) (pe_callTy call_int1 (by rfl) ni bb_int (pa_cons (pe_cmpR op_eq (pe_slice sl_str (pv 4) po_none (po_some pe_int)) pe_str (nomark _)) pa_nil))) pa_nil))))
  (pss_one (ps_if (pt_cmpR (op_neD hr.units) (pe_callH GT hr rfl pass0 (pa_cons (pe_op op_add_str (pv 3) (pv 4)) pa_nil)) (pe_ifExp (pt_cmpR op_gt (pv 1) pe_int (nomark _)) (pe_tup (pa_cons pe_str (pa_cons pe_str pa_nil))) (pv 5)) (nomark _))
  (pss_one (ps_ret pe_bl))
  pss_nil))))
  (pss_cons (ps_set (i := 6) scLCr.nd rfl (Or.inl rfl) (pe_lst (pa_cons pe_str (pa_cons pe_str (pa_cons pe_str (pa_cons pe_str (pa_cons pe_str (pa_cons pe_str (pa_cons pe_str (pa_cons pe_str pa_nil))))))))))
  (pss_cons (ps_for PassesOwn.never rfl (pi_list (pe_op op_cat (pv 6) (pe_lst (pa_cons pe_str (pa_cons pe_str pa_nil))))) (pg_name (i := 7) scLCr.nd rfl (Or.inl rfl))
  (pss_one (ps_for PassesOwn.never rfl (pi_list (pe_lst (pa_cons pe_str (pa_cons (pe_op op_add_str pe_str (pv 0)) pa_nil)))) (pg_name (i := 8) scLCr.nd rfl (Or.inl rfl))
  (pss_one (ps_if (pt_cmpR (op_neD hr.units) (pe_callH GT hr rfl pass0 (pa_cons (pe_op op_add_str (pe_op op_add_str (pv 7) (pv 2)) (pv 8)) pa_nil)) (pe_tup (pa_cons pe_str (pa_cons (pe_callB call_len_str (by rfl) nl bb_len (pa_cons (pv 7) pa_nil)) pa_nil))) (nomark _))
  (pss_one (ps_ret pe_bl))
  pss_nil)))))
  (pss_one (ps_ret (pe_cmpR (op_eqD hr.units) (pe_callH GT hr rfl pass0 (pa_cons (pe_op op_add_str pe_str (pe_op op_repM pe_str pe_int)) pa_nil)) (pe_tup (pa_cons pe_str (pa_cons pe_str pa_nil))) (nomark _)))))))), ?_⟩
    have e24 : sizeLine = 2 ^ 24 := rfl
    have l8 : ("def q(){" : Str).length = 8 := by decide +kernel
    have l3 : ("if{" : Str).length = 3 := by decide +kernel
    have l1 : ("}" : Str).length = 1 := by decide +kernel
    have ls : (" " : Str).length = 1 := by decide +kernel
    have l6 : (" else " : Str).length = 6 := by decide +kernel
    have l2 : (repZ n "if{").length = n * 3 := by rw [len_repZ, l3]
    have l4 : (repZ n "}").length = n * 1 := by rw [len_repZ, l1]
    have lo := (odd_facts ho).2
    have lsv := (sev_g d d1 d2).2.2.1
    have lnz := (len_nestZ n).1
    refine ⟨_, rfl, _, n, rfl, rfl, by rw [l3]; decide, by rw [l3]; omega, _, _, rfl, rfl, by rw [l8, l2, e24]; omega, ?_⟩
    obtain ⟨ms, hms⟩ : ∃ ms : List Str, ms = [("" : Str), odd, " " ++ odd ++ repZ n "}", " else " ++ sev d] := ⟨_, rfl⟩
    have hmore : ∀ m ∈ ms, m.length ≤ 100 ∧ Tells (nestZ n ++ m) (.error (if n > 29 then .large "nesting" else .syn ((nestZ n).length + (bb1 m)))) := by
      intro m hm
      rw [hms] at hm
      simp only [List.mem_cons, List.not_mem_nil, or_false] at hm
      rcases hm with hm | hm | hm | hm <;> rw [hm]
      · refine ⟨by decide +kernel, ?_⟩
        rw [show bb1 "" = 0 by decide +kernel, Nat.add_zero, show nestZ n ++ ("" : Str) = nestZ n from TL.ext_tl (by rw [TL.tl_append, show TL.tl ("" : Str) = [] by decide +kernel, List.append_nil])]
        exact mre0 (by omega)
      · refine ⟨by omega, ?_⟩
        rw [show bb1 odd = 0 from if_neg (odds_beg _ ho), Nat.add_zero]
        exact mre1 (by omega) ho
      · refine ⟨by rw [len_add, len_add, ls, l4]; omega, ?_⟩
        rw [show bb1 (" " ++ odd ++ repZ n "}") = 1 from if_pos (by rw [TL.tl_append, TL.tl_append, tl_sp]; rfl)]
        exact mre2 (by omega) ho
      · refine ⟨by rw [len_add, l6, lsv]; omega, ?_⟩
        rw [show bb1 (" else " ++ sev d) = 1 from if_pos (by rw [TL.tl_append, show TL.tl (" else " : Str) = [32, 101, 108, 115, 101, 32] by decide +kernel]; rfl)]
        exact mre3 (by omega) d1 d2
    refine ⟨_, rfl, _, rfl, _, _, rfl, rfl, by rw [ls, e24]; omega, _, rfl, _, n, rfl, rfl, by rw [l1]; decide, by rw [l1]; omega, _, _, rfl, rfl, by rw [len_add, ls, l4, e24]; omega, _, rfl, _, _, rfl, rfl, by rw [l6, lsv, e24]; omega, (by show 4 ≤ sizeLine; decide), fun L hL => ?_⟩
    have sL := same_new (o := .lst (ms.map V.str)) hL
    rw [show ([V.str "", V.str odd, V.str (" " ++ odd ++ repZ n "}"), V.str (" else " ++ sev d)] : List V) = ms.map V.str by rw [hms]; rfl]
    have eL : upd H L (.lst (ms.map V.str)) L = some (.lst (ms.map V.str)) := upd_same
    generalize upd H L (.lst (ms.map V.str)) = H1 at *
    refine ⟨L, rfl, ⟨_, SqL.of eL⟩, for_it (walk_list (K := K) (a := L) (xs := ms.map V.str)) (fun i σ H' => Same H1 H' ∧ ∃ x4 x5 : Option V, σ = [some (.str odd), some (.int (n : Nat)), some (.str (sev d)), some (.str (nestZ n)), x4, x5, none, none, none]) ⟨Same.refl _, _, _, rfl⟩ (fun i σ H' _ h' => SqL.of (h'.1 _ _ eL)) ?_ ?_⟩
    · rintro i x σ H2 H3 hil ⟨s2, x4, x5, rfl⟩ ⟨rfl, hx⟩
      rw [List.getElem?_map] at hx
      obtain ⟨m, hm, rfl⟩ : ∃ y, ms[i]? = some y ∧ x = V.str y := by
        cases q : ms[i]? with
        | none => rw [q] at hx; cases hx
        | some y => rw [q] at hx; exact ⟨y, rfl, (Option.some.inj hx).symm⟩
      obtain ⟨lm, tm⟩ := hmore m (List.mem_of_getElem? hm)
      have eb : (if decide (V.str (cutS m none (some 1)) = V.str " ") = true then (1 : Int) else 0) = (bb1 m : Int) := by
        rw [beg_eq]
        unfold bb1
        by_cases q : (TL.tl m).take 1 = [32]
        · rw [if_pos q, if_pos (decide_eq_true q)]; rfl
        · rw [if_neg q, if_neg (by rw [decide_eq_false q]; decide)]; rfl
      refine ⟨_, rfl, _, rfl, by omega, _, rfl, _, rfl, _, rfl, by omega, rfl, .inr ⟨_, rfl, ?_⟩⟩
      rw [eb]
      refine ⟨_, _, rfl, rfl, (by show 2 ≤ sizeLine; decide), fun b hb => ?_⟩
      have sb := same_new (o := .tup [.str "syntax", .int (((nestZ n).length : Int) + (bb1 m : Int))]) hb
      have eb2 : upd H3 b (.tup [.str "syntax", .int (((nestZ n).length : Int) + (bb1 m : Int))]) b = some (.tup [.str "syntax", .int (((nestZ n).length : Int) + (bb1 m : Int))]) := upd_same
      generalize upd H3 b (.tup [.str "syntax", .int (((nestZ n).length : Int) + (bb1 m : Int))]) = H4 at *
      refine ⟨_, rfl, _, rfl, _, _, rfl, rfl, by rw [lnz, e24]; omega, tells_told (E := E0) tm fun u H5 s5 du => ?_⟩
      have eb5 := s5 _ _ eb2
      by_cases q : n > 29
      · rw [if_pos q] at du
        refine ⟨_, rfl, _, _, rfl, rfl, _, rfl, iteS (decide_eq_true (by omega)) ⟨(by show 2 ≤ sizeLine; decide), fun c hc => ?_⟩⟩
        have sc := same_new (o := .tup [.str "large", .str "nesting"]) hc
        refine ⟨_, _, du.same sc, .tup (SqT.of upd_same) (.cons (.str _) (.cons (.str _) .nil)), by decide +kernel, by decide +kernel, _, rfl, iteE (by decide +kernel) ?_⟩
        exact ⟨s2.trans (sb.trans (s5.trans sc)), _, _, rfl⟩
      · rw [if_neg q] at du
        refine ⟨_, rfl, _, _, rfl, rfl, _, rfl, iteE (decide_eq_false (by omega)) ⟨_, rfl, ?_⟩⟩
        refine ⟨_, _, du, .tup (SqT.of eb5) (.cons (.str _) (.cons (.int _) .nil)), shaped_syn _, shaped_syn _, _, rfl, iteE ?_ ?_⟩
        · show (!PyData.eqv (.tuple [.str "syntax", .int (((nestZ n).length + bb1 m : Nat) : Int)]) (.tuple [.str "syntax", .int (((nestZ n).length : Int) + (bb1 m : Int))])) = false
          rw [Int.natCast_add, eqv_si]
          rfl
        · exact ⟨s2.trans (sb.trans s5), _, _, rfl⟩
    · rintro σ H2 ⟨s2, x4, x5, rfl⟩
      refine ⟨(by show 8 ≤ sizeLine; decide), fun A1 hA1 => ?_⟩
      have sA := same_new (o := .lst [V.str "", V.str "globals ", V.str "kinds ", V.str "keep 1 ", V.str "def ", V.str "def q(", V.str "def q(&", V.str "def q(){"]) hA1
      have eA : upd H2 A1 (.lst [V.str "", V.str "globals ", V.str "kinds ", V.str "keep 1 ", V.str "def ", V.str "def q(", V.str "def q(&", V.str "def q(){"]) A1 = some (.lst [V.str "", V.str "globals ", V.str "kinds ", V.str "keep 1 ", V.str "def ", V.str "def q(", V.str "def q(&", V.str "def q(){"]) := upd_same
      generalize upd H2 A1 (.lst [V.str "", V.str "globals ", V.str "kinds ", V.str "keep 1 ", V.str "def ", V.str "def q(", V.str "def q(&", V.str "def q(){"]) = H3 at *
      refine ⟨_, rfl, (by show 2 ≤ sizeLine; decide), fun A2 hA2 => ?_⟩
      have sA2 := same_new (o := .lst [V.str "def q(){ a ", V.str "def q(){ risk "]) hA2
      have eA2 : upd H3 A2 (.lst [V.str "def q(){ a ", V.str "def q(){ risk "]) A2 = some (.lst [V.str "def q(){ a ", V.str "def q(){ risk "]) := upd_same
      have eA1 := sA2 _ _ eA
      generalize upd H3 A2 (.lst [V.str "def q(){ a ", V.str "def q(){ risk "]) = H4 at *
      refine ⟨_, _, _, _, rfl, rfl, eA1, eA2, (by show 10 ≤ sizeLine; decide), fun A3 hA3 => ?_⟩
      rw [show ([V.str "", V.str "globals ", V.str "kinds ", V.str "keep 1 ", V.str "def ", V.str "def q(", V.str "def q(&", V.str "def q(){"] ++ [V.str "def q(){ a ", V.str "def q(){ risk "] : List V) = HEADS.map fun h => V.str h.1 from rfl]
      have sA3 := same_new (o := .lst (HEADS.map fun h => V.str h.1)) hA3
      have eA3 : upd H4 A3 (.lst (HEADS.map fun h => V.str h.1)) A3 = some (.lst (HEADS.map fun h => V.str h.1)) := upd_same
      generalize upd H4 A3 (.lst (HEADS.map fun h => V.str h.1)) = H5 at *
      have s05 : Same H H5 := sL.trans (s2.trans (sA.trans (sA2.trans sA3)))
      refine ⟨A3, rfl, ⟨_, SqL.of eA3⟩, for_it (walk_list (K := K) (a := A3) (xs := HEADS.map fun h => V.str h.1)) (fun i σ H' => Same H5 H' ∧ ∃ x4 x5 x7 x8 : Option V, σ = [some (.str odd), some (.int (n : Nat)), some (.str (sev d)), some (.str (nestZ n)), x4, x5, some (.ref A1), x7, x8]) ⟨Same.refl _, _, _, _, _, rfl⟩ (fun i σ H' _ h' => SqL.of (h'.1 _ _ eA3)) ?_ ?_⟩
      · rintro i x σ H6 H7 hil ⟨s6, x4, x5, x7, x8, rfl⟩ ⟨rfl, hx⟩
        rw [List.getElem?_map] at hx
        obtain ⟨hd, hm, rfl⟩ : ∃ y, HEADS[i]? = some y ∧ x = V.str y.1 := by
          cases q : HEADS[i]? with
          | none => rw [q] at hx; cases hx
          | some y => rw [q] at hx; exact ⟨y, rfl, (Option.some.inj hx).symm⟩
        have hmem := List.mem_of_getElem? hm
        have lh := (heads_ok hd hmem).2.2
        obtain ⟨t1, t2⟩ := head_tells (odd := odd) hmem d1 d2
        have t2 := t2 ho
        refine ⟨_, rfl, _, _, rfl, rfl, by rw [ls, e24]; omega, (by show 2 ≤ sizeLine; decide), fun B hB => ?_⟩
        obtain ⟨tls, htls⟩ : ∃ ms : List Str, ms = [("" : Str), " " ++ odd] := ⟨_, rfl⟩
        have htail : ∀ m ∈ tls, m.length ≤ 7 ∧ Tells (hd.1 ++ sev d ++ m) (.error (.syn hd.1.length)) := by
          intro m hm
          rw [htls] at hm
          simp only [List.mem_cons, List.not_mem_nil, or_false] at hm
          rcases hm with hm | hm <;> rw [hm]
          · exact ⟨by decide +kernel, t1⟩
          · exact ⟨by rw [len_add, ls]; omega, t2⟩
        rw [show ([V.str "", V.str (" " ++ odd)] : List V) = tls.map V.str by rw [htls]; rfl]
        have sB := same_new (o := .lst (tls.map V.str)) hB
        have eB : upd H7 B (.lst (tls.map V.str)) B = some (.lst (tls.map V.str)) := upd_same
        generalize upd H7 B (.lst (tls.map V.str)) = H8 at *
        refine ⟨B, rfl, ⟨_, SqL.of eB⟩, for_it (walk_list (K := K) (a := B) (xs := tls.map V.str)) (fun i σ H' => Same H8 H' ∧ ∃ x8 : Option V, σ = [some (.str odd), some (.int (n : Nat)), some (.str (sev d)), some (.str (nestZ n)), x4, x5, some (.ref A1), some (.str hd.1), x8]) ⟨Same.refl _, _, rfl⟩ (fun i σ H' _ h' => SqL.of (h'.1 _ _ eB)) ?_ ?_⟩
        · rintro j x σ H9 H10 hjl ⟨s9, x8', rfl⟩ ⟨rfl, hx⟩
          rw [List.getElem?_map] at hx
          obtain ⟨m, hm, rfl⟩ : ∃ y, tls[j]? = some y ∧ x = V.str y := by
            cases q : tls[j]? with
            | none => rw [q] at hx; cases hx
            | some y => rw [q] at hx; exact ⟨y, rfl, (Option.some.inj hx).symm⟩
          obtain ⟨lm, tm⟩ := htail m (List.mem_of_getElem? hm)
          refine ⟨_, rfl, _, rfl, _, _, rfl, rfl, by rw [lsv, e24]; omega, _, rfl, _, _, rfl, rfl, by rw [len_add, lsv, e24]; omega, tells_told (E := E0) tm fun u H11 s11 du => ?_⟩
          refine ⟨_, rfl, _, rfl, by omega, (by show 2 ≤ sizeLine; decide), fun c hc => ?_⟩
          have sc := same_new (o := .tup [.str "syntax", .int (hd.1.length : Nat)]) hc
          refine ⟨_, _, du.same sc, .tup (SqT.of upd_same) (.cons (.str _) (.cons (.int _) .nil)), shaped_syn _, shaped_syn _, _, rfl, iteE ?_ ?_⟩
          · show (!PyData.eqv (.tuple [.str "syntax", .int (hd.1.length : Nat)]) (.tuple [.str "syntax", .int (hd.1.length : Nat)])) = false
            rw [eqv_si]
            rfl
          · exact ⟨s9.trans (s11.trans sc), _, rfl⟩
        · rintro σ H9 ⟨s9, x8', rfl⟩
          exact ⟨s6.trans (sB.trans s9), _, _, _, _, rfl⟩
      · rintro σ H6 ⟨s6, x4, x5, x7, x8, rfl⟩
        have td : Tells ("def q(){" ++ repZ 2000 "if{") (.error (.large "nesting")) := by
          have := mre0 (n := 2000) (Nat.le_refl _)
          rw [if_pos (by decide)] at this
          exact this
        refine ⟨_, 2000, rfl, rfl, by rw [l3]; decide, by rw [l3]; decide, _, _, rfl, rfl, by rw [l8, len_repZ, l3, e24]; decide, tells_told (E := E0) td fun u H7 s7 du => ?_⟩
        refine ⟨(by show 2 ≤ sizeLine; decide), fun c hc => ?_⟩
        have sc := same_new (o := .tup [.str "large", .str "nesting"]) hc
        refine ⟨_, _, du.same sc, .tup (SqT.of upd_same) (.cons (.str _) (.cons (.str _) .nil)), by decide +kernel, by decide +kernel, ?_⟩
        rw [show PyData.eqv (toldD (.error (.large "nesting"))) (.tuple [.str "large", .str "nesting"]) = true by decide +kernel]
        exact k _ (s05.trans (s6.trans (s7.trans sc)))
end

/-! ### k05: the law's texts of a drawn tree -/
theorem tkw_len {t : List Nat} {sh : SH} (h : Tkw t sh) : ∃ s0, sh = s0 ++ [endH] ∧ (s0.map fun y => y.2.length).sum ≤ t.length ∧ s0.length ≤ t.length := by
  induction h with
  | nil => exact ⟨[], rfl, Nat.le_refl _, Nat.le_refl _⟩
  | @gap c t sh hc _ ih =>
    obtain ⟨s0, e, a, b⟩ := ih
    exact ⟨s0, e, Nat.le_succ_of_le a, Nat.le_succ_of_le b⟩
  | @sign c t sh hc _ ih =>
    obtain ⟨s0, e, a, b⟩ := ih
    refine ⟨(("mark", ⟨#[c]⟩) : Str × Str) :: s0, by rw [e]; rfl, ?_, Nat.succ_le_succ b⟩
    rw [List.map_cons, List.sum_cons, List.length_cons]
    show 1 + _ ≤ _
    omega
  | @word w t sh hw ha hk hn _ ih =>
    obtain ⟨s0, e, a, b⟩ := ih
    have wl : 0 < w.length := List.length_pos_iff.mpr hw
    refine ⟨(kindOf ⟨w.toArray⟩, (⟨w.toArray⟩ : Str)) :: s0, by rw [e]; rfl, ?_, ?_⟩
    · rw [List.map_cons, List.sum_cons, List.length_append]
      have : (⟨w.toArray⟩ : Str).length = w.length := rfl
      show (⟨w.toArray⟩ : Str).length + _ ≤ _
      omega
    · rw [List.length_append, List.length_cons]; omega
theorem joinT_len : ∀ l : SH, (joinT l).length ≤ (l.map fun y => y.2.length).sum + l.length
  | [] => Nat.zero_le _
  | [y] => by
    show (TL.tl y.2).length ≤ _
    rw [← TL.len_tl, List.map_cons, List.sum_cons]
    show _ ≤ _ + 1
    omega
  | y :: z :: l => by
    have ih := joinT_len (z :: l)
    have el : (joinT (y :: z :: l)).length = y.2.length + 1 + (joinT (z :: l)).length := by
      show (TL.tl y.2 ++ ([32] ++ joinT (z :: l))).length = _
      rw [List.length_append, List.length_append, TL.len_tl]
      show _ + (1 + _) = _
      omega
    rw [el, List.map_cons, List.sum_cons, List.length_cons]
    omega
/-- the words of tokens, with blanks between them -/
def wsT (l : SH) : Str := Txt.join " " (l.map Prod.snd)
theorem tl_wsT (l : SH) : TL.tl (wsT l) = joinT l := by
  unfold wsT
  rw [TL.join_eq, TL.tl_join, tl_sp, List.map_map]
  rfl
theorem wsT_len (l : SH) : (wsT l).length = (joinT l).length := by rw [TL.len_tl, tl_wsT]
theorem tokG_kind {y : Str × Str} (g : TokG y) : y.1 ≠ "end" ∧ y.1 ≠ "bad" := by
  rcases g with ⟨c, hc, rfl⟩ | ⟨_, _, h, k⟩
  · exact ⟨by show ("mark" : Str) ≠ "end"; decide +kernel, by show ("mark" : Str) ≠ "bad"; decide +kernel⟩
  · exact ⟨h ▸ kind_end _, k⟩
theorem lay_mem : ∀ {l : SH} {p : Nat} {k : TK}, k ∈ lay p l → (k.1, k.2.1) ∈ l
  | [], _, _, h => nomatch h
  | y :: r, p, k, h => by
    rcases List.mem_cons.mp h with rfl | z
    · exact List.mem_cons_self
    · exact List.mem_cons_of_mem _ (lay_mem z)
theorem lay_inn {l : SH} (g : ∀ y ∈ l, TokG y) (p : Nat) : Inn (lay p l) := fun k hk => tokG_kind (g _ (lay_mem hk))
theorem num_g {n : Nat} (h : n < 10) : NumG (numS n) := by
  have h12 : n < 10 ^ 12 := Nat.lt_trans h (by decide)
  exact ⟨by have := num_len h12; omega, fun _ => ⟨_, num_int h12⟩⟩
theorem lay_gd {W : List Str} {l : SH} (h : NmS W l) (p : Nat) : GdK W (lay p l) := fun k hk => by
  obtain ⟨h1, h2⟩ := h _ (lay_mem hk)
  exact ⟨h1, fun e => by
    obtain ⟨n, hn, e2⟩ := h2 e
    have e2 : k.2.1 = numS n := e2
    show NumG k.2.1
    rw [e2]
    exact num_g hn⟩
/-- all that is known of a drawn tree's tokens -/
structure DrTok (sh : SH) : Prop where
  ne : sh ≠ []
  tok : ∀ y ∈ sh, TokG y
  rd : ∀ l, shOf l = sh ++ [endH] → ∃ l', rProgram l = .ok l'
  nm : ∃ W : List Str, W.length = 16 ∧ NmS W sh
  len : sh.length ≤ 200000
  sum : (sh.map fun y => y.2.length).sum ≤ 200000
section
variable {sh : SH} {odd : Str}
theorem take_le (l : SH) (n : Nat) : ((l.take n).map fun y => y.2.length).sum ≤ (l.map fun y => y.2.length).sum ∧ (l.take n).length ≤ l.length := by
  refine ⟨?_, by rw [List.length_take]; omega⟩
  have : (l.map fun y => y.2.length).sum = ((l.take n).map fun y => y.2.length).sum + ((l.drop n).map fun y => y.2.length).sum := by rw [← List.sum_append, ← List.map_append, List.take_append_drop]
  omega
/-- the text ends in what is no token -/
theorem cut_tells (D : DrTok sh) (ho : odd ∈ ODDS) (at_ : Nat) {t : Str} (ht : t.length ≤ 500000) (hn : NoAl (TL.tl t)) : Tells (wsT (sh.take at_) ++ " " ++ (odd ++ t)) (.error (.syn ((wsT (sh.take at_)).length + 1))) := by
  obtain ⟨o1, o2⟩ := odd_facts ho
  obtain ⟨W, lW, hW⟩ := D.nm
  have gt : ∀ y ∈ sh.take at_, TokG y := fun y hy => D.tok y (List.mem_of_mem_take hy)
  have hs := take_le sh at_
  have ls := D.len
  have ss := D.sum
  have jl := joinT_len (sh.take at_)
  have wl := wsT_len (sh.take at_)
  have tk := lay_blank gt (o1 ((joinT (sh.take at_)).length + 1) (TL.tl t) hn)
  have lk := lay_len (sh.take at_) 0
  refine .of (W := W) (by rw [len_add, len_add, len_add, show (" " : Str).length = 1 by decide +kernel]; omega) (ts := lay 0 (sh.take at_) ++ [badT ((joinT (sh.take at_)).length + 1)]) ?_ (by rw [List.length_append]; show _ + 1 ≤ _; omega) (by omega) ((lay_gd (fun y hy => hW y (List.mem_of_mem_take hy)) 0).app (.cons (gd_bad _) .nil)) ?_
  · rw [TL.tl_append, TL.tl_append, TL.tl_append, tl_wsT, tl_sp, List.append_assoc]
    exact tk
  · obtain ⟨l', hl⟩ := D.rd (lay 0 (sh.take at_) ++ (lay 0 (sh.drop at_) ++ [(("end", "", 0) : TK)])) (by
      unfold shOf
      rw [List.map_append, List.map_append]
      have e1 := sh_lay (sh.take at_) 0
      have e2 := sh_lay (sh.drop at_) 0
      unfold shOf at e1 e2
      rw [e1, e2, ← List.append_assoc, List.take_append_drop]
      rfl)
    rw [prog_cut (lay_inn gt 0) hl, wl]
theorem whole_tells (D : DrTok sh) : ∃ l', Tells (wsT sh) (.ok l') := by
  obtain ⟨W, lW, hW⟩ := D.nm
  have ls := D.len
  have ss := D.sum
  have jl := joinT_len sh
  have wl := wsT_len sh
  have lk := lay_len sh 0
  obtain ⟨l', hl⟩ := D.rd (lay 0 sh ++ [(("end", "", (joinT sh).length) : TK)]) (by
    unfold shOf
    have e1 := sh_lay sh 0
    unfold shOf at e1
    rw [List.map_append, e1]
    rfl)
  exact ⟨l', .of (W := W) (by omega) (by rw [tl_wsT]; exact lay_end D.ne D.tok) (by rw [List.length_append]; show _ + 1 ≤ _; omega) (by omega) ((lay_gd hW 0).app (.cons gd_end .nil)) (by rw [hl])⟩
/-! another number -/
theorem RelN.of_sh : ∀ {l l' : Tl}, shOf l = shOf l' → RelN false l l'
  | [], [], _ => .nil rfl
  | [], _ :: _, h => nomatch h
  | _ :: _, [], h => nomatch h
  | x :: l, y :: l', h => by
    have h : (x.1, x.2.1) :: shOf l = (y.1, y.2.1) :: shOf l' := h
    injection h with h1 h2
    injection h1 with h3 h4
    exact .cons h3 h4 (RelN.of_sh h2)
theorem RelN.lay_app {b : Bool} : ∀ (A : SH) (p q : Nat) {l l' : Tl}, RelN b l l' → RelN b (lay p A ++ l) (lay q A ++ l')
  | [], _, _, _, _, r => r
  | y :: A, p, q, _, _, r => .cons rfl rfl (RelN.lay_app A _ _ r)
theorem num_par {w : Str} (g : TokG ("number", w)) : w ≠ "(" := fun e => by
  rcases g with ⟨c, hc, e2⟩ | ⟨_, h, _, _⟩
  · exact absurd (congrArg Prod.fst e2) (by show ¬ (("number" : Str) = "mark"); decide +kernel)
  · have h : ∀ c ∈ TL.tl w, al c = true := h
    rw [e] at h
    exact absurd (h 40 (by decide +kernel)) (by decide +kernel)
variable {A B : SH} {w : Str} {d : Nat}
structure NumAt (sh A B : SH) (w : Str) : Prop where
  e : sh = A ++ (("number", w) : Str × Str) :: B
abbrev newT (A B : SH) (d : Nat) : SH := A ++ (("number", sev d) : Str × Str) :: B
theorem sum_mid (A B : SH) (y : Str × Str) : ((A ++ y :: B).map fun y => y.2.length).sum = (A.map fun y => y.2.length).sum + (y.2.length + (B.map fun y => y.2.length).sum) := by
  rw [List.map_append, List.sum_append, List.map_cons, List.sum_cons]
theorem new_facts (D : DrTok sh) (N : NumAt sh A B w) (h1 : 11 ≤ d) (h2 : d ≤ 13) : (∀ y ∈ newT A B d, TokG y) ∧ (newT A B d).length ≤ 200000 ∧ ((newT A B d).map fun y => y.2.length).sum ≤ 200013 ∧ ∃ W : List Str, W.length = 16 ∧ ∀ p, GdK W (lay p (newT A B d)) := by
  obtain ⟨g1, g2, g3, g4⟩ := sev_g d h1 h2
  obtain ⟨W, lW, hW⟩ := D.nm
  have e := N.e
  subst e
  have ls := D.len
  have ss := D.sum
  rw [sum_mid] at ss
  refine ⟨fun y hy => ?_, by rw [List.length_append, List.length_cons] at ls ⊢; exact ls, ?_, W, lW, fun p k hk => ?_⟩
  · rcases List.mem_append.mp hy with z | z
    · exact D.tok y (List.mem_append_left _ z)
    · rcases List.mem_cons.mp z with rfl | z
      · exact g2
      · exact D.tok y (List.mem_append_right _ (List.mem_cons_of_mem _ z))
  · rw [sum_mid]
    show _ + ((sev d).length + _) ≤ _
    omega
  · have hk := lay_mem hk
    rcases List.mem_append.mp hk with z | z
    · obtain ⟨q1, q2⟩ := hW _ (List.mem_append_left _ z)
      exact ⟨q1, fun e => by obtain ⟨n, hn, e2⟩ := q2 e; exact e2 ▸ num_g hn⟩
    · rcases List.mem_cons.mp z with z | z
      · rw [z]; exact gd_numb g1
      · obtain ⟨q1, q2⟩ := hW _ (List.mem_append_right _ (List.mem_cons_of_mem _ z))
        exact ⟨q1, fun e => by obtain ⟨n, hn, e2⟩ := q2 e; exact e2 ▸ num_g hn⟩
theorem old_read (D : DrTok sh) (N : NumAt sh A B w) (q : Nat) : ∃ l', rProgram (lay 0 A ++ ((("number", w, q) : TK) :: (lay 0 B ++ [(("end", "", 0) : TK)]))) = .ok l' := D.rd _ (by
  have e1 := sh_lay A 0
  have e2 := sh_lay B 0
  unfold shOf at e1 e2 ⊢
  rw [List.map_append, List.map_cons, List.map_append, e1, e2, N.e, List.append_assoc]
  rfl)
theorem lay_mid (A B : SH) (y : Str × Str) : ∃ q r, lay 0 (A ++ y :: B) = lay 0 A ++ ((y.1, y.2, q) : TK) :: lay r B := by
  obtain ⟨q, e⟩ := lay_app A (y :: B) 0
  exact ⟨q, q + y.2.length + 1, e⟩
/-- a number that is not too great -/
theorem new_ok (D : DrTok sh) (N : NumAt sh A B w) (h1 : 11 ≤ d) (h2 : d ≤ 12) (e : Nat) : ∃ l', rProgram (lay 0 (newT A B d) ++ [(("end", "", e) : TK)]) = .ok l' := by
  obtain ⟨g1, g2, g3, g4⟩ := sev_g d h1 (by omega)
  obtain ⟨q, r, e2⟩ := lay_mid A B (("number", sev d) : Str × Str)
  obtain ⟨l0, h0⟩ := old_read D N 0
  have gw : TokG ("number", w) := D.tok _ (by rw [N.e]; exact List.mem_append_right _ List.mem_cons_self)
  have rel : RelN false (lay 0 A ++ ((("number", w, 0) : TK) :: (lay 0 B ++ [(("end", "", 0) : TK)]))) (lay 0 (newT A B d) ++ [(("end", "", e) : TK)]) := by
    rw [show lay 0 (newT A B d) = _ from e2, List.append_assoc]
    exact RelN.lay_app A 0 0 (.num rfl rfl (num_par gw) g4 (by show (sev d).length ≤ 12; omega) (RelN.lay_app B 0 r (.cons rfl rfl (.nil rfl))))
  rcases tr_prog _ _ l0 rel h0 with ⟨R', z, _⟩ | ⟨z, _⟩
  · exact ⟨R', z⟩
  · cases z
theorem num_ne (A B : SH) (d : Nat) : newT A B d ≠ [] := by unfold newT; simp
theorem num_fine (D : DrTok sh) (N : NumAt sh A B w) (h1 : 11 ≤ d) (h2 : d ≤ 12) : ∃ l', Tells (wsT (newT A B d)) (.ok l') := by
  obtain ⟨f1, f2, f3, W, lW, f4⟩ := new_facts D N h1 (by omega)
  obtain ⟨l', hl⟩ := new_ok D N h1 h2 (joinT (newT A B d)).length
  have jl := joinT_len (newT A B d)
  have wl := wsT_len (newT A B d)
  have lk := lay_len (newT A B d) 0
  exact ⟨l', .of (W := W) (by omega) (by rw [tl_wsT]; exact lay_end (num_ne A B d) f1) (by rw [List.length_append]; show _ + 1 ≤ _; omega) (by omega) ((f4 0).app (.cons gd_end .nil)) (by rw [hl])⟩
theorem num_odd (D : DrTok sh) (N : NumAt sh A B w) (ho : odd ∈ ODDS) (h1 : 11 ≤ d) (h2 : d ≤ 13) : Tells (wsT (newT A B d) ++ " " ++ odd) (.error (if d = 13 then .large "numbers" else .syn ((wsT (newT A B d)).length + 1))) := by
  obtain ⟨o1, o2⟩ := odd_facts ho
  obtain ⟨g1, g2, g3, g4⟩ := sev_g d h1 h2
  obtain ⟨f1, f2, f3, W, lW, f4⟩ := new_facts D N h1 h2
  have jl := joinT_len (newT A B d)
  have wl := wsT_len (newT A B d)
  have lk := lay_len (newT A B d) 0
  have ob := o1 ((joinT (newT A B d)).length + 1) [] noAl_nil
  rw [List.append_nil] at ob
  have tk := lay_blank f1 ob
  refine .of (W := W) (by rw [len_add, len_add, show (" " : Str).length = 1 by decide +kernel]; omega) (ts := lay 0 (newT A B d) ++ [badT ((joinT (newT A B d)).length + 1)]) ?_ (by rw [List.length_append]; show _ + 1 ≤ _; omega) (by omega) ((f4 0).app (.cons (gd_bad _) .nil)) ?_
  · rw [TL.tl_append, TL.tl_append, tl_wsT, tl_sp, List.append_assoc]
    exact tk
  · by_cases q : d = 13
    · rw [if_pos q]
      obtain ⟨q1, r, e2⟩ := lay_mid A B (("number", sev d) : Str × Str)
      obtain ⟨l0, h0⟩ := old_read D N 0
      have gw : TokG ("number", w) := D.tok _ (by rw [N.e]; exact List.mem_append_right _ List.mem_cons_self)
      have rel : RelN true (lay 0 A ++ ((("number", w, 0) : TK) :: (lay 0 B ++ [(("end", "", 0) : TK)]))) (lay 0 (newT A B d) ++ [badT ((joinT (newT A B d)).length + 1)]) := by
        rw [show lay 0 (newT A B d) = _ from e2, List.append_assoc]
        exact RelN.lay_app A 0 0 (.long rfl rfl rfl (num_par gw) g4 (by show ¬ (sev d).length ≤ 12; omega))
      rw [prog_long ?_ rel h0]
      refine ⟨lay 0 A ++ (("number", w, 0) : TK) :: lay 0 B, (("end", "", 0) : TK), by simp, fun k hk => ?_, .inl rfl⟩
      rcases List.mem_append.mp hk with z | z
      · exact lay_inn (fun y hy => D.tok y (by rw [N.e]; exact List.mem_append_left _ hy)) 0 k z
      · rcases List.mem_cons.mp z with rfl | z
        · exact tokG_kind gw
        · exact lay_inn (fun y hy => D.tok y (by rw [N.e]; exact List.mem_append_right _ (List.mem_cons_of_mem _ hy))) 0 k z
    · rw [if_neg q]
      obtain ⟨l', hl⟩ := new_ok D N h1 (by omega) 0
      rw [prog_cut (lay_inn f1 0) hl, wl]
end
theorem drawn_tok {t : Tr} (D : DrawnT t) : DrTok (shT 6 t) := by
  have g := drawn_G D
  have tk := tk_text g
  have tl := (text_len g (by decide)).2
  obtain ⟨s0, e0, a, b⟩ := tkw_len tk
  obtain ⟨s1, e1, c, _⟩ := tkw_words tk
  have e0 := List.append_cancel_right e0
  have e1 := List.append_cancel_right e1
  subst e0
  subst e1
  rw [← TL.len_tl] at a b
  refine ⟨fun z => ?_, c, fun l h => prog_sh g (by decide) h, drawn_nm D, by omega, by omega⟩
  obtain ⟨ws, nok, lws, nN, nK, hN, hK1, hK2, en, ek, kp, lkp, lf1, _⟩ := D.ex
  have z := (List.append_eq_nil_iff.mp (List.append_eq_nil_iff.mp (List.append_eq_nil_iff.mp z).2).2).2
  cases hf : t.fns with
  | nil => rw [hf] at lf1; exact absurd lf1 (by decide)
  | cons f r => rw [hf, List.flatMap_cons] at z; cases (List.append_eq_nil_iff.mp z).1

/-! ### k05: the law -/
abbrev sLaw : Stmt := topS 41
abbrev NLaw : List Str := ["_law_script", "_law_pool_here", "_law_choice", "_law_spot", "_law_odd", "_law_digits", "_law_count", "_law_wrong", "_law_tokens_here", "_law_at", "_law_text_here", "_law_rest", "_law_due", "_law_spots", "_law_k"]
abbrev PLaw : List Str := ["_law_script"]
theorem scLaw : FnScope NLaw PLaw (defScope sLaw) := ⟨rfl, rfl, rfl, by decide +kernel, rfl, by decide +kernel, by decide +kernel⟩
theorem at_lt {xs : List V} {r : Int} (r0 : 0 ≤ r) (r1 : r < xs.length) : ∃ v, v ∈ xs ∧ atI xs r = some v := by
  obtain ⟨j, rfl⟩ : ∃ j : Nat, r = (j : Int) := ⟨r.toNat, by omega⟩
  have hj : j < xs.length := by omega
  exact ⟨xs[j], List.getElem_mem hj, atI_nat (List.getElem?_eq_getElem hj)⟩
theorem dpAll_int {K : PySem.W.Frag} {H : Hp} : ∀ l : List Int, DpAll K H (l.map V.int) (l.map PyData.int)
  | [] => .nil
  | x :: r => .cons (.int x) (dpAll_int r)
theorem shaped_ints (l : List Int) : SeqAt.shaped (.list (l.map PyData.int)) = true := by
  have l1 : PyData.canLayAll0 (l.map PyData.int) = true := by
    induction l with
    | nil => simp [PyData.canLayAll0]
    | cons x r ih => simp only [List.map_cons, PyData.canLayAll0, PyData.canLay0, ih, Bool.true_and]
  have d1 : PyData.depthAll (l.map PyData.int) ≤ 1 := by
    clear l1
    induction l with
    | nil => simp [PyData.depthAll]
    | cons x r ih => simp only [List.map_cons, PyData.depthAll, PyData.depth]; omega
  unfold SeqAt.shaped
  simp only [PyData.canLay0, PyData.depth, l1, Bool.true_and]
  exact decide_eq_true (by omega)
theorem eqv_emp (ds : List PyData) : PyData.eqv (.list ds) (.list []) = ds.isEmpty := by cases ds <;> simp [PyData.eqv, PyData.eqvAll]
/-- a token that begins with a digit -/
def dgB (y : Str × Str) : Bool := match TL.tl y.2 with
  | [] => false
  | c :: _ => decide (c ∈ ("0123456789" : Str).cps.toList)
def dgK (sh : SH) (k : Nat) : Bool := match sh[k]? with
  | some y => dgB y
  | none => false
theorem dig_sig : ∀ c ∈ ("0123456789" : Str).cps.toList, c ∉ SIG.cps.toList ∧ c ∉ LET.cps.toList := by decide +kernel
theorem dgB_num {y : Str × Str} (g : TokG y) (h : dgB y = true) : y.1 = "number" := by
  unfold dgB at h
  cases e : TL.tl y.2 with
  | nil => rw [e] at h; cases h
  | cons c r =>
    rw [e] at h
    have hc := dig_sig c (of_decide_eq_true h)
    rcases g with ⟨c2, hc2, e2⟩ | ⟨g1, g2, g3, g4⟩
    · subst e2
      have e : [c2] = c :: r := e
      injection e with e _
      exact absurd (e ▸ hc2) hc.1
    · rw [← g3]
      have nk : inV (.str y.2) (KWS.map V.str) = false := by
        cases q : inV (.str y.2) (KWS.map V.str) with
        | false => rfl
        | true =>
          unfold inV at q
          obtain ⟨v, hv, q⟩ := List.any_eq_true.mp q
          obtain ⟨k, hk, rfl⟩ := List.mem_map.mp hv
          have q : k = y.2 := by
            have q : (k == y.2) = true := q
            simpa using q
          exact absurd (kws_let k hk c (by rw [q]; show c ∈ TL.tl y.2; rw [e]; exact List.mem_cons_self)) hc.2
      rw [← g3] at g4
      unfold kindOf at g4 ⊢
      rw [nk, if_neg (by decide), show y.2.cps.toList = c :: r from e] at g4 ⊢
      simp only at g4 ⊢
      rw [if_neg hc.2] at g4 ⊢
      by_cases q1 : (c :: r).all dg = false
      · rw [if_pos q1] at g4; exact absurd rfl g4
      · rw [if_neg q1] at g4 ⊢
        by_cases q2 : c = 48 ∧ 1 < (c :: r).length
        · rw [if_pos q2] at g4; exact absurd rfl g4
        · rw [if_neg q2]
theorem dgK_at {sh : SH} (g : ∀ y ∈ sh, TokG y) {k : Nat} (h : dgK sh k = true) : k < sh.length ∧ ∃ w, NumAt sh (sh.take k) (sh.drop (k + 1)) w := by
  unfold dgK at h
  cases e : sh[k]? with
  | none => rw [e] at h; cases h
  | some y =>
    rw [e] at h
    have hk := (List.getElem?_eq_some_iff.mp e).1
    have n1 := dgB_num (g y (List.mem_of_getElem? e)) h
    refine ⟨hk, y.2, ⟨?_⟩⟩
    have : y = (("number", y.2) : Str × Str) := by rw [← n1]
    rw [← this]
    have e2 : sh.drop k = y :: sh.drop (k + 1) := by
      rw [List.drop_eq_getElem_cons hk]
      rw [(List.getElem?_eq_some_iff.mp e).2]
    rw [← e2, List.take_append_drop]
abbrev spt (sh : SH) (i : Nat) : List Int := ((List.range i).filter (dgK sh)).map fun k : Nat => (0 : Int) + (k : Int)
theorem ws_map (l : SH) : (l.map fun y => V.str y.2) = (l.map Prod.snd).map V.str := by rw [List.map_map]; rfl
theorem ws_sum (l : SH) : ((l.map Prod.snd).map fun x => x.length).sum = (l.map fun y => y.2.length).sum := by rw [List.map_map]; rfl
theorem drop_le (l : SH) (n : Nat) : ((l.drop n).map fun y => y.2.length).sum ≤ (l.map fun y => y.2.length).sum ∧ (l.drop n).length ≤ l.length := by
  refine ⟨?_, by rw [List.length_drop]; omega⟩
  have : (l.map fun y => y.2.length).sum = ((l.take n).map fun y => y.2.length).sum + ((l.drop n).map fun y => y.2.length).sum := by rw [← List.sum_append, ← List.map_append, List.take_append_drop]
  omega
theorem wsT_le (l : SH) : (wsT l).length ≤ (l.map fun y => y.2.length).sum + l.length := by rw [wsT_len]; exact joinT_len l
/-- what is no text, and may be compared with itself -/
structure WrongV (K : PySem.W.Frag) (H : Hp) (v : V) (d : PyData) : Prop where
  ns : NoStr K H v
  dp : Dp K H v d
  sh : SeqAt.shaped (.tuple [.str "text", d]) = true
  eq : PyData.eqv (.tuple [.str "text", d]) (.tuple [.str "text", d]) = true
structure TxL5 (mg : Str → Option Value) : Prop where
  n_len : mg "len" = none
  n_range : mg "range" = none
def spLaw (K : PySem.W.Frag) : Sp := fun vs H Q _ => ∃ (a : Addr) (ns : List Int), vs = [.ref a] ∧ SqL K H a (ns.map V.int) ∧ ns.length ≤ 63 ∧ ∀ H', Q (.bl true) H'
section
variable {P : Program} {w : World} {K : PySem.W.Frag} {mg : Str → Option Value} {base : Heap}
theorem ok_Law {f : Addr} {fd : FuncData} (F : Fun K "law" "law" sLaw f fd) (T : TxL5 mg) (GP : Has P w K mg base CX0 1 "_law_pool" PPool (spPool K)) (GD : Has P w K mg base CX0 2 "_law_draw" PDraw spDraw) (GT : Has P w K mg base CX0 16 "_law_tree" PLTr (spLTr K)) (GX : Has P w K mg base CX0 11 "_law_text" PLTx (spLTx K 6))
    (GTd : Has P w K mg base CX0 (9 + 3 * 30 + 1 + 1 + 1 + 1) "_law_told" PLTd (spLTd K)) (GN : Has P w K mg base CX0 1 "_law_nested" PLNs spLNs) (GC : Has P w K mg base CX0 (9 + 3 * 30 + 1 + 1 + 1 + 1 + 1) "_law_cut_right" PLCr spLCr) (GK : HasT P w K mg base CX0 1 "_law_tokens" PLTk spLTk) :
    FnOk P w K mg base CX0 (9 + 3 * 30 + 1 + 1 + 1 + 1 + 1 + 1) f fd PLaw (spLaw K) := by
  refine F.ok scLaw (fun vs H Q E h => ?_) (fun cdv A outer s H vs Q E hr h => ?_)
  · obtain ⟨a, ns, rfl, _⟩ := h
    rfl
  · obtain ⟨sc, ns, rfl, hS, hl, k⟩ := h
    have hr1 := hr.mono (j := 1) (by decide)
    have hr2 := hr.mono (j := 2) (by decide)
    have hr11 := hr.mono (j := 11) (by decide)
    have hr16 := hr.mono (j := 16) (by decide)
    have hr103 := hr.mono (j := 9 + 3 * 30 + 1 + 1 + 1 + 1) (by decide)
    refine ⟨_, (psk_set (i := 1) scLaw.nd rfl rfl (pe_callH GP hr1 rfl pass0 (pa_cons (pv 0) pa_nil))
  (psk_cons (ps_set (i := 2) scLaw.nd rfl (Or.inl rfl) (pe_callH GD hr2 rfl pass0 (pa_cons (pv 1) (pa_cons pe_int pa_nil))))
  (psk_cons (ps_set (i := 3) scLaw.nd rfl (Or.inl rfl) (pe_callH GD hr2 rfl pass0 (pa_cons (pv 1) (pa_cons (pe_op op_pow pe_int pe_int) pa_nil))))
  (psk_cons (ps_set (i := 4) scLaw.nd rfl (Or.inl rfl) (pe_ix (r := rIxL K) ix_list (pe_lst (pa_cons pe_str (pa_cons pe_str (pa_cons pe_str (pa_cons pe_str (pa_cons pe_str (pa_cons pe_str (pa_cons pe_str (pa_cons pe_str (pa_cons pe_str (pa_cons pe_str (pa_cons pe_str (pa_cons pe_str (pa_cons pe_str (pa_cons pe_str pa_nil))))))))))))))) (pe_callH GD hr2 rfl pass0 (pa_cons (pv 1) (pa_cons pe_int pa_nil))) (fun _ _ => rfl)))
  (psk_cons (ps_set (i := 5) scLaw.nd rfl (Or.inl rfl) (pe_op op_add pe_int (pe_callH GD hr2 rfl pass0 (pa_cons (pv 1) (pa_cons pe_int pa_nil)))))
  (psk_cons (ps_set (i := 6) scLaw.nd rfl (Or.inl rfl) (pe_op op_add pe_int (pe_callH GD hr2 rfl pass0 (pa_cons (pv 1) (pa_cons pe_int pa_nil)))))
  (psk_cons (ps_set (i := 7) scLaw.nd rfl (Or.inl rfl) (pe_ix (r := rIxL K) ix_list (pe_lst (pa_cons pe_non (pa_cons pe_int (pa_cons (pe_lst (pa_cons pe_str pa_nil)) (pa_cons (pe_tup (pa_cons pe_str pa_nil)) (pa_cons pe_bl (pa_cons (pe_op op_pow pe_int pe_int) pa_nil))))))) (pe_callH GD hr2 rfl pass0 (pa_cons (pv 1) (pa_cons pe_int pa_nil))) (fun _ _ => rfl)))
  (psk_cons (ps_if (pt_cmpR (op_neD hr.units) (pe_callH GTd hr103 rfl pass0 (pa_cons (pv 7) pa_nil)) (pe_tup (pa_cons pe_str (pa_cons (pv 7) pa_nil))) (nomark _))
  (pss_one (ps_ret pe_bl))
  pss_nil)
  (psk_cons (ps_if (pt_cmpR (op_neD hr.units) (pe_callH GTd hr103 rfl pass0 (pa_cons (pe_callH GN hr1 rfl pass0 (pa_cons (pv 6) pa_nil)) pa_nil)) (pe_ifExp (pt_cmpR op_gt (pv 6) pe_int (nomark _)) (pe_tup (pa_cons pe_str (pa_cons pe_str pa_nil))) (pe_tup (pa_cons pe_str (pa_cons pe_int pa_nil)))) (nomark _))
  (pss_one (ps_ret pe_bl))
  pss_nil)
  (psk_cons (ps_if (pt_not (pt_val (pe_callH GC hr rfl pass0 (pa_cons (pv 4) (pa_cons (pv 6) (pa_cons (pe_op op_repM pe_str (pv 5)) pa_nil))))))
  (pss_one (ps_ret pe_bl))
  pss_nil)
  (psk_pst (pst_setP (i := 8) scLaw.nd rfl (Or.inr rfl) (pet_callH GK hr1 rfl pass0 (pa_cons (pe_callH GX hr11 rfl pass0 (pa_cons (pe_callH GT hr16 rfl pass0 (pa_cons (pv 1) pa_nil)) pa_nil)) pa_nil)))
  (psk_of (pss_cons (ps_set (i := 9) scLaw.nd rfl (Or.inl rfl) (pe_op op_mod (pv 3) (pe_op op_add (pe_callB call_len_seq (by rfl) T.n_len bb_len (pa_cons (pv 8) pa_nil)) pe_int)))
  (pss_cons (ps_if (pt_cmpR op_lt (pv 2) pe_int (nomark _))
  (pss_cons (ps_par (i := 10) (j := 11) (by rfl) scLaw.nd rfl rfl (by decide) rfl rfl (pa_cons (pe_op op_add_str (pe_join pe_str (pe_slice sl_list (pv 8) po_none (po_some (pv 9)))) pe_str) (pa_cons (pe_join pe_str (pe_slice sl_list (pv 8) (po_some (pv 9)) po_none)) pa_nil)) (by rfl))
  (pss_cons (ps_set (i := 12) scLaw.nd rfl (Or.inl rfl) (pe_tup (pa_cons pe_str (pa_cons (pe_callB call_len_str (by rfl) T.n_len bb_len (pa_cons (pv 10) pa_nil)) pa_nil))))
  (pss_cons (ps_if (pt_cmpR (op_neD hr.units) (pe_callH GTd hr103 rfl pass0 (pa_cons (pe_op op_add_str (pe_op op_add_str (pe_op op_add_str (pv 10) (pv 4)) pe_str) (pv 11)) pa_nil)) (pv 12) (nomark _))
  (pss_one (ps_ret pe_bl))
  pss_nil)
  (pss_one (ps_ret (pe_cmpR (op_eqD hr.units) (pe_callH GTd hr103 rfl pass0 (pa_cons (pe_op op_add_str (pe_op op_add_str (pe_op op_add_str (pv 10) (pv 4)) pe_str) (pv 11)) pa_nil)) (pv 12) (nomark _)))))))
  pss_nil)
  (pss_cons (ps_setLc (i := 13) (own := [("_law_k", 14)]) (g := gName 14) rfl scLaw.nd rfl rfl (sw_true rfl rfl rfl (by decide +kernel)) (pi_range1 (by rfl) T.n_range (pa_cons (pe_callB call_len_seq (by rfl) T.n_len bb_len (pa_cons (pv 8) pa_nil)) pa_nil)) (blkOk_by (own := [("_law_k", 14)]) (N := NLaw) (sc := (defScope sLaw)) (by decide +kernel)) (fun _ _ _ _ _ => (pg_name (i := 14) scLaw.nd rfl (Or.inl rfl))) (fun _ _ _ _ _ => (pts_one (pt_cmpR op_in_sign (pe_ix ix_str (pe_ix (r := rIxL K) ix_list (pv 8) (pv 14) (fun _ _ => rfl)) pe_int (fun _ _ => rfl)) pe_str (by rfl)))) (fun _ _ _ _ _ => (pv 14)))
  (pss_cons (ps_if (pt_cmpR (op_eqD hr.units) (pv 13) (pe_lst pa_nil) (nomark _))
  (pss_one (ps_ret (pe_cmpR (op_eqD hr.units) (pe_callH GTd hr103 rfl pass0 (pa_cons (pe_join pe_str (pv 8)) pa_nil)) (pe_tup (pa_cons pe_str (pa_cons pe_int pa_nil))) (nomark _))))
  pss_nil)
  (pss_cons (ps_set (i := 9) scLaw.nd rfl (Or.inl rfl) (pe_ix (r := rIxL K) ix_list (pv 13) (pe_op op_mod (pv 3) (pe_callB call_len_seq (by rfl) T.n_len bb_len (pa_cons (pv 13) pa_nil))) (fun _ _ => rfl)))
  (pss_cons (ps_set (i := 10) scLaw.nd rfl (Or.inl rfl) (pe_join pe_str (pe_op op_cat (pe_op op_cat (pe_slice sl_list (pv 8) po_none (po_some (pv 9))) (pe_lst (pa_cons (pe_op op_repM pe_str (pv 5)) pa_nil))) (pe_slice sl_list (pv 8) (po_some (pe_op op_add (pv 9) pe_int)) po_none))))
  (pss_cons (ps_if (pt_cmpR op_eq (pv 5) pe_int (nomark _))
  (pss_one (ps_ret (pe_cmpR (op_eqD hr.units) (pe_callH GTd hr103 rfl pass0 (pa_cons (pe_op op_add_str (pe_op op_add_str (pv 10) pe_str) (pv 4)) pa_nil)) (pe_tup (pa_cons pe_str (pa_cons pe_str pa_nil))) (nomark _))))
  pss_nil)
  (pss_one (ps_ret (pe_and (pe_cmpR (op_eqD hr.units) (pe_callH GTd hr103 rfl pass0 (pa_cons (pv 10) pa_nil)) (pe_tup (pa_cons pe_str (pa_cons pe_int pa_nil))) (nomark _)) (pe_one (pe_cmpR (op_eqD hr.units) (pe_callH GTd hr103 rfl pass0 (pa_cons (pe_op op_add_str (pe_op op_add_str (pv 10) pe_str) (pv 4)) pa_nil)) (pe_tup (pa_cons pe_str (pa_cons (pe_op op_add (pe_callB call_len_str (by rfl) T.n_len bb_len (pa_cons (pv 10) pa_nil)) pe_int) pa_nil))) (nomark _))))))))))))))))))))))))), ?_⟩
    have e24 : sizeLine = 2 ^ 24 := rfl
    refine ⟨_, rfl, sc, ns, rfl, hS, hl, fun p c H1 s1 np nc P1 => ?_⟩
    refine ⟨_, rfl, p, c, _, 0, 6, rfl, P1, by decide, by decide, by decide, fun ch H2 ch0 ch1 P2 b2 => ?_⟩
    refine ⟨_, rfl, _, _, rfl, rfl, ⟨by decide, by decide, by decide⟩, p, c, _, 1, _, rfl, P2, by decide, by decide, by decide, fun spot H3 sp0 sp1 P3 b3 => ?_⟩
    refine ⟨(by show 14 ≤ sizeLine; decide), fun a1 ha1 => ?_⟩
    have so := same_new (o := .lst (ODDS.map V.str)) ha1
    have a1p := P3.ne1 ha1
    have a1c := P3.ne2 ha1
    have P3 := P3.same so
    have ea1 : upd H3 a1 (.lst (ODDS.map V.str)) a1 = some (.lst (ODDS.map V.str)) := upd_same
    refine ⟨_, rfl, p, c, _, 2, 14, rfl, P3, by decide, by decide, by decide, fun r H4 r0 r1 P4 b4 => ?_⟩
    have e4 := b4 _ _ ea1 a1p a1c
    obtain ⟨v4, hv4, at4⟩ := at_lt (xs := ODDS.map V.str) r0 r1
    obtain ⟨odd, ho, rfl⟩ := List.mem_map.mp hv4
    refine ⟨a1, _, r, _, rfl, rfl, SqL.of e4, at4, ?_⟩
    refine ⟨_, rfl, p, c, _, 3, 3, rfl, P4, by decide, by decide, by decide, fun dg H5 dg0 dg1 P5 b5 => ⟨_, _, rfl, rfl, ?_⟩⟩
    obtain ⟨d, hd⟩ : ∃ d : Nat, (11 : Int) + dg = (d : Int) := ⟨(11 + dg).toNat, by omega⟩
    show gName 5 (V.int (11 + dg)) ([some (.ref sc), some (.ref p), some (.int ch), some (.int spot), some (.str odd), none, none, none, none, none, none, none, none, none, none] : L2.St) _ _
    rw [hd]
    have d1 : 11 ≤ d := by omega
    have d2 : d ≤ 13 := by omega
    refine ⟨_, rfl, p, c, _, 4, 4, rfl, P5, by decide, by decide, by decide, fun cg H6 cg0 cg1 P6 b6 => ⟨_, _, rfl, rfl, ?_⟩⟩
    obtain ⟨n, hn⟩ : ∃ n : Nat, (28 : Int) + cg = (n : Int) := ⟨(28 + cg).toNat, by omega⟩
    show gName 6 (V.int (28 + cg)) ([some (.ref sc), some (.ref p), some (.int ch), some (.int spot), some (.str odd), some (.int (d : Nat)), none, none, none, none, none, none, none, none, none] : L2.St) _ _
    rw [hn]
    have n1 : 28 ≤ n := by omega
    have n2 : n ≤ 31 := by omega
    refine ⟨(by show 1 ≤ sizeLine; decide), fun a2 ha2 => ?_⟩
    have s2 := same_new (o := .lst [.str "keep 1"]) ha2
    have a2p := P6.ne1 ha2
    have a2c := P6.ne2 ha2
    have e2 : upd H6 a2 (.lst [.str "keep 1"]) a2 = some (.lst [.str "keep 1"]) := upd_same
    have P6 := P6.same s2
    generalize upd H6 a2 (.lst [.str "keep 1"]) = H7 at *
    refine ⟨(by show 1 ≤ sizeLine; decide), fun a3 ha3 => ?_⟩
    have s3 := same_new (o := .tup [.str "def"]) ha3
    have a3p := P6.ne1 ha3
    have a3c := P6.ne2 ha3
    have e3 : upd H7 a3 (.tup [.str "def"]) a3 = some (.tup [.str "def"]) := upd_same
    have P6 := P6.same s3
    have e2 := s3 _ _ e2
    generalize upd H7 a3 (.tup [.str "def"]) = H8 at *
    refine ⟨_, _, rfl, rfl, ⟨by decide, by decide, by decide⟩, (by show 6 ≤ sizeLine; decide), fun a4 ha4 => ?_⟩
    have s4 := same_new (o := .lst [.non, .int 7, .ref a2, .ref a3, .bl true, .int (10 ^ 30)]) ha4
    have a4p := P6.ne1 ha4
    have a4c := P6.ne2 ha4
    have ea4 : upd H8 a4 (.lst [.non, .int 7, .ref a2, .ref a3, .bl true, .int (10 ^ 30)]) a4 = some (.lst [.non, .int 7, .ref a2, .ref a3, .bl true, .int (10 ^ 30)]) := upd_same
    have P6 := P6.same s4
    have e2 := s4 _ _ e2
    have e3 := s4 _ _ e3
    refine ⟨_, rfl, p, c, _, 5, 6, rfl, P6, by decide, by decide, by decide, fun q H9 q0 q1 P9 b9 => ?_⟩
    have e4' := b9 _ _ ea4 a4p a4c
    have e2 := b9 _ _ e2 a2p a2c
    have e3 := b9 _ _ e3 a3p a3c
    obtain ⟨wv, hwv, atw⟩ := at_lt (xs := [V.non, .int 7, .ref a2, .ref a3, .bl true, .int (10 ^ 30)]) q0 q1
    refine ⟨a4, _, q, _, rfl, rfl, SqL.of e4', atw, ?_⟩
    have W : ∃ dw, WrongV K H9 wv dw := by
      simp only [List.mem_cons, List.not_mem_nil, or_false] at hwv
      rcases hwv with rfl | rfl | rfl | rfl | rfl | rfl
      · exact ⟨.none, ⟨_, .base .non, kit_ty (r := false) (by decide +kernel)⟩, .non, by decide +kernel, by decide +kernel⟩
      · exact ⟨.int 7, ⟨_, .base (.int _), kit_ty (r := false) (by decide +kernel)⟩, .int _, by decide +kernel, by decide +kernel⟩
      · exact ⟨.list [.str "keep 1"], ⟨_, .base (.lst e2), kit_ty (r := false) (by decide +kernel)⟩, .lst (SqL.of e2) (.cons (.str _) .nil), by decide +kernel, by decide +kernel⟩
      · exact ⟨.tuple [.str "def"], ⟨_, .base (.tup e3), kit_ty (r := false) (by decide +kernel)⟩, .tup (SqT.of e3) (.cons (.str _) .nil), by decide +kernel, by decide +kernel⟩
      · exact ⟨.bool true, ⟨_, .base (.bl _), kit_ty (r := false) (by decide +kernel)⟩, .bl _, by decide +kernel, by decide +kernel⟩
      · exact ⟨.int (10 ^ 30), ⟨_, .base (.int _), kit_ty (r := false) (by decide +kernel)⟩, .int _, by decide +kernel, by decide +kernel⟩
    obtain ⟨dw, W⟩ := W
    show gName 7 wv ([some (.ref sc), some (.ref p), some (.int ch), some (.int spot), some (.str odd), some (.int (d : Nat)), some (.int (n : Nat)), none, none, none, none, none, none, none, none] : L2.St) _ _
    refine ⟨_, rfl, wv, rfl, .inr ⟨W.ns, fun b10 H10 s10 nb10 eb10 => ?_⟩⟩
    refine ⟨_, rfl, (by show 2 ≤ sizeLine; decide), fun b11 nb11 => ?_⟩
    have s11 := same_new (o := .tup [.str "text", wv]) nb11
    have w11 := (W.dp.same s10).same s11
    refine ⟨.tuple [.str "text", dw], .tuple [.str "text", dw], .tup (SqT.of (s11 _ _ eb10)) (.cons (.str _) (.cons w11 .nil)), .tup (SqT.of upd_same) (.cons (.str _) (.cons w11 .nil)), W.sh, W.sh, _, rfl, iteE (by rw [W.eq]; rfl) ?_⟩
    have P11 := (P9.same s10).same s11
    clear w11 eb10
    generalize upd H10 b11 (.tup [.str "text", wv]) = H11 at *
    obtain ⟨rn, tn, en⟩ := nestT_tells n1 n2
    refine ⟨_, rfl, n, rfl, n2, tells_told (E := E0) tn fun u H12 s12 du => ?_⟩
    rw [en] at du
    have go : ∀ {H' : Hp} {tail : TS} {D : Ends}, (∀ H', Same H12 H' → tail D ([some (.ref sc), some (.ref p), some (.int ch), some (.int spot), some (.str odd), some (.int (d : Nat)), some (.int (n : Nat)), some wv, none, none, none, none, none, none, none] : L2.St) H') → (tIfS (tTest (tOp (rNeD K) (fun _ H Q => Q u H) (tIf (tTest (tOp (rI0 fun i j => V.bl (decide (j < i))) (tVar 6) (tC (V.int 29)))) (tTup (tCons (tC (V.str "large")) (tCons (tC (V.str "nesting")) tNil))) (tTup (tCons (tC (V.str "fine")) (tCons (tC (V.int 0)) tNil)))))) (tRet (tC (V.bl false))) tNext) { D with nx := tail D } ([some (.ref sc), some (.ref p), some (.int ch), some (.int spot), some (.str odd), some (.int (d : Nat)), some (.int (n : Nat)), some wv, none, none, none, none, none, none, none] : L2.St) H12 := fun {H' tail D} kk => by
      by_cases q : n > 29
      · rw [if_pos q] at du
        refine ⟨_, rfl, _, _, rfl, rfl, _, rfl, iteS (decide_eq_true (by omega)) ⟨(by show 2 ≤ sizeLine; decide), fun x hx => ?_⟩⟩
        have sx := same_new (o := .tup [.str "large", .str "nesting"]) hx
        exact ⟨_, _, du.same sx, .tup (SqT.of upd_same) (.cons (.str _) (.cons (.str _) .nil)), by decide +kernel, by decide +kernel, _, rfl, iteE (by decide +kernel) (kk _ sx)⟩
      · rw [if_neg q] at du
        refine ⟨_, rfl, _, _, rfl, rfl, _, rfl, iteE (decide_eq_false (by omega)) ⟨(by show 2 ≤ sizeLine; decide), fun x hx => ?_⟩⟩
        have sx := same_new (o := .tup [.str "fine", .int 0]) hx
        exact ⟨_, _, du.same sx, .tup (SqT.of upd_same) (.cons (.str _) (.cons (.int _) .nil)), by decide +kernel, by decide +kernel, _, rfl, iteE (by decide +kernel) (kk _ sx)⟩
    refine go (H' := H12) fun H13 s13 => ?_
    clear go du
    have P13 := (P11.same s12).same s13
    refine ⟨_, rfl, _, rfl, _, rfl, _, d, rfl, rfl, by decide +kernel, by rw [show ("7" : Str).length = 1 by decide +kernel]; omega, odd, n, d, rfl, ho, n1, n2, d1, d2, fun H14 s14 => ⟨_, rfl, iteE rfl ?_⟩⟩
    have P14 := P13.same s14
    refine ⟨_, rfl, p, c, 30, _, rfl, P14, by decide, by decide, fun tv t bu H15 D dv P15 b15 => ?_⟩
    have g := drawn_G D
    refine ⟨tv, t, rfl, dv, g, by decide, fun H16 s16 => ?_⟩
    have tlen := (text_len g (by decide)).2
    refine ⟨textS 6 t, _, rfl, by omega, tk_text g, fun sh0 es0 gs0 L H17 s17 nL eL => ?_⟩
    have DT := drawn_tok D
    obtain rfl := List.append_cancel_right es0
    generalize shT 6 t = sh at *
    show gName 8 (V.ref L) ([some (.ref sc), some (.ref p), some (.int ch), some (.int spot), some (.str odd), some (.int (d : Nat)), some (.int (n : Nat)), some wv, none, none, none, none, none, none, none] : L2.St) _ _
    have lm : (sh.map fun y => V.str y.2).length = sh.length := List.length_map ..
    refine ⟨_, rfl, _, rfl, L, _, rfl, .inl (SqL.of eL), _, _, rfl, rfl, _, _, rfl, rfl, by rw [lm]; omega, ?_⟩
    rw [lm]
    obtain ⟨a, ha⟩ : ∃ a : Nat, spot % ((sh.length : Int) + 1) = (a : Int) := ⟨(spot % ((sh.length : Int) + 1)).toNat, by have := Int.emod_nonneg spot (b := (sh.length : Int) + 1) (by omega); omega⟩
    have ale : a ≤ sh.length := by have := Int.emod_lt_of_pos spot (b := (sh.length : Int) + 1) (by omega); omega
    show gName 9 (V.int (spot % ((sh.length : Int) + 1))) ([some (.ref sc), some (.ref p), some (.int ch), some (.int spot), some (.str odd), some (.int (d : Nat)), some (.int (n : Nat)), some wv, some (.ref L), none, none, none, none, none, none] : L2.St) _ _
    rw [ha]
    have wf : ∀ m : Nat, m ≤ 3000000 → m ≤ sizeLine := fun z h => by omega
    refine ⟨_, rfl, _, _, rfl, rfl, _, rfl, ite2 (fun c4 => ?_) (fun c4 => ?_)⟩
    · have htk := take_le sh a
      have hdp := drop_le sh a
      have lsm := DT.sum
      have lln := DT.len
      have lA := wsT_le (sh.take a)
      have lB := wsT_le (sh.drop a)
      have ls : (" " : Str).length = 1 := by decide +kernel
      have l7 : (" 7777777777777 " : Str).length = 15 := by decide +kernel
      refine ⟨⟨_, rfl⟩, _, rfl, _, rfl, _, rfl, L, _, rfl, SqL.of eL, fun x1 nx1 => ?_⟩
      rw [cut_take, ← List.map_take, ws_map (sh.take a)]
      have sx1 := same_new (o := .lst (((sh.take a).map Prod.snd).map V.str)) nx1
      have ex1 : upd H17 x1 (.lst (((sh.take a).map Prod.snd).map V.str)) x1 = some (.lst (((sh.take a).map Prod.snd).map V.str)) := upd_same
      have eL1 := sx1 _ _ eL
      generalize upd H17 x1 (.lst (((sh.take a).map Prod.snd).map V.str)) = H18 at *
      refine ⟨_, x1, (sh.take a).map Prod.snd, rfl, rfl, .inl (SqL.of ex1), by rw [ws_sum, List.length_map, ls]; omega, _, _, rfl, rfl, wf _ (by show (wsT (sh.take a)).length + (" " : Str).length ≤ 3000000; omega), ?_⟩
      refine ⟨⟨_, rfl⟩, _, rfl, _, rfl, _, rfl, L, _, rfl, SqL.of eL1, fun x2 nx2 => ?_⟩
      rw [cut_drop, ← List.map_drop, ws_map (sh.drop a)]
      have sx2 := same_new (o := .lst (((sh.drop a).map Prod.snd).map V.str)) nx2
      have ex2 : upd H18 x2 (.lst (((sh.drop a).map Prod.snd).map V.str)) x2 = some (.lst (((sh.drop a).map Prod.snd).map V.str)) := upd_same
      generalize upd H18 x2 (.lst (((sh.drop a).map Prod.snd).map V.str)) = H19 at *
      refine ⟨_, x2, (sh.drop a).map Prod.snd, rfl, rfl, .inl (SqL.of ex2), by rw [ws_sum, List.length_map, ls]; omega, _, _, rfl, ?_⟩
      have lo := (odd_facts ho).2
      have las : (wsT (sh.take a) ++ " ").length = (wsT (sh.take a)).length + 1 := by rw [len_add, ls]
      have cA := cut_tells DT ho a (t := " 7777777777777 " ++ wsT (sh.drop a)) (by rw [len_add, l7]; omega) (by rw [TL.tl_append, show TL.tl (" 7777777777777 " : Str) = 32 :: TL.tl ("7777777777777 " : Str) by decide +kernel]; exact noAl_gap)
      have cB := cut_tells DT ho a (t := " " ++ wsT (sh.drop a)) (by rw [len_add, ls]; omega) (by rw [TL.tl_append, tl_sp]; exact noAl_gap)
      have asc : ∀ x y z u : Str, x ++ (y ++ (z ++ u)) = x ++ y ++ z ++ u := fun x y z u => TL.ext_tl (by simp only [TL.tl_append, List.append_assoc])
      rw [asc] at cA cB
      show tSeq _ _ _ ([some (.ref sc), some (.ref p), some (.int ch), some (.int spot), some (.str odd), some (.int (d : Nat)), some (.int (n : Nat)), some wv, some (.ref L), some (.int (a : Nat)), some (.str (wsT (sh.take a) ++ " ")), some (.str (wsT (sh.drop a))), none, none, none] : L2.St) H19
      generalize hzA : wsT (sh.take a) ++ " " = zA at *
      generalize wsT (sh.drop a) = zB at *
      refine ⟨_, rfl, _, rfl, wf _ (by omega), (by show 2 ≤ sizeLine; decide), fun e1 ne1 => ?_⟩
      have se1 := same_new (o := .tup [.str "syntax", .int (zA.length : Nat)]) ne1
      have ee1 : upd H19 e1 (.tup [.str "syntax", .int (zA.length : Nat)]) e1 = some (.tup [.str "syntax", .int (zA.length : Nat)]) := upd_same
      generalize upd H19 e1 (.tup [.str "syntax", .int (zA.length : Nat)]) = H20 at *
      rw [← las] at cA cB
      refine ⟨_, rfl, _, rfl, _, _, rfl, rfl, wf _ (by omega), _, _, rfl, rfl, wf _ (by rw [len_add, l7]; omega), _, rfl, _, _, rfl, rfl, wf _ (by rw [len_add, len_add, l7]; omega), tells_told (E := E0) cA fun u H21 s21 du => ?_⟩
      have ee2 := s21 _ _ ee1
      refine ⟨_, rfl, _, _, du, .tup (SqT.of ee2) (.cons (.str _) (.cons (.int _) .nil)), shaped_syn _, shaped_syn _, _, rfl, iteE (by rw [show PyData.eqv (toldD (.error (.syn zA.length))) (.tuple [.str "syntax", .int (zA.length : Nat)]) = true from eqv_si _ _]; rfl) ?_⟩
      refine ⟨_, rfl, _, rfl, _, _, rfl, rfl, wf _ (by omega), _, _, rfl, rfl, wf _ (by rw [len_add, ls]; omega), _, rfl, _, _, rfl, rfl, wf _ (by rw [len_add, len_add, ls]; omega), tells_told (E := E0) cB fun u2 H22 s22 du2 => ?_⟩
      refine ⟨_, rfl, _, _, du2, .tup (SqT.of (s22 _ _ ee2)) (.cons (.str _) (.cons (.int _) .nil)), shaped_syn _, shaped_syn _, ?_⟩
      rw [show PyData.eqv (toldD (.error (.syn zA.length))) (.tuple [.str "syntax", .int (zA.length : Nat)]) = true from eqv_si _ _]
      exact k _
    · have lln := DT.len
      have lsm := DT.sum
      have ls : (" " : Str).length = 1 := by decide +kernel
      show tSeq _ _ _ ([some (.ref sc), some (.ref p), some (.int ch), some (.int spot), some (.str odd), some (.int (d : Nat)), some (.int (n : Nat)), some wv, some (.ref L), some (.int (a : Nat)), none, none, none, none, none] : L2.St) H17
      refine ⟨_, rfl, L, _, rfl, .inl (SqL.of eL), _, rfl, by rw [lm]; omega, by rw [lm]; omega, fun D1 hD1 => ?_⟩
      rw [lm, Int.toNat_natCast]
      have spl_le : ∀ i, (spt sh i).length ≤ i := fun i => by
        show (((List.range i).filter (dgK sh)).map _).length ≤ i
        rw [List.length_map]
        exact Nat.le_trans (List.length_filter_le _ _) (by rw [List.length_range]; exact Nat.le_refl _)
      refine lc_it (walk_range (lo := 0) (n := sh.length)) (fun i H' => Same H17 H' ∧ H' D1 = some (.lst ((spt sh i).map V.int))) ⟨same_new hD1, upd_same⟩ (fun _ _ _ _ => trivial) ?_ ?_
      · rintro i x H18 H19 hi ⟨s18, e18⟩ ⟨rfl, rfl⟩
        have hy : sh[i]? = some sh[i] := List.getElem?_eq_getElem hi
        generalize sh[i] = y at *
        have hk : dgK sh i = dgB y := by unfold dgK; rw [hy]
        have gy := DT.tok y (List.mem_of_getElem? hy)
        obtain ⟨c, r, ec⟩ : ∃ c r, TL.tl y.2 = c :: r := by
          rcases gy with ⟨c, _, rfl⟩ | ⟨g1, _, _, _⟩
          · exact ⟨c, [], rfl⟩
          · cases q : TL.tl y.2 with
            | nil => exact absurd q g1
            | cons c r => exact ⟨c, r, rfl⟩
        have ly : y.2.length ≤ 200000 := by
          have : y.2.length ∈ sh.map fun y => y.2.length := List.mem_map.mpr ⟨y, List.mem_of_getElem? hy, rfl⟩
          have := sum_memZ this
          omega
        have hsp := spl_le i
        have sp : spt sh (i + 1) = spt sh i ++ (if dgB y = true then [(0 : Int) + (i : Int)] else []) := by
          show ((List.range (i + 1)).filter (dgK sh)).map _ = _
          rw [List.range_succ, List.filter_append, List.map_append, List.filter_cons, hk]
          by_cases q : dgB y = true
          · rw [if_pos q, if_pos q]; rfl
          · rw [if_neg q, if_neg q]; rfl
        refine ⟨rfl, _, rfl, _, rfl, L, _, _, _, rfl, rfl, SqL.of (s18 _ _ eL), (by rw [Int.zero_add]; exact atI_nat (by rw [List.getElem?_map, hy]; rfl)), y.2, 0, c, rfl, rfl, wf _ (by omega), atI_nat (j := 0) (by rw [show y.2.cps.toList = c :: r from ec]; rfl), c, _, rfl, rfl, _, rfl, ?_⟩
        have hdg : dgB y = decide (c ∈ ("0123456789" : Str).cps.toList) := by unfold dgB; rw [ec]
        rw [← hdg, sp]
        by_cases q : dgB y = true
        · rw [if_pos q]
          refine iteS q ?_
          refine ⟨_, rfl, _, e18, ?_, fun bb o z => ?_, ?_⟩
          · rw [List.length_map]; exact Nat.lt_of_le_of_lt hsp (by omega)
          · rw [upd_ne (ne_of_none z hD1)]; exact s18 _ _ z
          · rw [upd_same, List.map_append]; rfl
        · rw [if_neg q, List.append_nil]
          exact iteE (by cases z : dgB y with | false => rfl | true => exact absurd z q) ⟨s18, e18⟩
      · rintro H18 ⟨s18, e18⟩
        have eL18 := s18 _ _ eL
        have spm : ∀ z ∈ spt sh sh.length, ∃ k : Nat, z = (k : Int) ∧ dgK sh k = true := fun z hz => by
          obtain ⟨k, hk, rfl⟩ := List.mem_map.mp hz
          exact ⟨k, Int.zero_add _, (List.mem_filter.mp hk).2⟩
        have spl := spl_le sh.length
        generalize spt sh sh.length = sp at *
        refine ⟨_, rfl, (by show 0 ≤ sizeLine; decide), fun e1 ne1 => ?_⟩
        have se1 := same_new (o := .lst []) ne1
        have ee1 : upd H18 e1 (.lst []) e1 = some (.lst []) := upd_same
        have e18 := se1 _ _ e18
        have eL18 := se1 _ _ eL18
        generalize upd H18 e1 (.lst []) = H19 at *
        have eLs : H19 L = some (.lst ((sh.map Prod.snd).map V.str)) := by rw [← ws_map]; exact eL18
        refine ⟨_, _, .lst (SqL.of e18) (dpAll_int sp), .lst (SqL.of ee1) .nil, shaped_ints sp, by decide +kernel, _, rfl, ite2 (fun q => ?_) (fun q => ?_)⟩
        · obtain ⟨l', tw⟩ := whole_tells DT
          refine ⟨⟨_, rfl⟩, _, rfl, _, L, sh.map Prod.snd, rfl, rfl, .inl (SqL.of eLs), by rw [ws_sum, List.length_map, ls]; omega, tells_told (E := E0) tw fun u H20 s20 du => ?_⟩
          refine ⟨(by show 2 ≤ sizeLine; decide), fun x hx => ?_⟩
          have sx := same_new (o := .tup [.str "fine", .int 0]) hx
          refine ⟨_, _, du.same sx, .tup (SqT.of upd_same) (.cons (.str _) (.cons (.int _) .nil)), by show SeqAt.shaped (.tuple [.str "fine", .int 0]) = true; decide +kernel, by decide +kernel, ?_⟩
          rw [show PyData.eqv (toldD (.ok l')) (.tuple [.str "fine", .int 0]) = true from eqv_si _ _]
          exact k _
        · have sne : sp ≠ [] := fun z => q (by rw [z]; exact eqv_emp _)
          have spos : 0 < sp.length := List.length_pos_iff.mpr sne
          have lsp : (sp.map V.int).length = sp.length := List.length_map ..
          have m0 := Int.emod_nonneg spot (b := ((sp.map V.int).length : Int)) (by rw [lsp]; omega)
          have m1 := Int.emod_lt_of_pos spot (b := ((sp.map V.int).length : Int)) (by rw [lsp]; omega)
          obtain ⟨v, hv, atv⟩ := at_lt m0 m1
          obtain ⟨z, hz, rfl⟩ := List.mem_map.mp hv
          obtain ⟨kk, rfl, hkk⟩ := spm z hz
          obtain ⟨klt, w, NA⟩ := dgK_at DT.tok hkk
          refine ⟨_, rfl, _, rfl, _, rfl, D1, _, rfl, .inl (SqL.of e18), _, _, rfl, rfl, by rw [lsp]; omega, D1, _, _, _, rfl, rfl, SqL.of e18, atv, ?_⟩
          obtain ⟨f1, f2, f3, _⟩ := new_facts DT NA d1 d2
          have l7 : ("7" : Str).length = 1 := by decide +kernel
          refine ⟨⟨_, rfl⟩, _, rfl, _, rfl, _, rfl, L, _, rfl, SqL.of eL18, fun y1 ny1 => ?_⟩
          rw [cut_take]
          have sy1 := same_new (o := .lst ((sh.map fun y => V.str y.2).take kk)) ny1
          have ey1 : upd H19 y1 (.lst ((sh.map fun y => V.str y.2).take kk)) y1 = some (.lst ((sh.map fun y => V.str y.2).take kk)) := upd_same
          have eL19 := sy1 _ _ eL18
          generalize upd H19 y1 (.lst ((sh.map fun y => V.str y.2).take kk)) = H20 at *
          refine ⟨_, rfl, _, d, rfl, rfl, by rw [l7]; decide, by rw [l7]; omega, (by show 1 ≤ sizeLine; decide), fun y2 ny2 => ?_⟩
          have sy2 := same_new (o := .lst [.str (repZ d "7")]) ny2
          have ey2 : upd H20 y2 (.lst [.str (repZ d "7")]) y2 = some (.lst [.str (repZ d "7")]) := upd_same
          have ey1 := sy2 _ _ ey1
          have eL20 := sy2 _ _ eL19
          generalize upd H20 y2 (.lst [.str (repZ d "7")]) = H21 at *
          refine ⟨y1, y2, _, _, rfl, rfl, ey1, ey2, by rw [List.length_take, lm]; show _ + 1 ≤ _; omega, fun y3 ny3 => ?_⟩
          have sy3 := same_new (o := .lst ((sh.map fun y => V.str y.2).take kk ++ [.str (repZ d "7")])) ny3
          have ey3 : upd H21 y3 (.lst ((sh.map fun y => V.str y.2).take kk ++ [.str (repZ d "7")])) y3 = some (.lst ((sh.map fun y => V.str y.2).take kk ++ [.str (repZ d "7")])) := upd_same
          have eL21 := sy3 _ _ eL20
          generalize upd H21 y3 (.lst ((sh.map fun y => V.str y.2).take kk ++ [.str (repZ d "7")])) = H22 at *
          refine ⟨_, rfl, _, rfl, _, _, rfl, rfl, _, rfl, L, _, rfl, SqL.of eL21, fun y4 ny4 => ?_⟩
          rw [show ((kk : Int) + 1) = ((kk + 1 : Nat) : Int) from rfl, cut_drop]
          have sy4 := same_new (o := .lst ((sh.map fun y => V.str y.2).drop (kk + 1))) ny4
          have ey4 : upd H22 y4 (.lst ((sh.map fun y => V.str y.2).drop (kk + 1))) y4 = some (.lst ((sh.map fun y => V.str y.2).drop (kk + 1))) := upd_same
          have ey3 := sy4 _ _ ey3
          generalize upd H22 y4 (.lst ((sh.map fun y => V.str y.2).drop (kk + 1))) = H23 at *
          refine ⟨y3, y4, _, _, rfl, rfl, ey3, ey4, by rw [List.length_append, List.length_take, List.length_drop, lm]; show _ + 1 + _ ≤ _; omega, fun y5 ny5 => ?_⟩
          have ews : ((sh.map fun y => V.str y.2).take kk ++ [.str (repZ d "7")]) ++ (sh.map fun y => V.str y.2).drop (kk + 1) = ((newT (sh.take kk) (sh.drop (kk + 1)) d).map Prod.snd).map V.str := by
            rw [← ws_map, List.map_append, List.map_cons, ← List.map_take, ← List.map_drop, List.append_assoc]
            rfl
          rw [ews]
          have ey5 : upd H23 y5 (.lst (((newT (sh.take kk) (sh.drop (kk + 1)) d).map Prod.snd).map V.str)) y5 = some (.lst (((newT (sh.take kk) (sh.drop (kk + 1)) d).map Prod.snd).map V.str)) := upd_same
          generalize upd H23 y5 (.lst (((newT (sh.take kk) (sh.drop (kk + 1)) d).map Prod.snd).map V.str)) = H24 at *
          refine ⟨_, y5, (newT (sh.take kk) (sh.drop (kk + 1)) d).map Prod.snd, rfl, rfl, .inl (SqL.of ey5), by rw [ws_sum, List.length_map, ls]; omega, ?_⟩
          have tO := num_odd DT NA ho d1 d2
          have tF := fun h => num_fine DT NA d1 (d := d) h
          have lN := wsT_le (newT (sh.take kk) (sh.drop (kk + 1)) d)
          have lo := (odd_facts ho).2
          show gName 10 (V.str (wsT (newT (sh.take kk) (sh.drop (kk + 1)) d))) ([some (.ref sc), some (.ref p), some (.int ch), some (.int spot), some (.str odd), some (.int (d : Nat)), some (.int (n : Nat)), some wv, some (.ref L), some (.int (kk : Nat)), none, none, none, some (.ref D1), none] : L2.St) _ _
          generalize wsT (newT (sh.take kk) (sh.drop (kk + 1)) d) = zN at *
          refine ⟨_, rfl, rfl, _, rfl, ite2 (fun q13 => ?_) (fun q13 => ?_)⟩
          · have q13 : d = 13 := by have := V.int.inj (of_decide_eq_true q13); omega
            rw [if_pos q13] at tO
            refine ⟨_, rfl, _, _, rfl, rfl, wf _ (by omega), _, rfl, _, _, rfl, rfl, wf _ (by rw [len_add, ls]; omega), tells_told (E := E0) tO fun u H25 s25 du => ?_⟩
            refine ⟨(by show 2 ≤ sizeLine; decide), fun x hx => ?_⟩
            have sx := same_new (o := .tup [.str "large", .str "numbers"]) hx
            refine ⟨_, _, du.same sx, .tup (SqT.of upd_same) (.cons (.str _) (.cons (.str _) .nil)), by decide +kernel, by decide +kernel, ?_⟩
            rw [show PyData.eqv (toldD (.error (.large "numbers"))) (.tuple [.str "large", .str "numbers"]) = true by decide +kernel]
            exact k _
          · have q13 : d ≠ 13 := fun z => q13 (by rw [z]; exact decide_eq_true rfl)
            rw [if_neg q13] at tO
            obtain ⟨l', tF⟩ := tF (by omega)
            refine ⟨_, rfl, tells_told (E := E0) tF fun u H25 s25 du => ?_⟩
            refine ⟨(by show 2 ≤ sizeLine; decide), fun x hx => ?_⟩
            have sx := same_new (o := .tup [.str "fine", .int 0]) hx
            refine ⟨_, _, du.same sx, .tup (SqT.of upd_same) (.cons (.str _) (.cons (.int _) .nil)), by show SeqAt.shaped (.tuple [.str "fine", .int 0]) = true; decide +kernel, by decide +kernel, ?_⟩
            rw [show PyData.eqv (toldD (.ok l')) (.tuple [.str "fine", .int 0]) = true from eqv_si _ _]
            refine ⟨_, rfl, iteS rfl ?_⟩
            refine ⟨_, rfl, _, _, rfl, rfl, wf _ (by omega), _, rfl, _, _, rfl, rfl, wf _ (by rw [len_add, ls]; omega), tells_told (E := E0) tO fun u2 H26 s26 du2 => ?_⟩
            refine ⟨_, rfl, _, rfl, wf _ (by omega), _, _, rfl, rfl, (by show 2 ≤ sizeLine; decide), fun x2 hx2 => ?_⟩
            have sx2 := same_new (o := .tup [.str "syntax", .int ((zN.length : Int) + 1)]) hx2
            refine ⟨_, _, du2.same sx2, .tup (SqT.of upd_same) (.cons (.str _) (.cons (.int _) .nil)), shaped_syn _, shaped_syn _, ?_⟩
            rw [show PyData.eqv (toldD (.error (.syn (zN.length + 1)))) (.tuple [.str "syntax", .int ((zN.length : Int) + 1)]) = true from eqv_si _ _]
            exact k _
end

/-! ### the head by kernel runs: the top is run once for each look at what it leaves; no state is written out -/
section
open PySem.W
theorem split3 {S A B : Type} {o : Option S} {f : S → Bool} {g : S → A} {h : S → B} {a : A} {b : B} (h1 : o.map f = some true) (h2 : o.map g = some a) (h3 : o.map h = some b) : o.map (fun s => (f s, g s, h s)) = some (true, a, b) := by
  cases o with
  | none => cases h1
  | some s =>
    have e1 : f s = true := Option.some.inj h1
    have e2 : g s = a := Option.some.inj h2
    have e3 : h s = b := Option.some.inj h3
    show some (f s, g s, h s) = _
    rw [e1, e2, e3]
theorem split2 {S A B : Type} {o : Option S} {g : S → A} {h : S → B} {a : A} {b : B} (h2 : o.map g = some a) (h3 : o.map h = some b) : o.map (fun s => (g s, h s)) = some (a, b) := by
  cases o with
  | none => cases h2
  | some s =>
    have e2 : g s = a := Option.some.inj h2
    have e3 : h s = b := Option.some.inj h3
    show some (g s, h s) = _
    rw [e2, e3]
/-- the addresses that the module's names reach: functions, classes, their codes and methods -/
def refA : Value → List Addr
  | .ref a => [a]
  | _ => []
def refsA : Option Obj → List Addr
  | some ⟨_, _, .dict es _, _⟩ => es.toList.flatMap fun e => refA e.val
  | some ⟨_, _, .func fd, _⟩ => refA fd.code ++ refA fd.defaults
  | some ⟨_, _, .cls cd, _⟩ => [cd.ns]
  | _ => []
def nextA (g : Addr → Option Obj) (as : List Addr) : List Addr := as.flatMap fun a => refsA (g a)
def forceA {α : Type} : List Addr → (List Addr → α) → α
  | [], k => k []
  | a :: r, k => HandSHeadRun.frNat a fun a => forceA r fun r => k (a :: r)
theorem forceA_eq {α : Type} : ∀ (l : List Addr) (k : List Addr → α), forceA l k = k l
  | [], k => rfl
  | a :: r, k => by
    show HandSHeadRun.frNat a (fun a => forceA r fun r => k (a :: r)) = _
    rw [HandSHeadRun.frNat_eq, forceA_eq r]
def withA {α : Type} (g : Addr → Option Obj) (k : Frag → α) : α :=
  forceA (nextA g [mainGlobals]) fun f1 => forceA (nextA g f1) fun f2 => forceA (nextA g f2) fun f3 => forceA (nextA g f3) fun f4 => k (He.frG g (mainGlobals :: (f1 ++ (f2 ++ (f3 ++ f4)))))
theorem withA_eq {α : Type} (g : Addr → Option Obj) (k : Frag → α) : ∃ as, withA g k = k (He.frG g as) := by
  unfold withA
  simp only [forceA_eq]
  exact ⟨_, rfl⟩
abbrev AlA : Type := Bool × He.Al × List He.FnW
def obsA (fx : List (Frag → Bool)) (fa : List He.Fa) (fn : List He.FnD) (fw : List He.DefD) (K : Frag) : AlA := ((fx.all fun f => f K) && fw.all fun d => d.ok K, He.obsE fa fn K, fw.map fun d => He.fnW K d.at_)
def valA (fn : List He.FnD) (fw : List He.DefD) : AlA := (true, He.valE fn, fw.map He.DefD.val)
def SaysA (fx : List (Frag → Bool)) (fa : List He.Fa) (fn : List He.FnD) (fw : List He.DefD) (K : Frag) : Prop := obsA fx fa fn fw K = valA fn fw
def obsAG (fx : List (Frag → Bool)) (fa : List He.Fa) (fn : List He.FnD) (fw : List He.DefD) (g : Addr → Option Obj) : AlA := withA g (obsA fx fa fn fw)
def hookA (fx : List (Frag → Bool)) (fa : List He.Fa) (fn : List He.FnD) (fw : List He.DefD) : Hook where
  α := AlA
  obs := fun s => obsAG fx fa fn fw s.heap.get?
  val := fun _ => valA fn fw
  says := fun _ h => ∃ K : Frag, K.In h ∧ SaysA fx fa fn fw K
  of := fun _ s e => by
    obtain ⟨as, q⟩ := withA_eq s.heap.get? (obsA fx fa fn fw)
    exact ⟨_, He.frG_in, q.symm.trans e⟩
  keeps := fun _ _ _ ⟨K, hK, c⟩ k => ⟨K, Frag.In.keeps hK k, c⟩
theorem obsAG_eq {fx : List (Frag → Bool)} {fa : List He.Fa} {fn : List He.FnD} {fw : List He.DefD} {g : Addr → Option Obj} {s : Shared} (h : ∀ a, g a = s.heap.get? a) : obsAG fx fa fn fw g = (hookA fx fa fn fw).obs s := by
  have e : g = s.heap.get? := funext h
  rw [e] <;> rfl
/-- a def as a datum -/
def khDef (at_ : Str × Option Str) (name qual : Str) (st : Stmt) : He.FnD := ⟨at_, name, qual, defArgs st, defBody st, defScope st⟩
section
variable {fx : List (Frag → Bool)} {fa : List He.Fa} {fn : List He.FnD} {fw : List He.DefD} {K : Frag}
theorem SaysA.x (c : SaysA fx fa fn fw K) (i : Nat) {f : Frag → Bool} (h : fx[i]? = some f) : f K = true :=
  List.all_eq_true.mp (He.ba (show ((fx.all fun f => f K) && fw.all fun d => d.ok K) = true from congrArg (fun z : AlA => z.1) c)).1 f (List.mem_of_getElem? h)
theorem SaysA.says (c : SaysA fx fa fn fw K) : He.SaysE fa fn K := congrArg (fun z : AlA => z.2.1) c
theorem SaysA.dfl_ (c : SaysA fx fa fn fw K) (i : Nat) {d : He.DefD} (h : fw[i]? = some d) : ∃ fd, FunD K d.name d.qual d.params d.body d.scope (d.dvs K) (d.kws K) (He.fAd K d.at_) fd := by
  have c2 := (He.ba (show ((fx.all fun f => f K) && fw.all fun d => d.ok K) = true from congrArg (fun z : AlA => z.1) c)).2
  have e : fw.map (fun d => He.fnW K d.at_) = fw.map He.DefD.val := congrArg (fun z : AlA => z.2.2) c
  have e2 : (fw.map fun d => He.fnW K d.at_)[i]? = (fw.map He.DefD.val)[i]? := by rw [e]
  rw [List.getElem?_map, List.getElem?_map, h] at e2
  exact He.DefD.funD (Option.some.inj e2) (List.all_eq_true.mp c2 d (List.mem_of_getElem? h))
theorem SaysA.fact (c : SaysA fx fa fn fw K) (i : Nat) {f : He.Fa} (h : fa[i]? = some f) : f.ok K = true := c.says.fact i h
theorem SaysA.def_ (c : SaysA fx fa fn fw K) (i : Nat) {a : Str × Option Str} {x q : Str} {st : Stmt} (h : fn[i]? = some (khDef a x q st)) : ∃ fd, Fun K x q st (He.fAd K a) fd := by
  obtain ⟨oc, od, osl, kV, doc, pm, an, cdv, ct, l, cd⟩ := c.says.def_ i h
  exact ⟨_, fun_mk (st := st) l cd (by
    show (match K.lookup (He.fAd K a) with
      | some ⟨_, _, .func _, _⟩ => true
      | some ⟨_, _, .cls _, _⟩ => PySem.W.specialIn K (.ref (He.fAd K a)) "__call__" == some (some (.builtin "type.__call__"))
      | _ => false) = true
    rw [show K.lookup (He.fAd K a) = _ from l])⟩
end
end

/-- an own error's class, looked at -/
def xcB (K : PySem.W.Frag) (x : Str) (bm : List Value) (newId : String) (f : Str) : Bool := (match K.lookup (He.ga K x) with
    | some ⟨cl, _, .cls cd, sl⟩ => decide (cl = .type "type") && (decide (cd.mro = .ref (He.ga K x) :: bm) && (cd.hasDict && (!cd.hasDel && (match sl.toList with
      | [_, _, _, _, some n, _] => decide (n = .builtin newId)
      | _ => false))))
    | _ => false) && (He.eqO (PySem.W.findIn K (.ref (He.ga K x)) "__setattr__") (some (some (.builtin "object.__setattr__"))) && (PySem.W.keepIn K (.ref (He.ga K x)) && (He.eqO (PySem.W.findIn K (.ref (He.ga K x)) f) (some none) &&
    (He.eqO (PySem.W.findIn K (.ref (He.ga K x)) "__getattribute__") (some (some (.builtin "BaseException.__getattribute__"))) && (He.eqO (PySem.W.findIn K (.ref (He.ga K x)) "__getattr__") (some none) && He.eqO (PySem.W.findIn K (.ref (He.ga K x)) "__class__") (some (some (.builtin "object.__class__"))))))))

/-! ### what the written part says of the classes -/
structure XcK (K : PySem.W.Frag) (C : Addr) (bm : List Value) (newId : String) (f : Str) : Prop where
  lk : ∃ nm q N bs sn sub ab col dd k0 k1 k2 k3 k5, K.lookup C = some (excClassObj nm q C N bs bm true sn sub ab col dd k0 k1 k2 k3 k5 newId)
  sa : PySem.W.findIn K (.ref C) "__setattr__" = some (some (.builtin "object.__setattr__"))
  kc : PySem.W.keepIn K (.ref C) = true
  no : PySem.W.findIn K (.ref C) f = some none
  ga : PySem.W.findIn K (.ref C) "__getattribute__" = some (some (.builtin "BaseException.__getattribute__"))
  gg : PySem.W.findIn K (.ref C) "__getattr__" = some none
  ca : PySem.W.findIn K (.ref C) "__class__" = some (some (.builtin "object.__class__"))
section
variable {K : PySem.W.Frag} {C : Addr} {bm bmB : List Value} {newId : String} {f : Str}
theorem lk_cls {nm q N bs sn sub ab col dd k0 k1 k2 k3 k5} (h : K.lookup C = some (excClassObj nm q C N bs bm true sn sub ab col dd k0 k1 k2 k3 k5 newId)) : ∃ cd, PySem.W.clsIn K C = some cd ∧ cd.mro = .ref C :: bm ∧ cd.hasDict = true :=
  ⟨_, by unfold PySem.W.clsIn; rw [h], rfl, rfl⟩
theorem XcK.cls (T : XcK K C bm newId f) : ∃ cd, PySem.W.clsIn K C = some cd ∧ cd.mro = .ref C :: bm ∧ cd.hasDict = true := by
  obtain ⟨_, _, _, _, _, _, _, _, _, _, _, _, _, _, h⟩ := T.lk
  exact lk_cls h
theorem sub_cls (h : ∃ cd, PySem.W.clsIn K C = some cd ∧ cd.mro = .ref C :: bm ∧ cd.hasDict = true) (x : Value) : PySem.W.subIn K (.ref C) x = some ((Value.ref C :: bm).contains x) := by
  obtain ⟨cd, e, m, _⟩ := h
  show PySem.W.mroIn K C x = _
  unfold PySem.W.mroIn
  rw [e, Option.bind_some, m]
  rfl
theorem XcK.ty (T : XcK K C bm newId f) : PySem.W.typeIn K (.ref C) = some (.type "type") := by
  obtain ⟨_, _, _, _, _, _, _, _, _, _, _, _, _, _, h⟩ := T.lk
  show (K.lookup C).map (·.cls) = _
  rw [h]; rfl
theorem XcK.hd (T : XcK K C bm newId f) : PySem.W.hasDictIn K C = true := by
  obtain ⟨cd, e, _, d⟩ := T.cls
  unfold PySem.W.hasDictIn
  rw [e]; exact d
theorem tail_has (ht : PySem.W.excTail bmB bm = true) (X : String) (h : bmB.contains (.type X) = true) : (Value.ref C :: bm).contains (.type X) = true := by
  rw [List.contains_cons, PySem.W.excTail_contains _ _ ht, h, Bool.or_true]
theorem XcK.oex (T : XcK K C bm newId f) (B : XC.Bas bmB newId) (ht : PySem.W.excTail bmB bm = true) (hb : bmB.contains (.type "BaseException") = true) : OexG K C := by
  refine ⟨⟨bmB, newId, B, ?_, ?_⟩, T.hd, T.sa, (sub_cls T.cls _).trans (by rw [tail_has ht _ hb]), T.ty, T.kc⟩
  · obtain ⟨_, _, _, _, _, _, _, _, _, _, _, _, _, _, h⟩ := T.lk
    unfold PySem.W.excInitIn
    rw [h]
    simp [ht]
  · obtain ⟨cd, e, m, _⟩ := T.cls
    unfold PySem.W.excOver
    rw [e]
    show (match cd.mro with | .ref C' :: bm => C' == C && PySem.W.excTail bmB bm | _ => false) = true
    rw [m]
    simp [ht]
theorem XcK.xf (T : XcK K C bm newId f) (ht : PySem.W.excTail bmB bm = true) (hb : bmB.contains (.type "BaseException") = true) : XfC K C := ⟨T.ga, T.gg, (sub_cls T.cls _).trans (by rw [tail_has ht _ hb]), T.hd⟩
theorem XcK.ex (T : XcK K C bm newId f) (ht : PySem.W.excTail bmB bm = true) (hb : bmB.contains (.type "BaseException") = true) (ho : bmB.contains (.type "object") = true)
    (sp : PySem.W.specialIn K (.builtin "object.__class__") "__get__" = some (some (.builtin "getset_descriptor.__get__"))) (tk : PySem.W.takesIn K (.builtin "object.__class__") = some true) : ExcC K C :=
  ⟨T.ga, T.gg, (sub_cls T.cls _).trans (by rw [tail_has ht _ hb]), T.hd, T.ca, sp, tk, (sub_cls T.cls (.type "object")).trans (by rw [tail_has ht _ ho])⟩
end
theorem oexV {K : PySem.W.Frag} {C CP : Addr} {f : Str} (h : XcK K C (.ref CP :: XC.tlV) "ValueError.__new__" f) : OexG K C := h.oex XC.basV (by show PySem.W.excTail XC.tlV XC.tlV = true; decide +kernel) (by decide +kernel)
theorem oexK {K : PySem.W.Frag} {C : Addr} {f : Str} (h : XcK K C XC.tlK "LookupError.__new__" f) : OexG K C := h.oex XC.basK (by decide +kernel) (by decide +kernel)
theorem oexR {K : PySem.W.Frag} {C : Addr} {f : Str} (h : XcK K C XC.tlR "RuntimeError.__new__" f) : OexG K C := h.oex XC.basR (by decide +kernel) (by decide +kernel)

theorem xcB_ok {K : PySem.W.Frag} {x : Str} {bm : List Value} {newId : String} {f : Str} (h : xcB K x bm newId f = true) : XcK K (He.ga K x) bm newId f := by
  obtain ⟨h1, h⟩ := He.ba h
  obtain ⟨h2, h⟩ := He.ba h
  obtain ⟨h3, h⟩ := He.ba h
  obtain ⟨h4, h⟩ := He.ba h
  obtain ⟨h5, h⟩ := He.ba h
  obtain ⟨h6, h7⟩ := He.ba h
  refine ⟨?_, He.eqO_ok h2, h3, He.eqO_ok h4, He.eqO_ok h5, He.eqO_ok h6, He.eqO_ok h7⟩
  cases e : K.lookup (He.ga K x) with
  | none =>
    rw [e] at h1
    cases h1
  | some o =>
    rw [e] at h1
    obtain ⟨cl, dd, dt, sl⟩ := o
    cases dt with
    | cls cd =>
      obtain ⟨nm, bs, mro, N, q, hd, sn, sub, ab, col, del⟩ := cd
      obtain ⟨a1, b1⟩ := He.ba (show (decide (cl = .type "type") && (decide (mro = .ref (He.ga K x) :: bm) && (hd && (!del && (match sl.toList with
        | [_, _, _, _, some n, _] => decide (n = .builtin newId)
        | _ => false))))) = true from h1)
      obtain ⟨a2, b2⟩ := He.ba b1
      obtain ⟨a3, b3⟩ := He.ba b2
      obtain ⟨a4, b4⟩ := He.ba b3
      split at b4
      · rename_i k0 k1 k2 k3 n k5 hs
        obtain ⟨sl⟩ := sl
        have hs2 : sl = [k0, k1, k2, k3, some n, k5] := hs
        cases hs2
        cases of_decide_eq_true b4
        cases of_decide_eq_true a1
        cases of_decide_eq_true a2
        cases a3
        cases del with
        | true => cases a4
        | false => exact ⟨_, _, _, _, _, _, _, _, _, _, _, _, _, _, rfl⟩
      · cases b4
    | _ => cases h1

/-! ### the end -/
abbrev khR : PySem.W.OpenRow := PySem.W.OpenLaw.row PySem.Challenge.rw_allornothing_k05_characters_and_sizes_of
abbrev khQ : Program := PySem.W.view khR.prog [41]
def khN0 : List PySem.Str := ["__name__", "ProgramError", "InvalidText", "InvalidSyntax", "TooLarge", "LETTERS", "DIGITS", "SIGNS", "KEYWORDS", "LONGEST", "DEEPEST", "kind_of", "end_of_run", "tokens_of", "expression_of", "Reader", "parse", "_law_pool", "_law_mixed", "_law_draw", "_law_names", "_law_expression", "_law_args", "_law_call", "_law_piece", "_law_block", "_law_tree", "_law_parts", "_law_size", "_law_expression_text"]
def khN1 : List PySem.Str := ["_law_call_text", "_law_heads", "_law_line", "_law_lines", "_law_text", "_law_tokens", "_law_told", "_law_nested", "_law_cut_right"]
def khN : List PySem.Str := khN0 ++ khN1
def khX0 : List (PySem.W.Frag → Bool) := [fun K => xcB K "InvalidText" (.ref (He.ga K "ProgramError") :: XC.tlV) "ValueError.__new__" "value",
    fun K => xcB K "InvalidSyntax" (.ref (He.ga K "ProgramError") :: XC.tlV) "ValueError.__new__" "position",
    fun K => xcB K "TooLarge" (.ref (He.ga K "ProgramError") :: XC.tlV) "ValueError.__new__" "word",
    fun K => He.tupB K "KEYWORDS" [.str "globals", .str "kinds", .str "keep", .str "def", .str "if", .str "else", .str "while", .str "risk", .str "raise", .str "try", .str "except", .str "finally", .str "undo", .str "with", .str "swallow", .str "return"],
    fun K => decide (PySem.W.exmOne K (.ref (He.ga K "InvalidSyntax")) (.ref (He.ga K "InvalidSyntax")) = some true),
    fun K => decide (PySem.W.exmOne K (.ref (He.ga K "TooLarge")) (.ref (He.ga K "InvalidSyntax")) = some false),
    fun K => decide (PySem.W.exmOne K (.ref (He.ga K "InvalidText")) (.ref (He.ga K "InvalidSyntax")) = some false),
    fun K => decide (PySem.W.exmOne K (.ref (He.ga K "TooLarge")) (.ref (He.ga K "TooLarge")) = some true),
    fun K => decide (PySem.W.exmOne K (.ref (He.ga K "InvalidText")) (.ref (He.ga K "TooLarge")) = some false),
    fun K => decide (PySem.W.exmOne K (.ref (He.ga K "InvalidText")) (.ref (He.ga K "InvalidText")) = some true)]
def khX : List (PySem.W.Frag → Bool) := khX0
def khF0 : List He.Fa := [.glo "_law_mixed",
    .glo "_law_draw",
    .glo "_law_pool",
    .glo "kind_of",
    .glo "end_of_run",
    .glo "tokens_of",
    .glo "expression_of",
    .glo "parse",
    .glo "_law_names",
    .glo "_law_expression",
    .glo "_law_args",
    .glo "_law_call",
    .glo "_law_piece",
    .glo "_law_block",
    .glo "_law_tree",
    .glo "_law_parts",
    .glo "_law_expression_text",
    .glo "_law_call_text",
    .glo "_law_line",
    .glo "_law_heads",
    .glo "_law_lines",
    .glo "_law_text",
    .glo "_law_tokens",
    .glo "_law_told",
    .glo "_law_nested"]
def khF1 : List He.Fa := [.glo "_law_cut_right",
    .glo "law",
    .glo "ProgramError",
    .glo "Reader",
    .cls "Reader",
    .mkr "Reader",
    .noat "Reader" "tokens",
    .noat "Reader" "index_of_token",
    .noat "Reader" "depth",
    .meth "Reader" "__init__",
    .meth "Reader" "current",
    .meth "Reader" "is_next",
    .meth "Reader" "accept",
    .meth "Reader" "expect",
    .meth "Reader" "read_name",
    .meth "Reader" "read_names",
    .meth "Reader" "read_row",
    .meth "Reader" "read_term",
    .meth "Reader" "read_expression",
    .meth "Reader" "read_arg",
    .meth "Reader" "read_args",
    .meth "Reader" "read_block",
    .meth "Reader" "read_statement",
    .meth "Reader" "read_action",
    .meth "Reader" "read_try"]
def khF2 : List He.Fa := [.meth "Reader" "read_with",
    .meth "Reader" "read_param",
    .meth "Reader" "read_function",
    .meth "Reader" "read_program",
    .glo "InvalidText",
    .meth "InvalidText" "__init__",
    .glo "InvalidSyntax",
    .meth "InvalidSyntax" "__init__",
    .glo "TooLarge",
    .meth "TooLarge" "__init__",
    .free "int",
    .free "len",
    .free "isinstance",
    .free "str",
    .free "range",
    .free "tuple",
    .free "abs",
    .free "sorted",
    .str "LETTERS" LET,
    .str "DIGITS" DIG,
    .str "SIGNS" SIG,
    .int "LONGEST" 12,
    .int "DEEPEST" 30,
    .glo "KEYWORDS"]
def khF : List He.Fa := khF0 ++ khF1 ++ khF2
def khD0 : List He.FnD := [khDef ("_law_mixed", none) "_law_mixed" "_law_mixed" sMixed,
    khDef ("_law_draw", none) "_law_draw" "_law_draw" sDraw,
    khDef ("_law_pool", none) "_law_pool" "_law_pool" sPool,
    khDef ("kind_of", none) "kind_of" "kind_of" sKindOf,
    khDef ("end_of_run", none) "end_of_run" "end_of_run" sEndRun,
    khDef ("tokens_of", none) "tokens_of" "tokens_of" sToksOf,
    khDef ("expression_of", none) "expression_of" "expression_of" sExprOf,
    khDef ("parse", none) "parse" "parse" sParse,
    khDef ("_law_names", none) "_law_names" "_law_names" sNames,
    khDef ("_law_expression", none) "_law_expression" "_law_expression" sLEx,
    khDef ("_law_args", none) "_law_args" "_law_args" sLAr,
    khDef ("_law_call", none) "_law_call" "_law_call" sLCa,
    khDef ("_law_piece", none) "_law_piece" "_law_piece" sLPi,
    khDef ("_law_block", none) "_law_block" "_law_block" sLBk,
    khDef ("_law_tree", none) "_law_tree" "_law_tree" sLTr,
    khDef ("_law_parts", none) "_law_parts" "_law_parts" sLPt,
    khDef ("_law_expression_text", none) "_law_expression_text" "_law_expression_text" sLXt,
    khDef ("_law_call_text", none) "_law_call_text" "_law_call_text" sLCt,
    khDef ("_law_line", none) "_law_line" "_law_line" sLLn,
    khDef ("_law_heads", none) "_law_heads" "_law_heads" sLHd,
    khDef ("_law_lines", none) "_law_lines" "_law_lines" sLLs,
    khDef ("_law_text", none) "_law_text" "_law_text" sLTx,
    khDef ("_law_tokens", none) "_law_tokens" "_law_tokens" sLTk,
    khDef ("_law_told", none) "_law_told" "_law_told" sLTd,
    khDef ("_law_nested", none) "_law_nested" "_law_nested" sLNs]
def khD1 : List He.FnD := [khDef ("_law_cut_right", none) "_law_cut_right" "_law_cut_right" sLCr,
    khDef ("law", none) "law" "law" sLaw,
    khDef ("Reader", some "__init__") "__init__" "Reader.__init__" sRIni,
    khDef ("Reader", some "current") "current" "Reader.current" sRCur,
    khDef ("Reader", some "is_next") "is_next" "Reader.is_next" sRNext,
    khDef ("Reader", some "accept") "accept" "Reader.accept" sRAcc,
    khDef ("Reader", some "expect") "expect" "Reader.expect" sRExp,
    khDef ("Reader", some "read_name") "read_name" "Reader.read_name" sRName,
    khDef ("Reader", some "read_names") "read_names" "Reader.read_names" sRNms,
    khDef ("Reader", some "read_row") "read_row" "Reader.read_row" sRRow,
    khDef ("Reader", some "read_term") "read_term" "Reader.read_term" sRTerm,
    khDef ("Reader", some "read_expression") "read_expression" "Reader.read_expression" sRExpr,
    khDef ("Reader", some "read_arg") "read_arg" "Reader.read_arg" sRArg,
    khDef ("Reader", some "read_args") "read_args" "Reader.read_args" sRArgs,
    khDef ("Reader", some "read_block") "read_block" "Reader.read_block" sRBlk,
    khDef ("Reader", some "read_statement") "read_statement" "Reader.read_statement" sRStm,
    khDef ("Reader", some "read_action") "read_action" "Reader.read_action" sRAct,
    khDef ("Reader", some "read_try") "read_try" "Reader.read_try" sRTry,
    khDef ("Reader", some "read_with") "read_with" "Reader.read_with" sRWth,
    khDef ("Reader", some "read_param") "read_param" "Reader.read_param" sRPar,
    khDef ("Reader", some "read_function") "read_function" "Reader.read_function" sRFun,
    khDef ("Reader", some "read_program") "read_program" "Reader.read_program" sRPrg,
    khDef ("InvalidText", some "__init__") "__init__" "InvalidText.__init__" sXI0,
    khDef ("InvalidSyntax", some "__init__") "__init__" "InvalidSyntax.__init__" sXI1,
    khDef ("TooLarge", some "__init__") "__init__" "TooLarge.__init__" sXI2]
def khD : List He.FnD := khD0 ++ khD1
def khW : List He.DefD := []
abbrev khH : PySem.W.Hook := hookA khX khF khD khW
def khO (s : PySem.W.SharedT) : AlA := obsAG khX khF khD khW (HandSHeadRun.getT s)
theorem khO_eq (s : PySem.W.SharedT) : khO s = khH.obs s.abs := obsAG_eq (HandSHeadRun.getT_eq s)
section
open PySem.W PySem.Calls PyProof.Rows HandSHeadRun
theorem khRun1 (w : World) (os : OsState) : (endF (stepQ (denQ tabQ) khR.prog w) 60000 khR.prog w os).map (fun s => looksF khR.prog (boot_heap w.params) s.abs) = some true := by kernel_rfl
theorem khRun2 (w : World) (os : OsState) : (endF (stepQ (denQ tabQ) khR.prog w) 60000 khR.prog w os).map (fun s => seenQ khQ khN (importedModules khR.prog.main.body) (fun s => xlAt khQ [] s && recOk khR.toRowW.records s) s.abs) = some (openGood khQ khN) := by kernel_rfl
theorem khRun3 (w : World) (os : OsState) : (endF (stepQ (denQ tabQ) khR.prog w) 60000 khR.prog w os).map khO = some (valA khD khW) := by kernel_rfl
theorem khRun (w : World) : RunEq khR khQ khH khO 60000 khN w := fun os => split3 (khRun1 w os) (khRun2 w os) (khRun3 w os)
end
theorem khFacts {l : PySem.W.OpenLaw} {w : World} {K : PySem.W.Frag} {h : Heap} {mg : Str → Option Value} {fa : Addr} (X : K.In h) (G : h.Ns mainGlobals mg) (hfa : mg "law" = some (.ref fa)) (c : SaysA khX khF khD khW K) :
    ∃ fd : FuncData, (∀ (s : Shared) (v : Value), BindsTo s fd ⟨[v], []⟩ [("_law_script", v)]) ∧ ∀ base : Heap, K.In base → base.Ns mainGlobals mg → FnOk l.prog w K mg base CX0 105 fa fd PLaw (spLaw K) := by
  have gMixed := He.glo_ok X G (x := "_law_mixed") (c.fact 0 (by kernel_rfl))
  obtain ⟨fdMixed, FMixed⟩ := c.def_ 0 (a := ("_law_mixed", none)) (x := "_law_mixed") (q := "_law_mixed") (st := sMixed) (by kernel_rfl)
  have bMixed := FMixed.binds (ps := PMixed) fun _ _ _ _ _ _ us hl => match us, hl with | [_, _, _], _ => rfl
  have kMixed := FMixed.kp
  have gDraw := He.glo_ok X G (x := "_law_draw") (c.fact 1 (by kernel_rfl))
  obtain ⟨fdDraw, FDraw⟩ := c.def_ 1 (a := ("_law_draw", none)) (x := "_law_draw") (q := "_law_draw") (st := sDraw) (by kernel_rfl)
  have bDraw := FDraw.binds (ps := PDraw) fun _ _ _ _ _ _ us hl => match us, hl with | [_, _], _ => rfl
  have kDraw := FDraw.kp
  have gPool := He.glo_ok X G (x := "_law_pool") (c.fact 2 (by kernel_rfl))
  obtain ⟨fdPool, FPool⟩ := c.def_ 2 (a := ("_law_pool", none)) (x := "_law_pool") (q := "_law_pool") (st := sPool) (by kernel_rfl)
  have bPool := FPool.binds (ps := PPool) fun _ _ _ _ _ _ us hl => match us, hl with | [_], _ => rfl
  have kPool := FPool.kp
  have gKindOf := He.glo_ok X G (x := "kind_of") (c.fact 3 (by kernel_rfl))
  obtain ⟨fdKindOf, FKindOf⟩ := c.def_ 3 (a := ("kind_of", none)) (x := "kind_of") (q := "kind_of") (st := sKindOf) (by kernel_rfl)
  have bKindOf := FKindOf.binds (ps := PKindOf) fun _ _ _ _ _ _ us hl => match us, hl with | [_], _ => rfl
  have kKindOf := FKindOf.kp
  have gEndRun := He.glo_ok X G (x := "end_of_run") (c.fact 4 (by kernel_rfl))
  obtain ⟨fdEndRun, FEndRun⟩ := c.def_ 4 (a := ("end_of_run", none)) (x := "end_of_run") (q := "end_of_run") (st := sEndRun) (by kernel_rfl)
  have bEndRun := FEndRun.binds (ps := PEndRun) fun _ _ _ _ _ _ us hl => match us, hl with | [_, _], _ => rfl
  have kEndRun := FEndRun.kp
  have gToksOf := He.glo_ok X G (x := "tokens_of") (c.fact 5 (by kernel_rfl))
  obtain ⟨fdToksOf, FToksOf⟩ := c.def_ 5 (a := ("tokens_of", none)) (x := "tokens_of") (q := "tokens_of") (st := sToksOf) (by kernel_rfl)
  have bToksOf := FToksOf.binds (ps := PToksOf) fun _ _ _ _ _ _ us hl => match us, hl with | [_], _ => rfl
  have kToksOf := FToksOf.kp
  have gExprOf := He.glo_ok X G (x := "expression_of") (c.fact 6 (by kernel_rfl))
  obtain ⟨fdExprOf, FExprOf⟩ := c.def_ 6 (a := ("expression_of", none)) (x := "expression_of") (q := "expression_of") (st := sExprOf) (by kernel_rfl)
  have bExprOf := FExprOf.binds (ps := PExprOf) fun _ _ _ _ _ _ us hl => match us, hl with | [_, _], _ => rfl
  have kExprOf := FExprOf.kp
  have gParse := He.glo_ok X G (x := "parse") (c.fact 7 (by kernel_rfl))
  obtain ⟨fdParse, FParse⟩ := c.def_ 7 (a := ("parse", none)) (x := "parse") (q := "parse") (st := sParse) (by kernel_rfl)
  have bParse := FParse.binds (ps := PParse) fun _ _ _ _ _ _ us hl => match us, hl with | [_], _ => rfl
  have kParse := FParse.kp
  have gNames := He.glo_ok X G (x := "_law_names") (c.fact 8 (by kernel_rfl))
  obtain ⟨fdNames, FNames⟩ := c.def_ 8 (a := ("_law_names", none)) (x := "_law_names") (q := "_law_names") (st := sNames) (by kernel_rfl)
  have bNames := FNames.binds (ps := PNames) fun _ _ _ _ _ _ us hl => match us, hl with | [_], _ => rfl
  have kNames := FNames.kp
  have gLEx := He.glo_ok X G (x := "_law_expression") (c.fact 9 (by kernel_rfl))
  obtain ⟨fdLEx, FLEx⟩ := c.def_ 9 (a := ("_law_expression", none)) (x := "_law_expression") (q := "_law_expression") (st := sLEx) (by kernel_rfl)
  have bLEx := FLEx.binds (ps := PLEx) fun _ _ _ _ _ _ us hl => match us, hl with | [_, _, _], _ => rfl
  have kLEx := FLEx.kp
  have gLAr := He.glo_ok X G (x := "_law_args") (c.fact 10 (by kernel_rfl))
  obtain ⟨fdLAr, FLAr⟩ := c.def_ 10 (a := ("_law_args", none)) (x := "_law_args") (q := "_law_args") (st := sLAr) (by kernel_rfl)
  have bLAr := FLAr.binds (ps := PLAr) fun _ _ _ _ _ _ us hl => match us, hl with | [_, _, _], _ => rfl
  have kLAr := FLAr.kp
  have gLCa := He.glo_ok X G (x := "_law_call") (c.fact 11 (by kernel_rfl))
  obtain ⟨fdLCa, FLCa⟩ := c.def_ 11 (a := ("_law_call", none)) (x := "_law_call") (q := "_law_call") (st := sLCa) (by kernel_rfl)
  have bLCa := FLCa.binds (ps := PLCa) fun _ _ _ _ _ _ us hl => match us, hl with | [_, _], _ => rfl
  have kLCa := FLCa.kp
  have gLPi := He.glo_ok X G (x := "_law_piece") (c.fact 12 (by kernel_rfl))
  obtain ⟨fdLPi, FLPi⟩ := c.def_ 12 (a := ("_law_piece", none)) (x := "_law_piece") (q := "_law_piece") (st := sLPi) (by kernel_rfl)
  have bLPi := FLPi.binds (ps := PLPi) fun _ _ _ _ _ _ us hl => match us, hl with | [_, _, _, _], _ => rfl
  have kLPi := FLPi.kp
  have gLBk := He.glo_ok X G (x := "_law_block") (c.fact 13 (by kernel_rfl))
  obtain ⟨fdLBk, FLBk⟩ := c.def_ 13 (a := ("_law_block", none)) (x := "_law_block") (q := "_law_block") (st := sLBk) (by kernel_rfl)
  have bLBk := FLBk.binds (ps := PLBk) fun _ _ _ _ _ _ us hl => match us, hl with | [_, _, _, _], _ => rfl
  have kLBk := FLBk.kp
  have gLTr := He.glo_ok X G (x := "_law_tree") (c.fact 14 (by kernel_rfl))
  obtain ⟨fdLTr, FLTr⟩ := c.def_ 14 (a := ("_law_tree", none)) (x := "_law_tree") (q := "_law_tree") (st := sLTr) (by kernel_rfl)
  have bLTr := FLTr.binds (ps := PLTr) fun _ _ _ _ _ _ us hl => match us, hl with | [_], _ => rfl
  have kLTr := FLTr.kp
  have gLPt := He.glo_ok X G (x := "_law_parts") (c.fact 15 (by kernel_rfl))
  obtain ⟨fdLPt, FLPt⟩ := c.def_ 15 (a := ("_law_parts", none)) (x := "_law_parts") (q := "_law_parts") (st := sLPt) (by kernel_rfl)
  have bLPt := FLPt.binds (ps := PLPt) fun _ _ _ _ _ _ us hl => match us, hl with | [_], _ => rfl
  have kLPt := FLPt.kp
  have gLXt := He.glo_ok X G (x := "_law_expression_text") (c.fact 16 (by kernel_rfl))
  obtain ⟨fdLXt, FLXt⟩ := c.def_ 16 (a := ("_law_expression_text", none)) (x := "_law_expression_text") (q := "_law_expression_text") (st := sLXt) (by kernel_rfl)
  have bLXt := FLXt.binds (ps := PLXt) fun _ _ _ _ _ _ us hl => match us, hl with | [_], _ => rfl
  have kLXt := FLXt.kp
  have gLCt := He.glo_ok X G (x := "_law_call_text") (c.fact 17 (by kernel_rfl))
  obtain ⟨fdLCt, FLCt⟩ := c.def_ 17 (a := ("_law_call_text", none)) (x := "_law_call_text") (q := "_law_call_text") (st := sLCt) (by kernel_rfl)
  have bLCt := FLCt.binds (ps := PLCt) fun _ _ _ _ _ _ us hl => match us, hl with | [_], _ => rfl
  have kLCt := FLCt.kp
  have gLLn := He.glo_ok X G (x := "_law_line") (c.fact 18 (by kernel_rfl))
  obtain ⟨fdLLn, FLLn⟩ := c.def_ 18 (a := ("_law_line", none)) (x := "_law_line") (q := "_law_line") (st := sLLn) (by kernel_rfl)
  have bLLn := FLLn.binds (ps := PLLn) fun _ _ _ _ _ _ us hl => match us, hl with | [_], _ => rfl
  have kLLn := FLLn.kp
  have gLHd := He.glo_ok X G (x := "_law_heads") (c.fact 19 (by kernel_rfl))
  obtain ⟨fdLHd, FLHd⟩ := c.def_ 19 (a := ("_law_heads", none)) (x := "_law_heads") (q := "_law_heads") (st := sLHd) (by kernel_rfl)
  have bLHd := FLHd.binds (ps := PLHd) fun _ _ _ _ _ _ us hl => match us, hl with | [_], _ => rfl
  have kLHd := FLHd.kp
  have gLLs := He.glo_ok X G (x := "_law_lines") (c.fact 20 (by kernel_rfl))
  obtain ⟨fdLLs, FLLs⟩ := c.def_ 20 (a := ("_law_lines", none)) (x := "_law_lines") (q := "_law_lines") (st := sLLs) (by kernel_rfl)
  have bLLs := FLLs.binds (ps := PLLs) fun _ _ _ _ _ _ us hl => match us, hl with | [_, _], _ => rfl
  have kLLs := FLLs.kp
  have gLTx := He.glo_ok X G (x := "_law_text") (c.fact 21 (by kernel_rfl))
  obtain ⟨fdLTx, FLTx⟩ := c.def_ 21 (a := ("_law_text", none)) (x := "_law_text") (q := "_law_text") (st := sLTx) (by kernel_rfl)
  have bLTx := FLTx.binds (ps := PLTx) fun _ _ _ _ _ _ us hl => match us, hl with | [_], _ => rfl
  have kLTx := FLTx.kp
  have gLTk := He.glo_ok X G (x := "_law_tokens") (c.fact 22 (by kernel_rfl))
  obtain ⟨fdLTk, FLTk⟩ := c.def_ 22 (a := ("_law_tokens", none)) (x := "_law_tokens") (q := "_law_tokens") (st := sLTk) (by kernel_rfl)
  have bLTk := FLTk.binds (ps := PLTk) fun _ _ _ _ _ _ us hl => match us, hl with | [_], _ => rfl
  have kLTk := FLTk.kp
  have gLTd := He.glo_ok X G (x := "_law_told") (c.fact 23 (by kernel_rfl))
  obtain ⟨fdLTd, FLTd⟩ := c.def_ 23 (a := ("_law_told", none)) (x := "_law_told") (q := "_law_told") (st := sLTd) (by kernel_rfl)
  have bLTd := FLTd.binds (ps := PLTd) fun _ _ _ _ _ _ us hl => match us, hl with | [_], _ => rfl
  have kLTd := FLTd.kp
  have gLNs := He.glo_ok X G (x := "_law_nested") (c.fact 24 (by kernel_rfl))
  obtain ⟨fdLNs, FLNs⟩ := c.def_ 24 (a := ("_law_nested", none)) (x := "_law_nested") (q := "_law_nested") (st := sLNs) (by kernel_rfl)
  have bLNs := FLNs.binds (ps := PLNs) fun _ _ _ _ _ _ us hl => match us, hl with | [_], _ => rfl
  have kLNs := FLNs.kp
  have gLCr := He.glo_ok X G (x := "_law_cut_right") (c.fact 25 (by kernel_rfl))
  obtain ⟨fdLCr, FLCr⟩ := c.def_ 25 (a := ("_law_cut_right", none)) (x := "_law_cut_right") (q := "_law_cut_right") (st := sLCr) (by kernel_rfl)
  have bLCr := FLCr.binds (ps := PLCr) fun _ _ _ _ _ _ us hl => match us, hl with | [_, _, _], _ => rfl
  have kLCr := FLCr.kp
  have gLaw := He.glo_ok X G (x := "law") (c.fact 26 (by kernel_rfl))
  obtain ⟨fdLaw, FLaw⟩ := c.def_ 26 (a := ("law", none)) (x := "law") (q := "law") (st := sLaw) (by kernel_rfl)
  have bLaw := FLaw.binds (ps := PLaw) fun _ _ _ _ _ _ us hl => match us, hl with | [_], _ => rfl
  have kLaw := FLaw.kp
  have gProgramError := He.glo_ok X G (x := "ProgramError") (c.fact 27 (by kernel_rfl))
  have gReader := He.glo_ok X G (x := "Reader") (c.fact 28 (by kernel_rfl))
  have clReader := He.cls_ok (x := "Reader") (c.fact 29 (by kernel_rfl))
  have mkReader := He.mkr_ok (x := "Reader") (c.fact 30 (by kernel_rfl))
  have noReader_tokens := He.noat_ok (x := "Reader") (f := "tokens") (c.fact 31 (by kernel_rfl))
  have noReader_index_of_token := He.noat_ok (x := "Reader") (f := "index_of_token") (c.fact 32 (by kernel_rfl))
  have noReader_depth := He.noat_ok (x := "Reader") (f := "depth") (c.fact 33 (by kernel_rfl))
  have meRIni := He.meth_ok (x := "Reader") (m := "__init__") (c.fact 34 (by kernel_rfl))
  obtain ⟨fdRIni, FRIni⟩ := c.def_ 27 (a := ("Reader", some "__init__")) (x := "__init__") (q := "Reader.__init__") (st := sRIni) (by kernel_rfl)
  have bRIni := FRIni.binds (ps := PRIni) fun _ _ _ _ _ _ us hl => match us, hl with | [_, _], _ => rfl
  have kRIni := FRIni.kp
  have meRCur := He.meth_ok (x := "Reader") (m := "current") (c.fact 35 (by kernel_rfl))
  obtain ⟨fdRCur, FRCur⟩ := c.def_ 28 (a := ("Reader", some "current")) (x := "current") (q := "Reader.current") (st := sRCur) (by kernel_rfl)
  have bRCur := FRCur.binds (ps := PRCur) fun _ _ _ _ _ _ us hl => match us, hl with | [_], _ => rfl
  have kRCur := FRCur.kp
  have meRNext := He.meth_ok (x := "Reader") (m := "is_next") (c.fact 36 (by kernel_rfl))
  obtain ⟨fdRNext, FRNext⟩ := c.def_ 29 (a := ("Reader", some "is_next")) (x := "is_next") (q := "Reader.is_next") (st := sRNext) (by kernel_rfl)
  have bRNext := FRNext.binds (ps := PRNext) fun _ _ _ _ _ _ us hl => match us, hl with | [_, _], _ => rfl
  have kRNext := FRNext.kp
  have meRAcc := He.meth_ok (x := "Reader") (m := "accept") (c.fact 37 (by kernel_rfl))
  obtain ⟨fdRAcc, FRAcc⟩ := c.def_ 30 (a := ("Reader", some "accept")) (x := "accept") (q := "Reader.accept") (st := sRAcc) (by kernel_rfl)
  have bRAcc := FRAcc.binds (ps := PRAcc) fun _ _ _ _ _ _ us hl => match us, hl with | [_, _], _ => rfl
  have kRAcc := FRAcc.kp
  have meRExp := He.meth_ok (x := "Reader") (m := "expect") (c.fact 38 (by kernel_rfl))
  obtain ⟨fdRExp, FRExp⟩ := c.def_ 31 (a := ("Reader", some "expect")) (x := "expect") (q := "Reader.expect") (st := sRExp) (by kernel_rfl)
  have bRExp := FRExp.binds (ps := PRExp) fun _ _ _ _ _ _ us hl => match us, hl with | [_, _], _ => rfl
  have kRExp := FRExp.kp
  have meRName := He.meth_ok (x := "Reader") (m := "read_name") (c.fact 39 (by kernel_rfl))
  obtain ⟨fdRName, FRName⟩ := c.def_ 32 (a := ("Reader", some "read_name")) (x := "read_name") (q := "Reader.read_name") (st := sRName) (by kernel_rfl)
  have bRName := FRName.binds (ps := PRName) fun _ _ _ _ _ _ us hl => match us, hl with | [_], _ => rfl
  have kRName := FRName.kp
  have meRNms := He.meth_ok (x := "Reader") (m := "read_names") (c.fact 40 (by kernel_rfl))
  obtain ⟨fdRNms, FRNms⟩ := c.def_ 33 (a := ("Reader", some "read_names")) (x := "read_names") (q := "Reader.read_names") (st := sRNms) (by kernel_rfl)
  have bRNms := FRNms.binds (ps := PRNms) fun _ _ _ _ _ _ us hl => match us, hl with | [_], _ => rfl
  have kRNms := FRNms.kp
  have meRRow := He.meth_ok (x := "Reader") (m := "read_row") (c.fact 41 (by kernel_rfl))
  obtain ⟨fdRRow, FRRow⟩ := c.def_ 34 (a := ("Reader", some "read_row")) (x := "read_row") (q := "Reader.read_row") (st := sRRow) (by kernel_rfl)
  have bRRow := FRRow.binds (ps := PRRow) fun _ _ _ _ _ _ us hl => match us, hl with | [_], _ => rfl
  have kRRow := FRRow.kp
  have meRTerm := He.meth_ok (x := "Reader") (m := "read_term") (c.fact 42 (by kernel_rfl))
  obtain ⟨fdRTerm, FRTerm⟩ := c.def_ 35 (a := ("Reader", some "read_term")) (x := "read_term") (q := "Reader.read_term") (st := sRTerm) (by kernel_rfl)
  have bRTerm := FRTerm.binds (ps := PRTerm) fun _ _ _ _ _ _ us hl => match us, hl with | [_], _ => rfl
  have kRTerm := FRTerm.kp
  have meRExpr := He.meth_ok (x := "Reader") (m := "read_expression") (c.fact 43 (by kernel_rfl))
  obtain ⟨fdRExpr, FRExpr⟩ := c.def_ 36 (a := ("Reader", some "read_expression")) (x := "read_expression") (q := "Reader.read_expression") (st := sRExpr) (by kernel_rfl)
  have bRExpr := FRExpr.binds (ps := PRExpr) fun _ _ _ _ _ _ us hl => match us, hl with | [_], _ => rfl
  have kRExpr := FRExpr.kp
  have meRArg := He.meth_ok (x := "Reader") (m := "read_arg") (c.fact 44 (by kernel_rfl))
  obtain ⟨fdRArg, FRArg⟩ := c.def_ 37 (a := ("Reader", some "read_arg")) (x := "read_arg") (q := "Reader.read_arg") (st := sRArg) (by kernel_rfl)
  have bRArg := FRArg.binds (ps := PRArg) fun _ _ _ _ _ _ us hl => match us, hl with | [_], _ => rfl
  have kRArg := FRArg.kp
  have meRArgs := He.meth_ok (x := "Reader") (m := "read_args") (c.fact 45 (by kernel_rfl))
  obtain ⟨fdRArgs, FRArgs⟩ := c.def_ 38 (a := ("Reader", some "read_args")) (x := "read_args") (q := "Reader.read_args") (st := sRArgs) (by kernel_rfl)
  have bRArgs := FRArgs.binds (ps := PRArgs) fun _ _ _ _ _ _ us hl => match us, hl with | [_], _ => rfl
  have kRArgs := FRArgs.kp
  have meRBlk := He.meth_ok (x := "Reader") (m := "read_block") (c.fact 46 (by kernel_rfl))
  obtain ⟨fdRBlk, FRBlk⟩ := c.def_ 39 (a := ("Reader", some "read_block")) (x := "read_block") (q := "Reader.read_block") (st := sRBlk) (by kernel_rfl)
  have bRBlk := FRBlk.binds (ps := PRBlk) fun _ _ _ _ _ _ us hl => match us, hl with | [_], _ => rfl
  have kRBlk := FRBlk.kp
  have meRStm := He.meth_ok (x := "Reader") (m := "read_statement") (c.fact 47 (by kernel_rfl))
  obtain ⟨fdRStm, FRStm⟩ := c.def_ 40 (a := ("Reader", some "read_statement")) (x := "read_statement") (q := "Reader.read_statement") (st := sRStm) (by kernel_rfl)
  have bRStm := FRStm.binds (ps := PRStm) fun _ _ _ _ _ _ us hl => match us, hl with | [_], _ => rfl
  have kRStm := FRStm.kp
  have meRAct := He.meth_ok (x := "Reader") (m := "read_action") (c.fact 48 (by kernel_rfl))
  obtain ⟨fdRAct, FRAct⟩ := c.def_ 41 (a := ("Reader", some "read_action")) (x := "read_action") (q := "Reader.read_action") (st := sRAct) (by kernel_rfl)
  have bRAct := FRAct.binds (ps := PRAct) fun _ _ _ _ _ _ us hl => match us, hl with | [_], _ => rfl
  have kRAct := FRAct.kp
  have meRTry := He.meth_ok (x := "Reader") (m := "read_try") (c.fact 49 (by kernel_rfl))
  obtain ⟨fdRTry, FRTry⟩ := c.def_ 42 (a := ("Reader", some "read_try")) (x := "read_try") (q := "Reader.read_try") (st := sRTry) (by kernel_rfl)
  have bRTry := FRTry.binds (ps := PRTry) fun _ _ _ _ _ _ us hl => match us, hl with | [_], _ => rfl
  have kRTry := FRTry.kp
  have meRWth := He.meth_ok (x := "Reader") (m := "read_with") (c.fact 50 (by kernel_rfl))
  obtain ⟨fdRWth, FRWth⟩ := c.def_ 43 (a := ("Reader", some "read_with")) (x := "read_with") (q := "Reader.read_with") (st := sRWth) (by kernel_rfl)
  have bRWth := FRWth.binds (ps := PRWth) fun _ _ _ _ _ _ us hl => match us, hl with | [_], _ => rfl
  have kRWth := FRWth.kp
  have meRPar := He.meth_ok (x := "Reader") (m := "read_param") (c.fact 51 (by kernel_rfl))
  obtain ⟨fdRPar, FRPar⟩ := c.def_ 44 (a := ("Reader", some "read_param")) (x := "read_param") (q := "Reader.read_param") (st := sRPar) (by kernel_rfl)
  have bRPar := FRPar.binds (ps := PRPar) fun _ _ _ _ _ _ us hl => match us, hl with | [_], _ => rfl
  have kRPar := FRPar.kp
  have meRFun := He.meth_ok (x := "Reader") (m := "read_function") (c.fact 52 (by kernel_rfl))
  obtain ⟨fdRFun, FRFun⟩ := c.def_ 45 (a := ("Reader", some "read_function")) (x := "read_function") (q := "Reader.read_function") (st := sRFun) (by kernel_rfl)
  have bRFun := FRFun.binds (ps := PRFun) fun _ _ _ _ _ _ us hl => match us, hl with | [_], _ => rfl
  have kRFun := FRFun.kp
  have meRPrg := He.meth_ok (x := "Reader") (m := "read_program") (c.fact 53 (by kernel_rfl))
  obtain ⟨fdRPrg, FRPrg⟩ := c.def_ 46 (a := ("Reader", some "read_program")) (x := "read_program") (q := "Reader.read_program") (st := sRPrg) (by kernel_rfl)
  have bRPrg := FRPrg.binds (ps := PRPrg) fun _ _ _ _ _ _ us hl => match us, hl with | [_], _ => rfl
  have kRPrg := FRPrg.kp
  have x_0 : XcK K (He.ga K "InvalidText") (.ref (He.ga K "ProgramError") :: XC.tlV) "ValueError.__new__" "value" := xcB_ok (c.x 0 (f := fun K => xcB K "InvalidText" (.ref (He.ga K "ProgramError") :: XC.tlV) "ValueError.__new__" "value") (by kernel_rfl))
  have gInvalidText := He.glo_ok X G (x := "InvalidText") (c.fact 54 (by kernel_rfl))
  have meXI0 := He.meth_ok (x := "InvalidText") (m := "__init__") (c.fact 55 (by kernel_rfl))
  obtain ⟨fdXI0, FXI0⟩ := c.def_ 47 (a := ("InvalidText", some "__init__")) (x := "__init__") (q := "InvalidText.__init__") (st := sXI0) (by kernel_rfl)
  have bXI0 := FXI0.binds (ps := PXI0) fun _ _ _ _ _ _ us hl => match us, hl with | [_, _], _ => rfl
  have kXI0 := FXI0.kp
  have x_1 : XcK K (He.ga K "InvalidSyntax") (.ref (He.ga K "ProgramError") :: XC.tlV) "ValueError.__new__" "position" := xcB_ok (c.x 1 (f := fun K => xcB K "InvalidSyntax" (.ref (He.ga K "ProgramError") :: XC.tlV) "ValueError.__new__" "position") (by kernel_rfl))
  have gInvalidSyntax := He.glo_ok X G (x := "InvalidSyntax") (c.fact 56 (by kernel_rfl))
  have meXI1 := He.meth_ok (x := "InvalidSyntax") (m := "__init__") (c.fact 57 (by kernel_rfl))
  obtain ⟨fdXI1, FXI1⟩ := c.def_ 48 (a := ("InvalidSyntax", some "__init__")) (x := "__init__") (q := "InvalidSyntax.__init__") (st := sXI1) (by kernel_rfl)
  have bXI1 := FXI1.binds (ps := PXI1) fun _ _ _ _ _ _ us hl => match us, hl with | [_, _], _ => rfl
  have kXI1 := FXI1.kp
  have x_2 : XcK K (He.ga K "TooLarge") (.ref (He.ga K "ProgramError") :: XC.tlV) "ValueError.__new__" "word" := xcB_ok (c.x 2 (f := fun K => xcB K "TooLarge" (.ref (He.ga K "ProgramError") :: XC.tlV) "ValueError.__new__" "word") (by kernel_rfl))
  have gTooLarge := He.glo_ok X G (x := "TooLarge") (c.fact 58 (by kernel_rfl))
  have meXI2 := He.meth_ok (x := "TooLarge") (m := "__init__") (c.fact 59 (by kernel_rfl))
  obtain ⟨fdXI2, FXI2⟩ := c.def_ 49 (a := ("TooLarge", some "__init__")) (x := "__init__") (q := "TooLarge.__init__") (st := sXI2) (by kernel_rfl)
  have bXI2 := FXI2.binds (ps := PXI2) fun _ _ _ _ _ _ us hl => match us, hl with | [_, _], _ => rfl
  have kXI2 := FXI2.kp
  have m_int := He.free_ok X G (x := "int") (c.fact 60 (by kernel_rfl))
  have m_len := He.free_ok X G (x := "len") (c.fact 61 (by kernel_rfl))
  have m_isinstance := He.free_ok X G (x := "isinstance") (c.fact 62 (by kernel_rfl))
  have m_str := He.free_ok X G (x := "str") (c.fact 63 (by kernel_rfl))
  have m_range := He.free_ok X G (x := "range") (c.fact 64 (by kernel_rfl))
  have m_tuple := He.free_ok X G (x := "tuple") (c.fact 65 (by kernel_rfl))
  have m_abs := He.free_ok X G (x := "abs") (c.fact 66 (by kernel_rfl))
  have m_sorted := He.free_ok X G (x := "sorted") (c.fact 67 (by kernel_rfl))
  obtain ⟨t_LETTERS, m_LETTERS⟩ := He.str_ok X G (x := "LETTERS") (z := LET) (c.fact 68 (by kernel_rfl))
  obtain ⟨t_DIGITS, m_DIGITS⟩ := He.str_ok X G (x := "DIGITS") (z := DIG) (c.fact 69 (by kernel_rfl))
  obtain ⟨t_SIGNS, m_SIGNS⟩ := He.str_ok X G (x := "SIGNS") (z := SIG) (c.fact 70 (by kernel_rfl))
  obtain ⟨t_LONGEST, m_LONGEST⟩ := He.int_ok X G (x := "LONGEST") (i := 12) (c.fact 71 (by kernel_rfl))
  obtain ⟨t_DEEPEST, m_DEEPEST⟩ := He.int_ok X G (x := "DEEPEST") (i := 30) (c.fact 72 (by kernel_rfl))
  have m_KEYWORDS := He.glo_ok X G (x := "KEYWORDS") (c.fact 73 (by kernel_rfl))
  have l_KEYWORDS := fun H => He.tupB_ok (K := K) (x := "KEYWORDS") (vs := [.str "globals", .str "kinds", .str "keep", .str "def", .str "if", .str "else", .str "while", .str "risk", .str "raise", .str "try", .str "except", .str "finally", .str "undo", .str "with", .str "swallow", .str "return"]) (c.x 3 (f := fun K => He.tupB K "KEYWORDS" [.str "globals", .str "kinds", .str "keep", .str "def", .str "if", .str "else", .str "while", .str "risk", .str "raise", .str "try", .str "except", .str "finally", .str "undo", .str "with", .str "swallow", .str "return"]) (by kernel_rfl)) H
  have c_ss := c.x 4 (f := fun K => decide (PySem.W.exmOne K (.ref (He.ga K "InvalidSyntax")) (.ref (He.ga K "InvalidSyntax")) = some true)) (by kernel_rfl)
  have c_ts := c.x 5 (f := fun K => decide (PySem.W.exmOne K (.ref (He.ga K "TooLarge")) (.ref (He.ga K "InvalidSyntax")) = some false)) (by kernel_rfl)
  have c_vs := c.x 6 (f := fun K => decide (PySem.W.exmOne K (.ref (He.ga K "InvalidText")) (.ref (He.ga K "InvalidSyntax")) = some false)) (by kernel_rfl)
  have c_tt := c.x 7 (f := fun K => decide (PySem.W.exmOne K (.ref (He.ga K "TooLarge")) (.ref (He.ga K "TooLarge")) = some true)) (by kernel_rfl)
  have c_vt := c.x 8 (f := fun K => decide (PySem.W.exmOne K (.ref (He.ga K "InvalidText")) (.ref (He.ga K "TooLarge")) = some false)) (by kernel_rfl)
  have c_vv := c.x 9 (f := fun K => decide (PySem.W.exmOne K (.ref (He.ga K "InvalidText")) (.ref (He.ga K "InvalidText")) = some true)) (by kernel_rfl)
  have hE := hfa.symm.trans gLaw
  cases hE
  have T0 : TxPool mg := ⟨m_int, m_len⟩
  have TTk : TxTok K mg (He.ga K "KEYWORDS") := { n_len := m_len, c_LETTERS := ⟨_, m_LETTERS, _, rfl⟩, c_DIGITS := ⟨_, m_DIGITS, _, rfl⟩, c_SIGNS := ⟨_, m_SIGNS, _, rfl⟩, c_KEYWORDS := ⟨_, m_KEYWORDS, rfl⟩, kws := l_KEYWORDS }
  have TD : TxRd mg := { n_tuple := m_tuple, n_len := m_len, n_int := m_int, n_sorted := m_sorted }
  have TSu : TxSum mg := { toTxRd := TD, c_LONGEST := ⟨_, m_LONGEST, _, rfl⟩ }
  have TB : TxBlk mg := { toTxSum := TSu, c_DEEPEST := ⟨_, m_DEEPEST, _, rfl⟩ }
  have TR : TxR K (He.ga K "Reader") := ⟨clReader, noReader_tokens, noReader_index_of_token, noReader_depth⟩
  have TG : TxGen mg := ⟨m_sorted, m_tuple, m_range, m_len⟩
  have TL : TxLt mg := ⟨m_str, m_abs, m_int, m_len, m_range⟩
  refine ⟨fdLaw, ?_, fun base kB gB => ?_⟩
  · obtain ⟨_, _, _, _, _, _, _, _, _, rfl, _, _⟩ := FLaw.ex
    exact fun s v => .of_eq rfl
  have X : ErrH l.prog w K mg base (fun i => ([(He.ga K "InvalidText"), (He.ga K "InvalidSyntax"), (He.ga K "TooLarge")] : List Addr).getD i 0) :=
    ⟨⟨_, _, _, oexV x_0, meXI0.at_, eq_of_beq meXI0.fn, ok_XI0 FXI0 (oexV x_0) x_0.no, gInvalidText, bXI0⟩, ⟨_, _, _, oexV x_1, meXI1.at_, eq_of_beq meXI1.fn, ok_XI1 FXI1 (oexV x_1) x_1.no, gInvalidSyntax, bXI1⟩, ⟨_, _, _, oexV x_2, meXI2.at_, eq_of_beq meXI2.fn, ok_XI2 FXI2 (oexV x_2) x_2.no, gTooLarge, bXI2⟩⟩
  have M : ErrN K mg (fun i => ([(He.ga K "InvalidText"), (He.ga K "InvalidSyntax"), (He.ga K "TooLarge")] : List Addr).getD i 0) (He.ga K "ProgramError") := ⟨gProgramError, of_decide_eq_true c_ss, of_decide_eq_true c_ts, of_decide_eq_true c_vs, of_decide_eq_true c_tt, of_decide_eq_true c_vt, of_decide_eq_true c_vv, x_1.xf (bmB := XC.tlV) (by show PySem.W.excTail XC.tlV XC.tlV = true; decide +kernel) (by decide +kernel), x_1.no, x_2.xf (bmB := XC.tlV) (by show PySem.W.excTail XC.tlV XC.tlV = true; decide +kernel) (by decide +kernel), x_2.no, x_0.xf (bmB := XC.tlV) (by show PySem.W.excTail XC.tlV XC.tlV = true; decide +kernel) (by decide +kernel), x_0.no⟩
  have GM : Has l.prog w K mg base CX0 1 "_law_mixed" PMixed spMixed := ⟨_, _, ok_Mixed FMixed T0, gMixed, kMixed, bMixed⟩
  have GD : Has l.prog w K mg base CX0 2 "_law_draw" PDraw spDraw := ⟨_, _, ok_Draw FDraw T0 GM, gDraw, kDraw, bDraw⟩
  have GP : Has l.prog w K mg base CX0 1 "_law_pool" PPool (spPool K) := ⟨_, _, ok_Pool FPool T0, gPool, kPool, bPool⟩
  have GK : Has l.prog w K mg base CX0 1 "kind_of" PKindOf spKind := ⟨_, _, ok_KindOf FKindOf TTk, gKindOf, kKindOf, bKindOf⟩
  have GE : Has l.prog w K mg base CX0 1 "end_of_run" PEndRun spEnd := ⟨_, _, ok_EndRun FEndRun TTk, gEndRun, kEndRun, bEndRun⟩
  have GTo : Has l.prog w K mg base CX0 2 "tokens_of" PToksOf spToks := ⟨_, _, ok_ToksOf FToksOf TTk GK GE, gToksOf, kToksOf, bToksOf⟩
  have GEx : Has l.prog w K mg base CX0 1 "expression_of" PExprOf spExprOf := ⟨_, _, ok_ExprOf FExprOf TSu, gExprOf, kExprOf, bExprOf⟩
  have HC : HasC l.prog w K mg base CX0 3 "Reader" (He.ga K "Reader") PRIni (spRIni (He.ga K "Reader")) := ⟨_, _, mkReader, ok_RIni FRIni TR GTo, gReader, bRIni⟩
  have MC0 : HasM l.prog w K mg base CX0 1 (He.ga K "Reader") "current" PRCur (spCurr (He.ga K "Reader")) := ⟨_, _, meRCur, ok_RCur FRCur TR, bRCur⟩
  have MN0 : HasM l.prog w K mg base CX0 2 (He.ga K "Reader") "is_next" PRNext (spNext (He.ga K "Reader")) := ⟨_, _, meRNext, ok_RNext FRNext TR MC0, bRNext⟩
  have MA0 : HasM l.prog w K mg base CX0 3 (He.ga K "Reader") "accept" PRAcc (spAcc (He.ga K "Reader")) := ⟨_, _, meRAcc, ok_RAcc FRAcc TR MN0, bRAcc⟩
  have MC := cur_G MC0
  have MI := nxt_G MN0
  have MA := acc_G MA0
  have MX : HasM l.prog w K mg base (L2N.CX l.prog w) (4) (He.ga K "Reader") "expect" PRExp (spExpG ((fun i => ([(He.ga K "InvalidText"), (He.ga K "InvalidSyntax"), (He.ga K "TooLarge")] : List Addr).getD i 0) 1) ((fun i => ([(He.ga K "InvalidText"), (He.ga K "InvalidSyntax"), (He.ga K "TooLarge")] : List Addr).getD i 0) 2) (He.ga K "Reader")) := ⟨_, _, meRExp, ok_RExpG FRExp TR X MC MA, bRExp⟩
  have MM : HasM l.prog w K mg base (L2N.CX l.prog w) (3) (He.ga K "Reader") "read_name" PRName (spRdN ((fun i => ([(He.ga K "InvalidText"), (He.ga K "InvalidSyntax"), (He.ga K "TooLarge")] : List Addr).getD i 0) 1) ((fun i => ([(He.ga K "InvalidText"), (He.ga K "InvalidSyntax"), (He.ga K "TooLarge")] : List Addr).getD i 0) 2) (He.ga K "Reader") rName) := ⟨_, _, meRName, ok_RNameG FRName TR X MC, bRName⟩
  have MN : HasM l.prog w K mg base (L2N.CX l.prog w) (4) (He.ga K "Reader") "read_names" PRNms (spRd ((fun i => ([(He.ga K "InvalidText"), (He.ga K "InvalidSyntax"), (He.ga K "TooLarge")] : List Addr).getD i 0) 1) ((fun i => ([(He.ga K "InvalidText"), (He.ga K "InvalidSyntax"), (He.ga K "TooLarge")] : List Addr).getD i 0) 2) (He.ga K "Reader") rNames) := ⟨_, _, meRNms, ok_RNmsG FRNms m_tuple TR MA MM, bRNms⟩
  have MR : HasM l.prog w K mg base (L2N.CX l.prog w) (4) (He.ga K "Reader") "read_row" PRRow (spRd ((fun i => ([(He.ga K "InvalidText"), (He.ga K "InvalidSyntax"), (He.ga K "TooLarge")] : List Addr).getD i 0) 1) ((fun i => ([(He.ga K "InvalidText"), (He.ga K "InvalidSyntax"), (He.ga K "TooLarge")] : List Addr).getD i 0) 2) (He.ga K "Reader") rRow) := ⟨_, _, meRRow, ok_RRowG FRRow m_tuple TR MC MM, bRRow⟩
  have MT : HasM l.prog w K mg base (L2N.CX l.prog w) (4) (He.ga K "Reader") "read_term" PRTerm (spTermG ((fun i => ([(He.ga K "InvalidText"), (He.ga K "InvalidSyntax"), (He.ga K "TooLarge")] : List Addr).getD i 0) 1) ((fun i => ([(He.ga K "InvalidText"), (He.ga K "InvalidSyntax"), (He.ga K "TooLarge")] : List Addr).getD i 0) 2) (He.ga K "Reader")) := ⟨_, _, meRTerm, ok_RTermG FRTerm TSu TR X MC MA MM, bRTerm⟩
  have ME : HasM l.prog w K mg base (L2N.CX l.prog w) (5) (He.ga K "Reader") "read_expression" PRExpr (spRd ((fun i => ([(He.ga K "InvalidText"), (He.ga K "InvalidSyntax"), (He.ga K "TooLarge")] : List Addr).getD i 0) 1) ((fun i => ([(He.ga K "InvalidText"), (He.ga K "InvalidSyntax"), (He.ga K "TooLarge")] : List Addr).getD i 0) 2) (He.ga K "Reader") rExpr) := ⟨_, _, meRExpr, ok_RExprG FRExpr TSu TR MT MA GEx, bRExpr⟩
  have MG : HasM l.prog w K mg base (L2N.CX l.prog w) (6) (He.ga K "Reader") "read_arg" PRArg (spRd ((fun i => ([(He.ga K "InvalidText"), (He.ga K "InvalidSyntax"), (He.ga K "TooLarge")] : List Addr).getD i 0) 1) ((fun i => ([(He.ga K "InvalidText"), (He.ga K "InvalidSyntax"), (He.ga K "TooLarge")] : List Addr).getD i 0) 2) (He.ga K "Reader") rArg) := ⟨_, _, meRArg, ok_RArgG FRArg TR MM MA ME, bRArg⟩
  have MGs : HasM l.prog w K mg base (L2N.CX l.prog w) (7) (He.ga K "Reader") "read_args" PRArgs (spRd ((fun i => ([(He.ga K "InvalidText"), (He.ga K "InvalidSyntax"), (He.ga K "TooLarge")] : List Addr).getD i 0) 1) ((fun i => ([(He.ga K "InvalidText"), (He.ga K "InvalidSyntax"), (He.ga K "TooLarge")] : List Addr).getD i 0) 2) (He.ga K "Reader") rArgs) := ⟨_, _, meRArgs, ok_RArgsG FRArgs TD TR MG MA MX, bRArgs⟩
  have MPa : HasM l.prog w K mg base (L2N.CX l.prog w) (4) (He.ga K "Reader") "read_param" PRPar (spRd ((fun i => ([(He.ga K "InvalidText"), (He.ga K "InvalidSyntax"), (He.ga K "TooLarge")] : List Addr).getD i 0) 1) ((fun i => ([(He.ga K "InvalidText"), (He.ga K "InvalidSyntax"), (He.ga K "TooLarge")] : List Addr).getD i 0) 2) (He.ga K "Reader") rParam) := ⟨_, _, meRPar, ok_RParG FRPar TR MM MA, bRPar⟩
  have MAc : HasM l.prog w K mg base (L2N.CX l.prog w) (8) (He.ga K "Reader") "read_action" PRAct (spRd ((fun i => ([(He.ga K "InvalidText"), (He.ga K "InvalidSyntax"), (He.ga K "TooLarge")] : List Addr).getD i 0) 1) ((fun i => ([(He.ga K "InvalidText"), (He.ga K "InvalidSyntax"), (He.ga K "TooLarge")] : List Addr).getD i 0) 2) (He.ga K "Reader") rAction) := ⟨_, _, meRAct, ok_RActG FRAct TR MC MI MM MA MX ME MGs, bRAct⟩
  have MBl : HasM l.prog w K mg base (L2N.CX l.prog w) (9 + 3 * 30) (He.ga K "Reader") "read_block" PRBlk (spRdD ((fun i => ([(He.ga K "InvalidText"), (He.ga K "InvalidSyntax"), (He.ga K "TooLarge")] : List Addr).getD i 0) 1) ((fun i => ([(He.ga K "InvalidText"), (He.ga K "InvalidSyntax"), (He.ga K "TooLarge")] : List Addr).getD i 0) 2) (He.ga K "Reader") 30 (rBlock 30)) := ⟨_, _, meRBlk, ok_RBlksG FRBlk FRStm FRTry FRWth TB TR X meRBlk bRBlk meRStm bRStm meRTry bRTry meRWth bRWth MC MI MA MM MX MN ME MGs MAc 30, bRBlk⟩
  have MFu : HasM l.prog w K mg base (L2N.CX l.prog w) (9 + 3 * 30 + 1) (He.ga K "Reader") "read_function" PRFun (spRdD ((fun i => ([(He.ga K "InvalidText"), (He.ga K "InvalidSyntax"), (He.ga K "TooLarge")] : List Addr).getD i 0) 1) ((fun i => ([(He.ga K "InvalidText"), (He.ga K "InvalidSyntax"), (He.ga K "TooLarge")] : List Addr).getD i 0) 2) (He.ga K "Reader") 30 rFunction) := ⟨_, _, meRFun, ok_RFunG FRFun TD TR MM MA MX MPa MBl, bRFun⟩
  have MPr : HasM l.prog w K mg base (L2N.CX l.prog w) (9 + 3 * 30 + 1 + 1) (He.ga K "Reader") "read_program" PRPrg (spRdD ((fun i => ([(He.ga K "InvalidText"), (He.ga K "InvalidSyntax"), (He.ga K "TooLarge")] : List Addr).getD i 0) 1) ((fun i => ([(He.ga K "InvalidText"), (He.ga K "InvalidSyntax"), (He.ga K "TooLarge")] : List Addr).getD i 0) 2) (He.ga K "Reader") 30 rProgram) := ⟨_, _, meRPrg, ok_RPrgG FRPrg TD TR X MC MA MR ME MFu, bRPrg⟩
  have GPa : Has l.prog w K mg base (L2N.CX l.prog w) (9 + 3 * 30 + 1 + 1 + 1) "parse" PParse (spParseG K ((fun i => ([(He.ga K "InvalidText"), (He.ga K "InvalidSyntax"), (He.ga K "TooLarge")] : List Addr).getD i 0) 1) ((fun i => ([(He.ga K "InvalidText"), (He.ga K "InvalidSyntax"), (He.ga K "TooLarge")] : List Addr).getD i 0) 2) ((fun i => ([(He.ga K "InvalidText"), (He.ga K "InvalidSyntax"), (He.ga K "TooLarge")] : List Addr).getD i 0) 0)) := ⟨_, _, ok_ParseG FParse m_isinstance m_str TR X HC MPr, gParse, kParse, bParse⟩
  have GTd : Has l.prog w K mg base CX0 (9 + 3 * 30 + 1 + 1 + 1 + 1) "_law_told" PLTd (spLTd K) := ⟨_, _, ok_LTd FLTd X M GPa, gLTd, kLTd, bLTd⟩
  have GNs : Has l.prog w K mg base CX0 (1) "_law_nested" PLNs (spLNs) := ⟨_, _, ok_LNs FLNs, gLNs, kLNs, bLNs⟩
  have GC : Has l.prog w K mg base CX0 (9 + 3 * 30 + 1 + 1 + 1 + 1 + 1) "_law_cut_right" PLCr (spLCr) := ⟨_, _, ok_LCr FLCr m_len m_int GTd (by decide), gLCr, kLCr, bLCr⟩
  have GKt : HasT l.prog w K mg base CX0 (1) "_law_tokens" PLTk (spLTk) := ⟨_, _, ok_LTk FLTk, gLTk, kLTk, bLTk⟩
  have GN : Has l.prog w K mg base CX0 3 "_law_names" PNames spNames := ⟨_, _, ok_Names FNames ⟨m_str, m_range⟩ GD, gNames, kNames, bNames⟩
  have GLE : Has l.prog w K mg base CX0 3 "_law_expression" PLEx (spLEx K) := ⟨_, _, ok_LEx FLEx TG GD, gLEx, kLEx, bLEx⟩
  have GLA : Has l.prog w K mg base CX0 4 "_law_args" PLAr (spLAr K) := ⟨_, _, ok_LAr FLAr TG GD GLE, gLAr, kLAr, bLAr⟩
  have GLC : Has l.prog w K mg base CX0 5 "_law_call" PLCa (spLCa K) := ⟨_, _, ok_LCa FLCa TG GD GLA, gLCa, kLCa, bLCa⟩
  have GLB : Has l.prog w K mg base CX0 15 "_law_block" PLBk (spLBk K 5) := ⟨_, _, ok_pb FLPi FLBk TG gLPi kLPi bLPi gLBk kLBk bLBk GD GLE GLC 5, gLBk, kLBk, bLBk⟩
  have GT : Has l.prog w K mg base CX0 16 "_law_tree" PLTr (spLTr K) := ⟨_, _, ok_LTr FLTr TG GD GN GLE GLB, gLTr, kLTr, bLTr⟩
  have GPt : Has l.prog w K mg base CX0 1 "_law_parts" PLPt (spLPt K) := ⟨_, _, ok_LPt FLPt, gLPt, kLPt, bLPt⟩
  have GXt : Has l.prog w K mg base CX0 1 "_law_expression_text" PLXt (spLXt K) := ⟨_, _, ok_LXt FLXt TL, gLXt, kLXt, bLXt⟩
  have GCt : Has l.prog w K mg base CX0 2 "_law_call_text" PLCt (spLCt K) := ⟨_, _, ok_LCt FLCt GXt, gLCt, kLCt, bLCt⟩
  have GLn : Has l.prog w K mg base CX0 3 "_law_line" PLLn (spLLn K) := ⟨_, _, ok_LLn FLLn GXt GCt, gLLn, kLLn, bLLn⟩
  have GHd : Has l.prog w K mg base CX0 3 "_law_heads" PLHd (spLHd K) := ⟨_, _, ok_LHd FLHd GCt, gLHd, kLHd, bLHd⟩
  have GLs : Has l.prog w K mg base CX0 (4 + 6) "_law_lines" PLLs (spLLs K 6) := ⟨_, _, ok_LLss FLLs TL GPt GLn GHd gLLs kLLs bLLs 6, gLLs, kLLs, bLLs⟩
  have GX : Has l.prog w K mg base CX0 (4 + 6 + 1) "_law_text" PLTx (spLTx K 6) := ⟨_, _, ok_LTx (n := 6) FLTx GXt GLs, gLTx, kLTx, bLTx⟩
  exact ok_Law FLaw ⟨m_len, m_range⟩ GP GD GT GX GTd GNs GC GKt
end Aon
open PySem PySem.W PySem.Calls PyProof.Rows
set_option maxRecDepth 100000 in
set_option maxHeartbeats 0 in
theorem PySem.Challenge.cw_allornothing_k05_characters_and_sizes_of_holds : PySem.Challenge.rw_allornothing_k05_characters_and_sizes_of.Holds := by
  w_on; o_law
  refine HandSHeadRun.head_any (r := PySem.W.OpenLaw.row PySem.Challenge.rw_allornothing_k05_characters_and_sizes_of) (q := Aon.khQ) (H := Aon.khH) (ob := Aon.khO) (M := 60000) (loose := Aon.khN) (d := HandSHeadRun.topDef (PySem.W.OpenLaw.row PySem.Challenge.rw_allornothing_k05_characters_and_sizes_of).prog 41) (kwd := []) Aon.khO_eq
    (by kernel_rfl) (fun s => by kernel_rfl) Aon.khRun (by kernel_rfl) (by kernel_rfl) (by kernel_rfl) (by rfl) (by first | assumption | decide +kernel) (by decide +kernel) ⟨rfl, rfl, rfl, rfl, rfl, by decide +kernel⟩ ?hw ?hc
  case hw => w_witness2
  case hc =>
    refine L2.walk_ofE (l := PySem.Challenge.rw_allornothing_k05_characters_and_sizes_of) (n := 63) (k := 105) (x := "_law_script") (CX := L2.CX0) rfl (by decide) (by kernel_rfl) ⟨rfl, by decide, by decide⟩ ?F (fun _ _ _ _ z => z)
    intro w mg fa h Y G hmg0
    obtain ⟨K, KX, c⟩ := Y
    have hmg : mg ("law" : PySem.Str) = some (.ref fa) := by
      have e : (HandSHeadRun.topDef (PySem.W.OpenLaw.row PySem.Challenge.rw_allornothing_k05_characters_and_sizes_of).prog 41).name = ("law" : PySem.Str) := by kernel_rfl
      rw [← e]
      exact hmg0
    obtain ⟨fd, hb, hF⟩ := Aon.khFacts (l := PySem.Challenge.rw_allornothing_k05_characters_and_sizes_of) (w := w) KX G hmg c
    exact ⟨K, fd, Aon.spLaw K, KX, hb, fun _ a ns hl _ hS => ⟨a, ns, rfl, hS, hl, fun _ => rfl⟩, hF⟩
#print axioms PySem.Challenge.cw_allornothing_k05_characters_and_sizes_of_holds

