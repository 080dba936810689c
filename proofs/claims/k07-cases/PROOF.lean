import PyProof.Rows.All
import Wide.All
import OpenK.AllK
import Wide.FinOn
import HandS.ForMost
import HandS.Wide
import HandS.IsInst
import HandS.Walk
import HandS.Flow
import HandS.Property
import HandS.Star
import HandS.DictComp
import HandS.Conv
import HandS.Zip
import HandS.SortKw
import HandS.MapSum
import HandS.Text
import HandS.TryOnly
import HandS.FStr
import HandS.TupAny
import HandS.Codes
import HandS.Replace
import HandS.ReplaceList
import PyProof.StrBlock
import PyProof.RulesMatchSeq
import PyProof.Rows.MatchSeqLen
import KE.GoesEnumKw
import KE.KTurns
import KE.GoesMore
import PyProof.GenRules
import HandS.GenList
import HandS.OwnEq
import HandS.TupLe
import HandS.TryMany
import HandS.ExcInit
import HandS.ExcInitHot
import HandS.ExcIs
import HandS.ExcField
import HandS.WordsExc
import HandS.DeepEq
import HandS.Deep
import KE.KExcInit
import KE.KStateDown
import HandS.Defaults
import HandS.Head0
import HandS.Head1
import HandS.Head2
import HandS.HeadEnd
import HandS.HeadHook1
import HandS.HeadHook2
import PySem.Challenge.RW_allornothing_k07_cases_and_cells
set_option Elab.async false
set_option linter.all false
set_option maxRecDepth 100000
set_option maxHeartbeats 4000000
namespace Aon
open PySem L2
def topS (i : Nat) : Stmt := PySem.Challenge.pw_allornothing_k07_cases_and_cells.main.body.getD i (.Pass ⟨0, 0, 0, 0⟩)

/-! ### words of this text, over HandS -/
theorem bb_int : bootBuiltins "int" = some (.type "int") := by decide +kernel
theorem bb_str : bootBuiltins "str" = some (.type "str") := by decide +kernel
theorem bb_bool : bootBuiltins "bool" = some (.type "bool") := by decide +kernel
theorem bb_list : bootBuiltins "list" = some (.type "list") := by decide +kernel
theorem bb_tuple : bootBuiltins "tuple" = some (.type "tuple") := by decide +kernel
theorem bb_len : bootBuiltins "len" = some (.builtin "len") := by decide +kernel
theorem bb_all : bootBuiltins "all" = some (.builtin "all") := by decide +kernel
theorem bb_isinstance : bootBuiltins "isinstance" = some (.builtin "isinstance") := by decide +kernel
/-- a def that stands under its name: its promise, and how it is called -/
structure Has (P : Program) (w : World) (K : PySem.W.Frag) (mg : Str → Option Value) (base : Heap) (CX : CXT) (k : Nat) (x : Str) (ps : List Str) (sp : Sp) : Prop where
  ex : ∃ (f : Addr) (fd : FuncData), FnOk P w K mg base CX k f fd ps sp ∧ mg x = some (.ref f) ∧ PySem.W.keepIn K (.ref f) = true ∧ Binds K fd ps []
section
variable {X : Cx}
theorem pe_callH {CX : CXT} {k : Nat} {x : Str} {ps : List Str} {sp : Sp} {E : XK} {e : Expr} {es : List Expr} {t : TA} {p pos : Pos} (F : Has X.prog X.w X.K X.mg X.base CX k x ps sp) (hr : Room k X.A) (hg : Gl X x) (hx : Passes CX X E) (ha : PA X (e :: es) t)
    (hd : (x == ("__debug__" : Str)) = false := by decide) (he : starEach (e :: es) X.env = (false, eval e X.env) :: starEach es X.env := by rfl) (hpl : (backTo pos (starEach es X.env)).any (·.1) = false := by rfl) :
    PE X (.Call (.Name x p) (e :: es) [] pos) (tCall sp [] E t) := by
  obtain ⟨f, fd, F, m, kp, b⟩ := F.ex
  exact pe_call F hr hg m kp b .nil hx ha hd he hpl
theorem pe_callH0 {CX : CXT} {k : Nat} {x : Str} {ps : List Str} {sp : Sp} {E : XK} {p pos : Pos} (F : Has X.prog X.w X.K X.mg X.base CX k x ps sp) (hr : Room k X.A) (hg : Gl X x) (hx : Passes CX X E) (hd : (x == ("__debug__" : Str)) = false := by decide) :
    PE X (.Call (.Name x p) [] [] pos) (tCall sp [] E tNil) := by
  obtain ⟨f, fd, F, m, kp, b⟩ := F.ex
  exact pe_call0 F hr hg m kp b .nil hx hd
theorem pe_globE {x : Str} {v : V} {pos : Pos} (hg : Gl X x) (hm : ∃ u, X.mg x = some u ∧ RelV v u) (hd : (x == ("__debug__" : Str)) = false := by decide) : PE X (.Name x pos) (tC v) := by
  obtain ⟨u, m, r⟩ := hm
  exact pe_glob hg m r hd
end
/-- a method of the class at C; a class under its name -/
structure HasM (P : Program) (w : World) (K : PySem.W.Frag) (mg : Str → Option Value) (base : Heap) (CX : CXT) (k : Nat) (C : Addr) (m : Str) (ps : List Str) (sp : Sp) : Prop where
  ex : ∃ (f : Addr) (fd : FuncData), Meth K C m f ∧ FnOk P w K mg base CX k f fd ps sp ∧ Binds K fd ps []
structure HasC (P : Program) (w : World) (K : PySem.W.Frag) (mg : Str → Option Value) (base : Heap) (CX : CXT) (k : Nat) (x : Str) (C : Addr) (ps : List Str) (sp : Sp) : Prop where
  ex : ∃ (f : Addr) (fd : FuncData), Mk K C f ∧ FnOk P w K mg base CX k f fd ps sp ∧ mg x = some (.ref C) ∧ Binds K fd ps []
section
variable {X : Cx}
theorem pe_methH {CX : CXT} {k : Nat} {C : Addr} {m : Str} {ps : List Str} {sp : Sp} {E : XK} {o e : Expr} {es : List Expr} {ta : TE} {t : TA} {apos pos : Pos} {pl : Sem Bool} (he : PE X o ta) (c : Cls X.K C) (M : HasM X.prog X.w X.K X.mg X.base CX k C m ps sp) (hr : Room k X.A) (hx : Passes CX X E)
    (ha : PA X (e :: es) t) (hst : starEach (e :: es) X.env = (false, eval e X.env) :: starEach es X.env := by rfl) (hpl : (backTo pos (starEach es X.env)).any (·.1) = false := by rfl)
    (ht : eval (.Call (.Attribute o m apos) (e :: es) [] pos) X.env = (do
      let v ← eval o X.env
      standAt apos.atName
      let (g, r) ← holding [v] (getMethod v m pl)
      callWith pos g r (backTo pos (starEach (e :: es) X.env)) (backToKw pos (keywordEach [] X.env))) := by rfl) : PE X (.Call (.Attribute o m apos) (e :: es) [] pos) (tMeth C m sp [] E ta t) := by
  obtain ⟨f, fd, hm, F, b⟩ := M.ex
  exact pe_meth (pl := pl) he c hm F hr b .nil hx ha hst hpl ht
theorem pe_methH0 {CX : CXT} {k : Nat} {C : Addr} {m : Str} {ps : List Str} {sp : Sp} {E : XK} {o : Expr} {ta : TE} {apos pos : Pos} {pl : Sem Bool} (he : PE X o ta) (c : Cls X.K C) (M : HasM X.prog X.w X.K X.mg X.base CX k C m ps sp) (hr : Room k X.A) (hx : Passes CX X E)
    (ht : eval (.Call (.Attribute o m apos) [] [] pos) X.env = (do
      let v ← eval o X.env
      standAt apos.atName
      let (g, r) ← holding [v] (getMethod v m pl)
      callWith pos g r (backTo pos (starEach [] X.env)) (backToKw pos (keywordEach [] X.env))) := by rfl) : PE X (.Call (.Attribute o m apos) [] [] pos) (tMeth C m sp [] E ta tNil) := by
  obtain ⟨f, fd, hm, F, b⟩ := M.ex
  exact pe_meth0 (pl := pl) he c hm F hr b .nil hx ht
theorem pe_makeH {CX : CXT} {k : Nat} {x : Str} {C : Addr} {ps : List Str} {sp : Sp} {E : XK} {e : Expr} {es : List Expr} {t : TA} {p pos : Pos} (M : HasC X.prog X.w X.K X.mg X.base CX k x C ps sp) (hr : Room (k + 1) X.A) (hg : Gl X x) (hx : Passes CX X E) (ha : PA X (e :: es) t)
    (hd : (x == ("__debug__" : Str)) = false := by decide) (he : starEach (e :: es) X.env = (false, eval e X.env) :: starEach es X.env := by rfl) (hpl : (backTo pos (starEach es X.env)).any (·.1) = false := by rfl) :
    PE X (.Call (.Name x p) (e :: es) [] pos) (tMake C sp [] E t) := by
  obtain ⟨f, fd, mk, F, m, b⟩ := M.ex
  exact pe_make mk F hr hg m b .nil hx ha hd he hpl
theorem pe_propH {CX : CXT} {k : Nat} {C p : Addr} {f : Str} {ps : List Str} {sp : Sp} {E : XK} {e : Expr} {ta : TE} {pos : Pos} (he : PE X e ta) (c : Cls X.K C) (M : ∃ (g : Addr) (fd : FuncData), PropOf X.K C f p g ∧ FnOk X.prog X.w X.K X.mg X.base CX k g fd ps sp ∧ Binds X.K fd ps []) (hr : Room (k + 1) X.A) (hx : Passes CX X.nox E)
    (hab : attributeBase e f X.env (eval e X.env) = eval e X.env := by rfl) : PE X (.Attribute e f pos) (tProp C sp [] E ta) := by
  obtain ⟨g, fd, hp, F, b⟩ := M
  exact pe_prop he c hp F hr b .nil hx hab
end
/-- all but p and c stands -/
def But (p c : Addr) (H H' : Hp) : Prop := ∀ b o, H b = some o → b ≠ p → b ≠ c → H' b = some o
theorem But.refl {p c : Addr} {H : Hp} : But p c H H := fun _ _ e _ _ => e
theorem But.trans {p c : Addr} {H H1 H2 : Hp} (a : But p c H H1) (b : But p c H1 H2) : But p c H H2 := fun x o e h1 h2 => b x o (a x o e h1 h2) h1 h2
theorem iteE {c : Bool} {A B : Prop} (hc : c = false) (k : B) : if c = true then A else B := by
  rw [hc]
  exact iteF k
theorem iteS {c : Bool} {A B : Prop} (hc : c = true) (k : A) : if c = true then A else B := by
  rw [hc]
  exact iteT k

def dOf : V → PyData
  | .non => .none | .bl b => .bool b | .int i => .int i | .str z => .str z | _ => .none
theorem dp_flat {K : PySem.W.Frag} {H : Hp} {v : V} (h : flatV v = true) : Dp K H v (dOf v) := by
  cases v with
  | non => exact .non
  | bl b => exact .bl b
  | int i => exact .int i
  | str z => exact .str z
  | _ => cases h
theorem dpAll_flat {K : PySem.W.Frag} {H : Hp} : ∀ {xs : List V}, xs.all flatV = true → DpAll K H xs (xs.map dOf)
  | [], _ => .nil
  | x :: xs, h => by
    rw [List.all_cons, Bool.and_eq_true] at h
    exact .cons (dp_flat h.1) (dpAll_flat h.2)
/-! shapes -/
def okV : V → Bool
  | .str z => PyData.strOk z
  | _ => true
theorem lay_dOf {v : V} (h : okV v = true) : (dOf v).canLay0 = true := by
  cases v with
  | str z => simpa [dOf, PyData.canLay0, okV] using h
  | _ => simp [dOf, PyData.canLay0]
theorem layAll_dOf : ∀ {xs : List V}, xs.all okV = true → PyData.canLayAll0 (xs.map dOf) = true
  | [], _ => by simp [PyData.canLayAll0]
  | x :: xs, h => by
    rw [List.all_cons, Bool.and_eq_true] at h
    simp only [List.map_cons, PyData.canLayAll0, Bool.and_eq_true]
    exact ⟨lay_dOf h.1, layAll_dOf h.2⟩
theorem depth_dOf (v : V) : (dOf v).depth = 0 := by cases v <;> simp [dOf, PyData.depth]
theorem depthAll_dOf : ∀ xs : List V, PyData.depthAll (xs.map dOf) = 0
  | [] => by simp [PyData.depthAll]
  | x :: xs => by simp only [List.map_cons, PyData.depthAll, depth_dOf, depthAll_dOf xs]; rfl
theorem shaped_tup {xs : List V} (h : xs.all okV = true) : SeqAt.shaped (.tuple (xs.map dOf)) = true := by
  unfold SeqAt.shaped
  simp only [PyData.canLay0, PyData.depth, layAll_dOf h, depthAll_dOf, Bool.true_and]
  decide

/-! ### {**d, k: v}: the rule -/
section
variable {prog : Program} {w : World} {A : Around} {E : Value → Shared → Prop} {s : Shared}
theorem dput_ok {d : Addr} {kvs : List (Key × Value)} {k : Key} {key v : Value} {Q : Unit → Shared → Prop} (hkey : (mixKind prog w).is k key = true) (hm : s.heap.DictOf (mixKind prog w) d kvs) (hz : kvs.length ≤ sizeLine)
    (hQ : ∀ h', h'.DictOf (mixKind prog w) d (stored kvs k v) → Heap.SameBut d s.heap h' → Q () { s with heap := h' }) :
    wpAny (model prog w) A (dictPut d ((mixKind prog w).hash k) key v) Q E s := by
  obtain ⟨ob, es, ep, e1, e2, e3, e4, e5, e6⟩ := hm
  have z1 : es.size ≤ sizeLine := by
    have q1 := e5.length
    rw [Array.length_toList] at q1
    omega
  have fe : (es.findIdx? fun e => (mixKind prog w).is k e.key) = kvs.findIdx? fun kv => decide (kv.1 = k) := by
    rw [← e5.findIdx k]
    cases es with
    | mk l => simp
  unfold dictPut
  refine wpAny_bind (wpAny_dictFind_of hkey e1 e3 e4 ?_)
  cases fi : es.findIdx? fun e => (mixKind prog w).is k e.key with
  | some i =>
    have an : (kvs.any fun kv => decide (kv.1 = k)) = true := any_of_findIdx_some (fe ▸ fi)
    refine wpAny_updateDict e1 e3 (hQ _ ⟨_, _, ep, Heap.get?_update_self _ e1 (Obj.isFreed_of_dict (Obj.data_mapDict e3 _)), e2.mapDict _, Obj.data_mapDict e3 _, e4.modify _ _, ?_, ?_⟩ (Heap.SameBut.update ..))
    · unfold stored
      rw [if_pos an]
      have fl : (es.toList.findIdx? fun e => (mixKind prog w).is k e.key) = some i := by
        rw [← fi]
        cases es with
        | mk l => simp
      have r := e5.modify e6 fl v
      cases es with
      | mk l => simpa using r
    · unfold stored
      rw [if_pos an, keys_map_store]
      exact e6
  | none =>
    have nm : k ∉ kvs.map (·.1) := not_mem_of_findIdx_none (fe ▸ fi)
    have an : ¬ (kvs.any fun kv => decide (kv.1 = k)) = true := fun z => by
      obtain ⟨kv, m, q⟩ := List.any_eq_true.mp z
      exact nm (List.mem_map.mpr ⟨kv, m, of_decide_eq_true q⟩)
    refine wpAny_updateDictKeys (hz := z1) e1 e3 (hQ _ ⟨_, _, ep + 1, Heap.get?_update_self _ e1 (Obj.isFreed_of_dict (Obj.data_mapDictKeys e3 _)), e2.mapDictKeys _, Obj.data_mapDictKeys e3 _, e4.push hkey _, ?_, ?_⟩ (Heap.SameBut.update ..))
    · unfold stored
      rw [if_neg an]
      have r := e5.append hkey ((mixKind prog w).hash k) v
      cases es with
      | mk l => simpa using r
    · unfold stored
      rw [if_neg an, List.map_append, List.nodup_append]
      exact ⟨e6, by simp, fun a ha b hb z => nm (by
        have : b = k := by simpa using hb
        rw [← this, ← z]
        exact ha)⟩
theorem noref_loop {es : Array DictEntry} (hk : KeysOf (mixKind prog w) es) {f : DictEntry → PUnit → Sem (ForInStep PUnit)} (hf : ∀ e u, (∀ a, e.key ≠ .ref a) → f e u = pure (.yield PUnit.unit)) {Q : PUnit → Shared → Prop} (h : Q PUnit.unit s) :
    wpAny (model prog w) A (forIn es PUnit.unit f) Q E s := by
  rw [← Array.forIn_toList]
  have all : ∀ e ∈ es.toList, ∀ a, e.key ≠ Value.ref a := fun e he a z => by
    obtain ⟨k, q, _⟩ := hk e (by simpa using he)
    rcases keyIs_shape (k := k) (v := e.key) q with ⟨_, _, _, q⟩ | ⟨_, _, _, q⟩ <;> (rw [z] at q; cases q)
  refine wpAny_forIn_list f (fun rest _ s' => (∀ e ∈ rest, ∀ a, e.key ≠ Value.ref a) ∧ s' = s) Q ?_ ?_ es.toList PUnit.unit ⟨all, rfl⟩
  · rintro e rest b s' ⟨ha, rfl⟩
    rw [hf e b (ha e (List.mem_cons_self ..))]
    exact wpAny_pure ⟨fun x hx => ha x (List.mem_cons_of_mem _ hx), rfl⟩
  · rintro b s' ⟨_, rfl⟩
    exact h
theorem mergeMap_ok {d o : Addr} {kvs more : List (Key × Value)} {Q : Unit → Shared → Prop} (hdo : d ≠ o) (hoS : (o == sysModules) = false) (hd : s.heap.DictOf (mixKind prog w) d kvs) (ho : s.heap.DictOf (mixKind prog w) o more)
    (hz : kvs.length + more.length ≤ sizeLine) (hQ : ∀ h', h'.DictOf (mixKind prog w) d (merged kvs more) → Heap.SameBut d s.heap h' → Q () { s with heap := h' }) :
    wpAny (model prog w) A (mergeMapping d (.ref o) false) Q E s := by
  have ty := ho.typeIs
  obtain ⟨od, esd, epd, d1, d2, d3, d4, d5, d6⟩ := id hd
  obtain ⟨oo, es, ep, o1, o2, o3, o4, o5, o6⟩ := id ho
  have hlen : more.length = es.size := by rw [← o5.length]; simp
  unfold mergeMapping
  refine wpAny_bind (wpAny_isInstance ty isSubtype_dict_dict ?_)
  simp only [if_true]
  refine wpAny_bind (wpAny_specialOf ty F.slot_dict_iter.lookup ?_)
  simp only [beq_self_eq_true, Bool.false_eq_true, if_false]
  refine wpAny_bind (wpAny_pure ?_)
  dsimp only
  rw [if_neg (by rw [hoS]; exact Bool.false_ne_true)]
  refine wpAny_bind (wpAny_dictEntries d1 d3 ?_)
  have loop : wpAny (model prog w) A (do
      let l ← dictEntries o
      let epoch ← dictEpoch o
      forIn (List.range l.size) PUnit.unit fun i _ => (do
          let l' ← dictEntries o
          match l'[i]? with
            | some e => do
              holding [e.key, e.val] (dictPut d e.hash e.key e.val)
              let ep' ← dictEpoch o
              if (ep' != epoch) = true then do
                  (unsupported "dict.changed-during-merge" : Sem PUnit)
                  pure (ForInStep.yield PUnit.unit)
                else pure (ForInStep.yield PUnit.unit)
            | _ => do
              (unsupported "dict.changed-during-merge" : Sem PUnit)
              pure (ForInStep.yield PUnit.unit) : Sem (ForInStep PUnit))
      pure ()) Q E s := by
    refine wpAny_bind (wpAny_dictEntries o1 o3 (wpAny_bind (wpAny_dictEpoch o1 o3 (wpAny_bind ?_))))
    refine wpAny_forIn_list _ (fun rest _ s' => ∃ (h' : Heap) (i : Nat), s' = { s with heap := h' } ∧ rest = (List.range es.size).drop i ∧ i ≤ es.size ∧ h'.DictOf (mixKind prog w) d (merged kvs (more.take i)) ∧ h'.get? o = some oo ∧ Heap.SameBut d s.heap h') _ ?_ ?_ _ _
      ⟨s.heap, 0, rfl, rfl, Nat.zero_le _, by simpa [merged] using hd, o1, Heap.SameBut.refl _ _⟩
    · rintro x rest b s' ⟨h', i, rfl, hr, hi, hd', ho', hs'⟩
      have hlt : i < es.size := by
        rcases Nat.lt_or_ge i es.size with q | q
        · exact q
        · rw [List.drop_of_length_le (by simpa using q)] at hr
          cases hr
      rw [List.drop_eq_getElem_cons (by simpa using hlt), List.getElem_range] at hr
      injection hr with hx hr
      subst hx
      refine wpAny_bind (wpAny_dictEntries ho' o3 ?_)
      rw [Array.getElem?_eq_getElem hlt]
      obtain ⟨⟨k, v⟩, hkv⟩ : ∃ kv, more[x]? = some kv := ⟨more[x]'(by omega), by simp [hlen, hlt]⟩
      obtain ⟨hkey, hval⟩ := o5.get? (e := es[x]) (by simp [hlt]) hkv
      obtain ⟨k', hkey', hhash⟩ := o4 es[x] (Array.getElem_mem hlt)
      obtain rfl : k' = k := (mixKind prog w).inj _ _ _ hkey' hkey
      show wpAny _ _ (holding [es[x].key, es[x].val] (dictPut d es[x].hash es[x].key es[x].val) >>= _) _ _ _
      rw [hhash, hval]
      have q1 := merged_length_le kvs (more.take x)
      have q2 : (more.take x).length ≤ more.length := by rw [List.length_take]; omega
      refine wpAny_bind (wpAny_holding (dput_ok hkey hd' (by omega) fun h2 hd2 hs2 => ?_))
      have ho2 : h2.get? o = some oo := (hs2.2 o (Ne.symm hdo)).trans ho'
      refine wpAny_bind (wpAny_dictEpoch ho2 o3 ?_)
      rw [if_neg (by simp)]
      exact wpAny_pure ⟨h2, x + 1, rfl, hr, hlt, by rw [merged_take_succ kvs more x (k', v) hkv]; exact hd2, ho2, hs'.trans hs2⟩
    · rintro b s' ⟨h', i, rfl, hr, hi, hd', ho', hs'⟩
      have e : i = es.size := by
        rcases Nat.lt_or_ge i es.size with q | q
        · rw [List.drop_eq_getElem_cons (by simpa using q)] at hr
          cases hr
        · omega
      rw [e, ← hlen, List.take_length] at hd'
      exact wpAny_pure (hQ h' hd' hs')
  split
  · refine wpAny_bind (wpAny_dictEntries o1 o3 (wpAny_bind (noref_loop o4 (fun e u hne => ?_) loop)))
    split
    · rename_i a q
      exact absurd q (hne a)
    · rfl
  · exact loop
end
/-- what is asked of the mapping and the pair; the new dict stands at p -/
def tDstar (td tk tv : TE) : TE := fun σ H Q => ∀ p, H p = none → td σ (upd H p (.dK [])) fun x H1 => ∃ (a : Addr) (kvs : List (Key × V)), x = .ref a ∧ a ≠ p ∧ Rd H1 a (.dK kvs) ∧ H1 p = some (.dK []) ∧ kvs.length ≤ 1000 ∧
  ∀ q, H1 q = none → tk σ (upd (upd H1 p (.dK kvs)) q (.dK [])) fun y H2 => tv σ H2 fun z H3 => ∃ k : Key, y = kV k ∧ H3 p = some (.dK kvs) ∧ H3 q = some (.dK []) ∧ Q (.ref p) (upd (upd H3 q (.dK [(k, z)])) p (.dK (putK kvs k z)))
section
variable {X : Cx}
theorem dictDisplay_star (m k v : Sem Value) : dictDisplay [(none, m), (some k, v)] = (do
    let d ← alloc { cls := .type "dict", data := .dict #[] }
    let x ← holding [.ref d] m
    (((holding [.ref d, x] (mergeMapping d x false)).onRaise fun y => do let _ ← holding [.ref d, x, y] (runValue (.builtin "proto.let_go" {}))).tryCatch fun e => do
        if ← isInstance e (.type "AttributeError") then
          rule "dict.display.not-a-mapping"; raiseError "TypeError" s!"'{← typeNameOf x}' object is not a mapping"
        throw e).onRaise fun y => do let _ ← holding [.ref d, y] (runValue (.builtin "proto.let_go" {}))
    let sub ← holding [.ref d] (subDict [(k, v)])
    (holding [.ref d, .ref sub] (mergeMapping d (.ref sub) false)).onRaise fun y => do let _ ← holding [.ref d, y] (runValue (.builtin "proto.let_go" {}))
    pure (.ref d)) := by
  unfold dictDisplay
  simp [List.forIn_cons, List.forIn_nil]
theorem stored_nodup {kvs : List (Key × Value)} : (kvs.map (·.1)).Nodup → merged ([] : List (Key × Value)) kvs = kvs := merged_nil_of_nodup kvs
theorem kv_put {kvs : List (Key × V)} {vs : List (Key × Value)} (r : KV kvs vs) (k : Key) {z : V} {u : Value} (rz : RelV z u) : KV (putK kvs k z) (stored vs k u) := r.put k rz
theorem pe_dstar {d k v : Expr} {td tk tv : TE} {pos : Pos} (hd : PE X d td) (hk : PE X k tk) (hv : PE X v tv) : PE X (.Dict [none, some k] [d, v] pos) (tDstar td tk tv) := by
  refine ⟨fun pins s σ H Q I h => ?_⟩
  rw [arm_eval_Dict]
  refine wpAny_bind (wpAny_standAt ?_)
  show wpAny _ _ (dictDisplay [(none, do let x ← eval d X.env; standAt pos; pure x), (some (eval k X.env), do let x ← eval v X.env; standAt pos; pure x)]) _ _ _
  rw [dictDisplay_star]
  refine wpAny_bind (wpAny_alloc ?_)
  have hn := I.hok.fresh (Nat.le_refl s.heap.objs.size)
  have I1 := I.laid (a := s.heap.objs.size) (o := .dK []) (h' := s.heap.push { cls := .type "dict", data := .dict #[] }) (t' := s.toks) (fun _ _ q => Heap.get?_push_of_some _ q) (Nat.le_refl _) (dk_empty s.heap I.big)
  refine wpAny_bind (wpAny_holding (wpAny_bind (thn (hd.run pins _ σ _ _ I1 (h _ hn)) fun xv s1 hh => ?_)))
  obtain ⟨x, H1, J1, rx, a, kvs, ex, nap, ea, ep, hl, hq⟩ := hh
  subst ex
  obtain rfl : xv = Value.ref a := rx
  refine wpAny_bind (wpAny_standAt (wpAny_pure ?_))
  obtain ⟨_, ma, va, ra, da⟩ := dk_rd J1.hok ea
  obtain ⟨_, mp, vp, rp, dp⟩ := dk_of J1.hok ep
  cases rp
  have lva : va.length ≤ 1000 := by rw [← ra.length]; exact hl
  have ndv : (va.map (·.1)).Nodup := by
    obtain ⟨_, _, _, _, _, _, _, _, nd⟩ := da
    exact nd
  refine wpAny_bind (wpAny_onRaise (wpAny_tryCatch (wpAny_onRaise (wpAny_holding (mergeMap_ok (Ne.symm nap) ma dp da (by rw [sizeLine_eq, List.length_nil]; omega) fun h2 d2 s2 => ?_)))))
  rw [stored_nodup ndv] at d2
  have kz : kvs.length ≤ sizeLine := by rw [sizeLine_eq]; omega
  have J2 : Inv X pins σ (upd H1 s.heap.objs.size (.dK kvs)) { s1 with heap := h2, toks := s1.toks } :=
    d_write J1 (by rw [ep]; exact True.intro) s2 (let ⟨q, _, _, hq, _⟩ := d2; ⟨q, hq⟩) (dk_new kz mp ra d2)
  have hq2 : H1 h2.objs.size = none := by
    have f2 := J2.hok.fresh (Nat.le_refl h2.objs.size)
    have ne : h2.objs.size ≠ s.heap.objs.size := fun z => by
      rw [z, upd_same] at f2
      cases f2
    rw [upd_ne ne] at f2
    exact f2
  have J3 := J2.laid (a := h2.objs.size) (o := .dK []) (h' := h2.push { cls := .type "dict", data := .dict #[] }) (t' := s1.toks) (fun _ _ q => Heap.get?_push_of_some _ q) (Nat.le_refl _) (dk_empty h2 J2.big)
  refine wpAny_bind (wpAny_holding (wpAny_subDict (knd := mixKind X.prog X.w) (show 1 ≤ 15 by decide) ?_))
  unfold evalPairs
  refine wpAny_bind (thn (hk.run pins _ σ _ _ J3 (hq _ hq2)) fun kv s4 hh => ?_)
  obtain ⟨y, H4, J4, ry, hv4⟩ := hh
  refine wpAny_bind (wpAny_holding (wpAny_bind (thn (hv.run pins s4 σ H4 _ J4 hv4) fun vv s5 hh => ?_)))
  obtain ⟨z, H5, J5, rz, ky, ey, e5p, e5q, fin⟩ := hh
  subst ey
  refine wpAny_bind (wpAny_standAt (wpAny_pure (wpAny_bind ?_)))
  unfold evalPairs
  refine wpAny_holding (wpAny_pure (wpAny_pure ?_))
  obtain ⟨_, mq, vq, rq, dq⟩ := dk_of J5.hok e5q
  cases rq
  refine ⟨[(ky, vv)], ⟨kV_is ry, rfl, trivial⟩, dq, fun h6 d6 s6 => ?_⟩
  have d6' : h6.DictOf (mixKind X.prog X.w) h2.objs.size [(ky, vv)] := d6
  have J6 : Inv X pins σ (upd H5 h2.objs.size (.dK [(ky, z)])) { s5 with heap := h6, toks := s5.toks + 1 } :=
    d_write J5 (by rw [e5q]; exact True.intro) s6 (let ⟨q, _, _, hq, _⟩ := d6; ⟨q, hq⟩) (dk_new (by show 1 ≤ sizeLine; decide) mq (Paired.cons ⟨rfl, rz⟩ Paired.nil) d6')
  have npq : s.heap.objs.size ≠ h2.objs.size := fun z => by
    rw [z] at e5p
    have q := e5p.symm.trans e5q
    have f2 := J2.hok.fresh (Nat.le_refl h2.objs.size)
    rw [z, upd_same] at f2
    cases f2
  have e6p : upd H5 h2.objs.size (.dK [(ky, z)]) s.heap.objs.size = some (.dK kvs) := by rw [upd_ne npq]; exact e5p
  obtain ⟨_, mp6, v6, r6, d6p⟩ := dk_of J6.hok e6p
  refine wpAny_bind (wpAny_onRaise (wpAny_holding (mergeMap_ok npq mq d6p d6' (by rw [← r6.length, sizeLine_eq]; show kvs.length + 1 ≤ _; omega) fun h7 d7 s7 => ?_)))
  have pl : (putK kvs ky z).length ≤ sizeLine := by
    have := length_putK kvs ky z
    rw [sizeLine_eq]
    omega
  have J7 : Inv X pins σ (upd (upd H5 h2.objs.size (.dK [(ky, z)])) s.heap.objs.size (.dK (putK kvs ky z))) { s5 with heap := h7, toks := s5.toks + 1 } :=
    d_write (s := { s5 with heap := h6, toks := s5.toks + 1 }) (t' := s5.toks + 1) J6 (by rw [e6p]; exact True.intro) s7 (let ⟨q, _, _, hq, _⟩ := d7; ⟨q, hq⟩) (dk_new pl mp6 (kv_put r6 ky rz) d7)
  exact wpAny_pure ⟨.ref s.heap.objs.size, _, J7, rfl, fin⟩
theorem call_dictOf : CallR X (.type "dict") (fun xs H Q => ∃ (a : Addr) (kvs : List (Key × V)), xs = [.ref a] ∧ Rd H a (.dK kvs) ∧ ∀ p, H p = none → Q (.ref p) (upd H p (.dK kvs))) := by
  intro pins s σ H xs us Q I r h
  obtain ⟨a, kvs, rfl, ea, q⟩ := h
  obtain ⟨u, rfl, ru⟩ := vals1 r
  obtain rfl : u = Value.ref a := ru
  exact d_copyOf I ea fun p s' hp I' => ⟨.ref p, _, I', rfl, q p hp⟩
end

/-! ### match: texts, None, names, sequences (of tuples) -/
abbrev BS := List (Nat × V)
abbrev TPat := V → Hp → (Option BS → Hp → Prop) → Prop
abbrev TPats := List V → Hp → (Option BS → Hp → Prop) → Prop
section
variable {X : Cx}
/-- the slots and what they are to hold -/
def BindR (X : Cx) : BS → List (Str × Value) → Prop := Paired fun (a : Nat × V) (b : Str × Value) => X.N[a.1]? = some b.1 ∧ Loc X.env.scope b.1 ∧ (X.fn b.1 = true ∨ X.env.scope.names.lookup b.1 = some .local) ∧ RelV a.2 b.2
def OptR (X : Cx) : Option BS → Option (List (Str × Value)) → Prop
  | none, none => True
  | some a, some b => BindR X a b
  | _, _ => False
def MP (X : Cx) (pins : List (Addr × Obj)) (σ : L2.St) (Q : Option BS → Hp → Prop) (r : Option (List (Str × Value))) (s' : Shared) : Prop := ∃ r' H', Inv X pins σ H' s' ∧ OptR X r' r ∧ Q r' H'
structure PPat (X : Cx) (p : Pattern) (t : TPat) : Prop where
  run : ∀ (pins : List (Addr × Obj)) (s : Shared) (σ : L2.St) (H : Hp) (x : V) (u : Value) (Q : Option BS → Hp → Prop), Inv X pins σ H s → RelV x u → t x H Q → wpAny (model X.prog X.w) X.A (matchPattern p X.env u) (MP X pins σ Q) X.xe s
structure PPats (X : Cx) (ps : List Pattern) (t : TPats) : Prop where
  run : ∀ (pins : List (Addr × Obj)) (s : Shared) (σ : L2.St) (H : Hp) (xs : List V) (us : List Value) (Q : Option BS → Hp → Prop), Inv X pins σ H s → Vals xs us → t xs H Q → wpAny (model X.prog X.w) X.A (matchEach ps X.env us) (MP X pins σ Q) X.xe s
/-- a written text -/
def mStr (z : Str) : TPat := fun x H Q => scal x (.str z) = true ∧ Q (if x = .str z then some [] else none) H
theorem pm_str {z : Str} {j : Nat} {p pos : Pos} : PPat X (.MatchValue (.Constant (.str z) j p) pos) (mStr z) := by
  refine ⟨fun pins s σ H x u Q I rx h => ?_⟩
  obtain ⟨hs, q⟩ := h
  refine wpAny_matchPattern_Value (Calls.Constant_str ?_)
  refine wpAny_mono (op_eq pins _ σ H x (.str z) u _ (fun v H' => v = .bl (decide (x = .str z)) ∧ H' = H) (I.tok _) rx ⟨_, rfl⟩ ⟨hs, rfl, rfl⟩) (fun c s2 hc => ?_) fun _ _ z => z
  obtain ⟨v, H', I2, r2, rfl, rfl⟩ := hc
  cases r2
  refine wpAny_truthy_bool ?_
  by_cases e : x = .str z
  · rw [if_pos e] at q
    rw [decide_eq_true e, if_pos rfl]
    exact ⟨some [], H', I2, .nil, q⟩
  · rw [if_neg e] at q
    rw [decide_eq_false e, if_neg (by decide)]
    exact ⟨none, H', I2, trivial, q⟩
def mNon : TPat := fun x H Q => Q (if x = .non then some [] else none) H
theorem pm_non {pos : Pos} : PPat X (.MatchSingleton .none pos) mNon := by
  refine ⟨fun pins s σ H x u Q I rx h => ?_⟩
  show wpAny _ _ (pure (match Const.none, u with | .none, .none => some [] | .bool a, .bool b => if a == b then some [] else none | _, _ => none)) _ _ _
  refine wpAny_pure ?_
  have h : Q (if x = .non then some [] else none) H := h
  cases x with
  | non =>
    cases rx
    rw [if_pos rfl] at h
    exact ⟨some [], H, I, .nil, h⟩
  | _ =>
    rw [if_neg (by intro z; cases z)] at h
    refine ⟨none, H, I, ?_, h⟩
    first
      | (cases rx; trivial)
      | (obtain ⟨_, rfl⟩ := rx; trivial)
/-- a name, in slot i -/
def mAs (i : Nat) : TPat := fun x H Q => Q (some [(i, x)]) H
theorem pm_as {i : Nat} {n : Str} {pos : Pos} (hi : X.N[i]? = some n) (hl : Loc X.env.scope n) (hf : X.fn n = true ∨ X.env.scope.names.lookup n = some .local := by first | exact .inl rfl | exact .inr rfl) : PPat X (.MatchAs none (some n) pos) (mAs i) := by
  refine ⟨fun pins s σ H x u Q I rx h => wpAny_matchPattern_Capture ?_⟩
  exact ⟨some [(i, x)], H, I, .cons ⟨hi, hl, hf, rx⟩ .nil, h⟩
def mWild : TPat := fun _ H Q => Q (some []) H
theorem pm_wild {pos : Pos} : PPat X (.MatchAs none none pos) mWild := ⟨fun pins s σ H x u Q I rx h => wpAny_matchPattern_Capture ⟨some [], H, I, .nil, h⟩⟩
def mNil : TPats := fun _ H Q => Q (some []) H
def mCons (t : TPat) (ts : TPats) : TPats := fun xs H Q => ∃ x r, xs = x :: r ∧ t x H fun b H1 => match b with
  | none => Q none H1
  | some bs => ts r H1 fun b2 H2 => match b2 with
    | none => Q none H2
    | some more => Q (some (bs ++ more)) H2
theorem pms_nil : PPats X [] mNil := ⟨fun pins s σ H xs us Q I r h => wpAny_matchEach_nil ⟨some [], H, I, .nil, h⟩⟩
theorem bindR_app {a b : BS} {c d : List (Str × Value)} (h : BindR X a c) (k : BindR X b d) : BindR X (a ++ b) (c ++ d) := by
  induction h with
  | nil => exact k
  | cons r _ ih => exact .cons r ih
theorem pms_cons {p : Pattern} {ps : List Pattern} {t : TPat} {ts : TPats} (h1 : PPat X p t) (h2 : PPats X ps ts) (hs : p.isStar = false := by rfl) : PPats X (p :: ps) (mCons t ts) := by
  refine ⟨fun pins s σ H xs us Q I r h => ?_⟩
  obtain ⟨x, xr, rfl, h⟩ := h
  cases r with
  | cons rx rr =>
    refine wpAny_matchEach_cons (wpAny_mono (h1.run pins s σ H x _ _ I rx h) (fun b s1 q => ?_) fun _ _ z => z) hs
    obtain ⟨b', H1, I1, rb, q⟩ := q
    cases b' with
    | none =>
      cases b with
      | none => exact ⟨none, H1, I1, trivial, q⟩
      | some _ => exact False.elim rb
    | some bs =>
      cases b with
      | none => exact False.elim rb
      | some bv =>
        refine wpAny_mono (h2.run pins s1 σ H1 xr _ _ I1 rr q) (fun b2 s2 q2 => ?_) fun _ _ z => z
        obtain ⟨c', H2, I2, rc, q2⟩ := q2
        cases c' with
        | none =>
          cases b2 with
          | none => exact ⟨none, H2, I2, trivial, q2⟩
          | some _ => exact False.elim rc
        | some cs =>
          cases b2 with
          | none => exact False.elim rc
          | some cv => exact ⟨some (bs ++ cs), H2, I2, bindR_app rb rc, q2⟩
/-- a sequence of n patterns, of a tuple -/
def mSeq (K : PySem.W.Frag) (n : Nat) (ts : TPats) : TPat := fun x H Q => ∃ a xs, x = .ref a ∧ SqT K H a xs ∧ if xs.length = n then ts xs H Q else Q none H
theorem pm_seq {ps : List Pattern} {ts : TPats} {n : Nat} {pos : Pos} (hc : X.calm = true) (h : PPats X ps ts) (hn : ps.length = n := by rfl) (hstar : ps.findIdx? (·.isStar) = none := by rfl) (hwild : (ps.all fun p => p.isWildcard || (p.isStar && p.names.isEmpty)) = false := by rfl) : PPat X (.MatchSequence ps pos) (mSeq X.K n ts) := by
  refine ⟨fun pins s σ H x u Q I rx h' => ?_⟩
  obtain ⟨a, xs, rfl, hq, h'⟩ := h'
  obtain rfl : u = Value.ref a := rx
  obtain ⟨its, rv, ht, hz⟩ := I.tuple hq
  have lx : its.toArray.size = xs.length := by simpa using rv.length.symm
  have fit : ((its.toArray.size : Nat) : Int) < 2 ^ 63 := by
    have e : (2 : Int) ^ 63 = 9223372036854775808 := by decide
    have : sizeLine < 1000000000 := by decide
    rw [e]
    omega
  by_cases hl : xs.length = n
  · rw [if_pos hl] at h'
    refine PyProof.Rows.matchSeq_tuple_hit ht fit (by omega) ?_ hstar hwild
    have e : ps.length = its.toArray.size := by omega
    rw [e]
    refine PyProof.Rows.unpackItems_tuple (s := { s with toks := s.toks + 1 + 1 }) (I.ok.hd hc) ht fun h2 he => ?_
    have I2 : Inv X pins σ H { s with heap := h2, toks := s.toks + 1 + 1 } := I.kept (t' := s.toks + 1 + 1) fun b o q => he b o (Nat.ne_of_lt (Heap.lt_size q)) q
    exact h.run pins _ σ H xs _ Q I2 (by simpa using rv) h'
  · rw [if_neg hl] at h'
    exact PyProof.Rows.matchSeq_tuple_miss ht fit (by omega) ⟨none, H, I.tok _, trivial, h'⟩ hstar hwild
/-! the cases -/
def setAll (σ : L2.St) : BS → L2.St
  | [] => σ
  | (i, v) :: r => setAll (σ.set i (some v)) r
abbrev TCs := V → TS
structure PCs (X : Cx) (cs : List MatchCase) (t : TCs) : Prop where
  run : ∀ (pins : List (Addr × Obj)) (s : Shared) (σ : L2.St) (H : Hp) (x : V) (u : Value) (b : Bool) (D : Ends), Inv X pins σ H s → RelV x u → t x D σ H → wpAny (model X.prog X.w) X.A (matchCases cs X.env u b) (SP X pins D) X.xe s
theorem bind_all (hN : X.N.Nodup) {pins : List (Addr × Obj)} {H : Hp} {bs : BS} {vs : List (Str × Value)} (r : BindR X bs vs) : ∀ {σ : L2.St} {s : Shared} {Q : Unit → Shared → Prop}, Inv X pins σ H s → (∀ s', Inv X pins (setAll σ bs) H s' → Q () s') → wpAny (model X.prog X.w) X.A (assignInOrder (vs.map fun (n, _) => bindName X.env n) (vs.map (·.2))) Q X.xe s := by
  unfold BindR at r
  induction r with
  | nil => intro σ s Q I h; exact wpAny_assignInOrder_none (h s I)
  | cons r rr ih =>
    rename_i a b bs vs
    intro σ s Q I h
    obtain ⟨i, v⟩ := a
    obtain ⟨n, u⟩ := b
    obtain ⟨r1, r2, r3, r4⟩ := r
    exact wpAny_assignInOrder_more (wpAny_bindName (store_ok I hN r1 r2 r4 (fun s' I' => ih I' h) r3))
def tCs0 : TCs := fun _ D σ H => D.nx σ H
theorem pcs_nil : PCs X [] tCs0 := ⟨fun pins s σ H x u b D I r h => wpAny_matchCases_nil ⟨σ, H, I, h⟩⟩
def tCsC (tp : TPat) (tb : TS) (tr : TCs) : TCs := fun x D σ H => tp x H fun r H1 => match r with
  | none => tr x D σ H1
  | some bs => tb D (setAll σ bs) H1
theorem pcs_cons {p : Pattern} {body : List Stmt} {rest : List MatchCase} {tp : TPat} {tb : TS} {tr : TCs} (hN : X.N.Nodup) (hp : PPat X p tp) (hb : PSs X body tb) (hr : PCs X rest tr) : PCs X (⟨p, none, body⟩ :: rest) (tCsC tp tb tr) := by
  refine ⟨fun pins s σ H x u b D I r h => ?_⟩
  refine wpAny_matchCases_cons (wpAny_mono (hp.run pins s σ H x u _ I r h) (fun c s1 q => ?_) fun _ _ z => z)
  obtain ⟨c', H1, I1, rc, q⟩ := q
  cases c' with
  | none =>
    cases c with
    | none => exact hr.run pins s1 σ H1 x u false D I1 r q
    | some _ => exact False.elim rc
  | some bs =>
    cases c with
    | none => exact False.elim rc
    | some vs => exact bind_all hN rc I1 fun s2 I2 => hb.run pins s2 _ H1 D I2 q
def tMatch (te : TE) (tc : TCs) : TS := fun D σ H => te σ H fun x H1 => tc x D σ H1
theorem ps_match {e : Expr} {cs : List MatchCase} {te : TE} {tc : TCs} {pos : Pos} (he : PE X e te) (hc : PCs X cs tc) : PS X (.Match e cs pos) (tMatch te tc) := by
  refine ⟨fun pins s σ H D I h => ?_⟩
  exact wpAny_Match (thn (he.run pins s σ H _ I h) fun u s1 ⟨x, H1, I1, rx, q⟩ => hc.run pins s1 σ H1 x u true D I1 rx q)
end

/-! ### the pool: _law_pool, _law_mixed, _law_draw -/
abbrev sMixed : Stmt := topS 66
abbrev NMixed : List Str := ["_law_number", "_law_count", "_law_many"]
abbrev PMixed : List Str := ["_law_number", "_law_count", "_law_many"]
theorem scMixed : FnScope NMixed PMixed (defScope sMixed) := ⟨rfl, rfl, rfl, by decide +kernel, rfl, by decide +kernel, by decide +kernel⟩
abbrev sDraw : Stmt := topS 67
abbrev NDraw : List Str := ["_law_pool_here", "_law_many", "_law_at", "_law_cells", "_law_cell"]
abbrev PDraw : List Str := ["_law_pool_here", "_law_many"]
theorem scDraw : FnScope NDraw PDraw (defScope sDraw) := ⟨rfl, rfl, rfl, by decide +kernel, rfl, by decide +kernel, by decide +kernel⟩
abbrev sPool : Stmt := topS 65
abbrev NPool : List Str := ["_law_script", "_law_cells", "_law_cell", "_law_seed"]
abbrev PPool : List Str := ["_law_script"]
theorem scPool : FnScope NPool PPool (defScope sPool) := ⟨rfl, rfl, rfl, by decide +kernel, rfl, by decide +kernel, by decide +kernel⟩
/-- the pool at p, its cells at c; lim is its last item; at most n draws so far -/
def PoolAt (H : Hp) (p c : Addr) (lim : V) (n : Nat) : Prop :=
  ∃ (i : Nat) (cells : List Int) (cnt seed mode : Int), H p = some (.lst [.ref c, .int (i : Int), .int cnt, .int seed, .int mode, lim]) ∧ H c = some (.lst (cells.map V.int)) ∧
    i ≤ cells.length ∧ 0 ≤ cnt ∧ cnt ≤ (n : Int) ∧ 0 ≤ seed ∧ seed < 2147483647
def spMixed : Sp := fun vs H Q _ => ∃ (n c m : Int), vs = [.int n, .int c, .int m] ∧ 0 ≤ n ∧ n < 2147483647 ∧ 0 ≤ c ∧ c ≤ 1000000000000 ∧ 0 < m ∧ ∀ r : Int, 0 ≤ r → r < m → Q (.int r) H
def spDraw : Sp := fun vs H Q _ => ∃ (p c : Addr) (lim : V) (n : Nat) (m : Int), vs = [.ref p, .int m] ∧ PoolAt H p c lim n ∧ n < 1000000000000 ∧ 0 < m ∧ m ≤ 1000000000000000000 ∧
  ∀ (r : Int) (H' : Hp), 0 ≤ r → r < m → PoolAt H' p c lim (n + 1) → But p c H H' → Q (.int r) H'
def spPool (K : PySem.W.Frag) : Sp := fun vs H Q _ => ∃ (a : Addr) (ns : List Int), vs = [.ref a] ∧ SqL K H a (ns.map V.int) ∧ ns.length ≤ 63 ∧
  ∀ (p c : Addr) (H' : Hp), Same H H' → H p = none → H c = none → PoolAt H' p c (.int 30) 0 → Q (.ref p) H'
structure TxPool (mg : Str → Option Value) : Prop where
  n_int : mg "int" = none
  n_len : mg "len" = none
theorem pool_ne {H : Hp} {p c : Addr} {xs : List V} {cells : List Int} (hp : H p = some (.lst (.ref c :: xs))) (hc : H c = some (.lst (cells.map V.int))) : p ≠ c := ne_of hp hc (by
  intro z
  injection z with z
  cases cells with
  | nil => cases z
  | cons a r => injection z with z _; cases z)
theorem pow_lt {n c : Int} (h1 : 0 ≤ n) (h2 : n < 2147483647) (h3 : 0 ≤ c) (h4 : c ≤ 1000000000000) : (n + 7919 * c).natAbs < 2 ^ 64 := by
  have : (2 : Nat) ^ 64 = 18446744073709551616 := by decide
  omega
theorem m63 {m : Int} (h0 : 0 < m) (h1 : m ≤ 1000000000000000000) : m.natAbs < 2 ^ 63 := by
  have : (2 : Nat) ^ 63 = 9223372036854775808 := by decide
  omega
theorem set_ints (cells : List Int) (j : Nat) (z : Int) : (cells.map V.int).set j (V.int z) = (cells.set j z).map V.int := by
  rw [List.map_set]
theorem same_new {H : Hp} {p : Addr} {o : HO} (h : H p = none) : Same H (upd H p o) := fun b x e => by
  rw [upd_ne (ne_of_none e h)]
  exact e
theorem atI_in {α : Type} {xs : List α} {i : Int} (h0 : 0 ≤ i) (h1 : i < xs.length) : ∃ v, atI xs i = some v ∧ v ∈ xs := by
  have h : i.toNat < xs.length := by omega
  refine ⟨xs[i.toNat], ?_, List.getElem_mem h⟩
  have e : i = ((i.toNat : Nat) : Int) := by omega
  have q := atI_nat (xs := xs) (j := i.toNat) (v := xs[i.toNat]) (by simp [h])
  rw [← e] at q
  exact q
theorem PoolAt.same {H H' : Hp} {p c : Addr} {lim : V} {n : Nat} (h : PoolAt H p c lim n) (s : Same H H') : PoolAt H' p c lim n := by
  obtain ⟨i, cs, cn, sd, md, e1, e2, e⟩ := h
  exact ⟨i, cs, cn, sd, md, s _ _ e1, s _ _ e2, e⟩
theorem PoolAt.ne1 {H : Hp} {p c q : Addr} {lim : V} {n : Nat} (h : PoolAt H p c lim n) (hq : H q = none) : q ≠ p := fun z => by
  obtain ⟨_, _, _, _, _, e, _⟩ := h
  rw [z, e] at hq
  cases hq
theorem PoolAt.ne2 {H : Hp} {p c q : Addr} {lim : V} {n : Nat} (h : PoolAt H p c lim n) (hq : H q = none) : q ≠ c := fun z => by
  obtain ⟨_, _, _, _, _, _, e, _⟩ := h
  rw [z, e] at hq
  cases hq
theorem str_app_len (a b : Str) : (a ++ b : Str).length = a.length + b.length := by
  show (a.cps ++ b.cps).size = a.cps.size + b.cps.size
  exact Array.size_append
theorem PoolAt.mono {H : Hp} {p c : Addr} {lim : V} {n m : Nat} (h : PoolAt H p c lim n) (hm : n ≤ m) : PoolAt H p c lim m := by
  obtain ⟨i, cs, cn, sd, md, e1, e2, e3, e4, e5, e⟩ := h
  exact ⟨i, cs, cn, sd, md, e1, e2, e3, e4, by omega, e⟩
theorem PoolAt.upd {H : Hp} {p c q : Addr} {lim : V} {n : Nat} {o : HO} (h : PoolAt H p c lim n) (h1 : q ≠ p) (h2 : q ≠ c) : PoolAt (upd H q o) p c lim n := by
  obtain ⟨i, cs, cn, sd, md, e1, e2, e⟩ := h
  exact ⟨i, cs, cn, sd, md, by rw [upd_ne h1.symm]; exact e1, by rw [upd_ne h2.symm]; exact e2, e⟩
section
variable {P : Program} {w : World} {K : PySem.W.Frag} {mg : Str → Option Value} {base : Heap}
theorem ok_Mixed {f : Addr} {fd : FuncData} (F : Fun K "_law_mixed" "_law_mixed" sMixed f fd) (T : TxPool mg) : FnOk P w K mg base CX0 1 f fd PMixed spMixed := by
  refine F.ok scMixed (fun vs H Q E h => ?_) (fun cdv A outer s H vs Q E hr h => ?_)
  · obtain ⟨n, c, m, rfl, _⟩ := h
    rfl
  · obtain ⟨n, c, m, rfl, n0, n1, c0, c1, m0, k⟩ := h
    refine ⟨_, (pss_one (ps_ret (pe_op op_mod (pe_op op_fdiv (pe_callTy call_int1 (by rfl) T.n_int bb_int (pa_cons (pe_op op_mod (pe_op op_pow (pe_callTy call_int1 (by rfl) T.n_int bb_int (pa_cons (pe_op op_add (pv 0) (pe_op op_mul pe_int (pv 1))) pa_nil)) pe_int) pe_int) pa_nil)) pe_int) (pv 2)))), ?_⟩
    refine ⟨_, rfl, _, rfl, _, _, rfl, rfl, .inl ⟨by decide, by decide⟩, _, _, rfl, rfl, .inl ⟨_, rfl, ?_⟩⟩
    refine ⟨_, _, rfl, rfl, ⟨by decide, by decide, pow_lt n0 n1 c0 c1⟩, _, _, rfl, rfl, (show (0 : Int) < 2147483647 by decide), .inl ⟨_, rfl, ?_⟩⟩
    refine ⟨_, _, rfl, rfl, ⟨by decide, by decide⟩, _, rfl, _, _, rfl, rfl, m0, ?_⟩
    exact k _ (Int.emod_nonneg _ (by omega)) (Int.emod_lt_of_pos _ m0)
theorem ok_Draw {f : Addr} {fd : FuncData} (F : Fun K "_law_draw" "_law_draw" sDraw f fd) (T : TxPool mg) (GM : Has P w K mg base CX0 1 "_law_mixed" PMixed spMixed) :
    FnOk P w K mg base CX0 2 f fd PDraw spDraw := by
  refine F.ok scDraw (fun vs H Q E h => ?_) (fun cdv A outer s H vs Q E hr h => ?_)
  · obtain ⟨p, c, lim, n, m, rfl, _⟩ := h
    rfl
  · obtain ⟨p, c, lim, n, m, rfl, ⟨i, cells, cnt, seed, mode, hp, hc, hi, c0, c1, s0, s1⟩, hn, m0, m1, k⟩ := h
    have npc : p ≠ c := pool_ne hp hc
    refine ⟨_, (pss_cons (ps_asg (pe_op op_add (pe_ix (r := rIxL K) ix_list (pv 0) pe_int (fun _ _ => rfl)) pe_int) (pg_sub (pv 0) pe_int set_list))
  (pss_cons (ps_if (pt_cmpR op_ge (pe_ix (r := rIxL K) ix_list (pv 0) pe_int (fun _ _ => rfl)) (pe_callB call_len_seq (by rfl) T.n_len bb_len (pa_cons (pe_ix (r := rIxL K) ix_list (pv 0) pe_int (fun _ _ => rfl)) pa_nil)) (nomark _))
  (pss_one (ps_ret (pe_callH GM hr rfl pass0 (pa_cons (pe_ix (r := rIxL K) ix_list (pv 0) pe_int (fun _ _ => rfl)) (pa_cons (pe_ix (r := rIxL K) ix_list (pv 0) pe_int (fun _ _ => rfl)) (pa_cons (pv 1) pa_nil))))))
  pss_nil)
  (pss_cons (ps_set (i := 2) scDraw.nd rfl (Or.inl rfl) (pe_ix (r := rIxL K) ix_list (pv 0) pe_int (fun _ _ => rfl)))
  (pss_cons (ps_set (i := 3) scDraw.nd rfl (Or.inl rfl) (pe_ix (r := rIxL K) ix_list (pv 0) pe_int (fun _ _ => rfl)))
  (pss_cons (ps_set (i := 4) scDraw.nd rfl (Or.inl rfl) (pe_ix (r := rIxL K) ix_list (pv 3) (pv 2) (fun _ _ => rfl)))
  (pss_cons (ps_if (PW.pt (pw_and (pt_cmpR op_ne (pe_ix (r := rIxL K) ix_list (pv 0) pe_int (fun _ _ => rfl)) pe_int (nomark _)) (pw_and1 (pt_cmpR op_lt (pv 4) (pe_op op_pow pe_int pe_int) (nomark _)))))
  (pss_cons (ps_asg (pe_op op_add (pe_ix (r := rIxL K) ix_list (pv 0) pe_int (fun _ _ => rfl)) pe_int) (pg_sub (pv 0) pe_int set_list))
  (pss_cons (ps_if (pt_cmpR op_eq (pe_ix (r := rIxL K) ix_list (pv 0) pe_int (fun _ _ => rfl)) pe_int (nomark _))
  (pss_cons (ps_asg (pe_op op_add (pv 2) pe_int) (pg_sub (pv 0) pe_int set_list))
  (pss_one (ps_asg pe_int (pg_sub (pv 0) pe_int set_list))))
  pss_nil)
  (pss_one (ps_ret (pe_callH GM hr rfl pass0 (pa_cons (pe_op op_mod (pe_callTy call_int1 (by rfl) T.n_int bb_int (pa_cons (pv 4) pa_nil)) pe_int) (pa_cons (pe_ix (r := rIxL K) ix_list (pv 0) pe_int (fun _ _ => rfl)) (pa_cons (pv 1) pa_nil))))))))
  pss_nil)
  (pss_cons (ps_asg pe_int (pg_sub (pv 0) pe_int set_list))
  (pss_cons (ps_asg (pe_op op_fdivW (pe_callTy call_int1 (by rfl) T.n_int bb_int (pa_cons (pv 4) pa_nil)) (pv 1)) (pg_sub (pv 3) (pv 2) set_list))
  (pss_cons (ps_if (pt_cmpR op_eq (pe_ix (r := rIxL K) ix_list (pv 3) (pv 2) (fun _ _ => rfl)) pe_int (nomark _))
  (pss_cons (ps_asg (pe_op op_add (pv 2) pe_int) (pg_sub (pv 0) pe_int set_list))
  (pss_one (ps_asg pe_int (pg_sub (pv 0) pe_int set_list))))
  pss_nil)
  (pss_one (ps_ret (pe_op op_mod (pe_callTy call_int1 (by rfl) T.n_int bb_int (pa_cons (pv 4) pa_nil)) (pv 1))))))))))))), ?_⟩
    -- pool[2] = pool[2] + 1
    refine ⟨_, rfl, p, _, _, _, rfl, rfl, SqL.of hp, rfl, _, _, rfl, rfl, _, rfl, p, _, _, _, rfl, rfl, hp, rfl, ?_⟩
    have st : ∀ (i' : Nat) (md : Int) (cs : List Int), i' ≤ cs.length → ∀ H' : Hp, H' p = some (.lst [.ref c, .int (i' : Int), .int (cnt + 1), .int seed, .int md, lim]) → H' c = some (.lst (cs.map V.int)) → PoolAt H' p c lim (n + 1) :=
      fun i' md cs hl H' a b => ⟨i', cs, cnt + 1, seed, md, a, b, hl, by omega, by omega, s0, s1⟩
    have ac : ∀ {H' : Hp} {o : HO} {x : HO}, H' c = some x → upd H' p o c = some x := fun e => by rw [upd_ne npc.symm]; exact e
    have ap : ∀ {H' : Hp} {o : HO} {x : HO}, H' p = some x → upd H' c o p = some x := fun e => by rw [upd_ne npc]; exact e
    have kq : ∀ {H' : Hp} {o : HO}, But p c H H' → But p c H (upd H' p o) := fun b x o e hb hx => by rw [upd_ne hb]; exact b x o e hb hx
    have kc : ∀ {H' : Hp} {o : HO}, But p c H H' → But p c H (upd H' c o) := fun b x o e hb hx => by rw [upd_ne hx]; exact b x o e hb hx
    -- if pool[1] >= len(pool[0])
    refine ⟨_, rfl, p, _, _, _, rfl, rfl, SqL.of upd_same, rfl, _, rfl, p, _, _, _, rfl, rfl, SqL.of upd_same, rfl, c, _, rfl, .inl (SqL.of (ac hc)), _, _, rfl, rfl, _, rfl, ?_⟩
    refine ite2 (fun hge => ?_) (fun hlt => ?_)
    · refine ⟨_, rfl, p, _, _, _, rfl, rfl, SqL.of upd_same, rfl, _, rfl, p, _, _, _, rfl, rfl, SqL.of upd_same, rfl, _, rfl, seed, cnt + 1, m, rfl, s0, s1, by omega, by omega, m0, fun r r0 r1 => ?_⟩
      exact k r _ r0 r1 (st i mode cells hi _ upd_same (ac hc)) (kq But.refl)
    · have hil : i < cells.length := by
        have z : ¬ ((cells.map V.int).length : Int) ≤ (i : Int) := fun z => hlt (decide_eq_true z)
        rw [List.length_map] at z
        omega
      obtain ⟨cell, hcell⟩ : ∃ z, cells[i]? = some z := ⟨cells[i], by simp [hil]⟩
      have hcV : (cells.map V.int)[i]? = some (V.int cell) := by rw [List.getElem?_map, hcell]; rfl
      -- at, cells, cell
      refine ⟨_, rfl, p, _, _, _, rfl, rfl, SqL.of upd_same, rfl, ?_⟩
      refine ⟨_, rfl, p, _, _, _, rfl, rfl, SqL.of upd_same, rfl, ?_⟩
      refine ⟨_, rfl, _, rfl, c, _, _, _, rfl, rfl, SqL.of (ac hc), atI_nat hcV, ?_⟩
      -- if pool[4] != 2 and cell < 10 ** 18
      refine ⟨_, rfl, p, _, _, _, rfl, rfl, SqL.of upd_same, rfl, rfl, _, rfl, ?_⟩
      refine ite2 (fun h2 => ?gA) (fun h2 => iteF ?gB)
      case' gA => refine ⟨_, rfl, _, _, rfl, rfl, ⟨by decide, by decide, by decide⟩, _, _, rfl, rfl, _, rfl, ite2 (fun h3 => ?gD) (fun h3 => ?gC)⟩
      case gD =>
        refine ⟨_, rfl, p, _, _, _, rfl, rfl, SqL.of upd_same, rfl, _, _, rfl, rfl, _, rfl, p, _, _, _, rfl, rfl, upd_same, rfl, ?_⟩
        refine ⟨_, rfl, p, _, _, _, rfl, rfl, SqL.of upd_same, rfl, rfl, _, rfl, ite2 (fun h4 => ?_) (fun h4 => ?_)⟩
        · refine ⟨_, rfl, _, _, rfl, rfl, _, rfl, p, _, _, _, rfl, rfl, upd_same, rfl, ?_⟩
          refine ⟨_, rfl, p, _, _, _, rfl, rfl, upd_same, rfl, ?_⟩
          refine ⟨_, rfl, .inl ⟨_, rfl, _, _, rfl, rfl, (show (0 : Int) < 2147483647 by decide), _, rfl, p, _, _, _, rfl, rfl, SqL.of upd_same, rfl, _, rfl, _, cnt + 1, m, rfl, Int.emod_nonneg _ (by decide), Int.emod_lt_of_pos _ (by decide), by omega, by omega, m0, fun r r0 r1 => ?_⟩⟩
          exact k r _ r0 r1 (st (i + 1) 0 cells (by omega) _ upd_same (ac (ac (ac (ac hc))))) (kq (kq (kq (kq But.refl))))
        · refine ⟨_, rfl, .inl ⟨_, rfl, _, _, rfl, rfl, (show (0 : Int) < 2147483647 by decide), _, rfl, p, _, _, _, rfl, rfl, SqL.of upd_same, rfl, _, rfl, _, cnt + 1, m, rfl, Int.emod_nonneg _ (by decide), Int.emod_lt_of_pos _ (by decide), by omega, by omega, m0, fun r r0 r1 => ?_⟩⟩
          exact k r _ r0 r1 (st i (mode + 1) cells (by omega) _ upd_same (ac (ac hc))) (kq (kq But.refl))
      all_goals
        -- pool[4] = 2; cells[at] = int(cell) // many
        refine ⟨_, rfl, p, _, _, _, rfl, rfl, upd_same, rfl, ?_⟩
        have hix : ixN (cells.map V.int).length (i : Int) = some i := by
          unfold ixN
          rw [List.length_map, if_pos (by omega), if_pos (by omega), Int.toNat_natCast]
        refine ⟨_, rfl, .inl ⟨_, rfl, _, rfl, _, _, rfl, rfl, wide_div m0 (m63 m0 m1) (by decide) (by decide), _, rfl, _, rfl, c, _, _, i, rfl, rfl, ac (ac hc), hix, ?_⟩⟩
        rw [set_ints]
        have hcW : ((cells.set i (cell / m)).map V.int)[i]? = some (V.int (cell / m)) := by
          rw [List.getElem?_map, List.getElem?_set_self hil]; rfl
        have hlen : (cells.set i (cell / m)).length = cells.length := List.length_set
        refine ⟨_, rfl, _, rfl, c, _, _, _, rfl, rfl, SqL.of upd_same, atI_nat hcW, rfl, _, rfl, ite2 (fun h4 => ?_) (fun h4 => ?_)⟩
        · refine ⟨_, rfl, _, _, rfl, rfl, _, rfl, p, _, _, _, rfl, rfl, ap upd_same, rfl, ?_⟩
          refine ⟨_, rfl, p, _, _, _, rfl, rfl, upd_same, rfl, ?_⟩
          refine ⟨_, rfl, .inl ⟨_, rfl, _, rfl, _, _, rfl, rfl, m0, ?_⟩⟩
          exact k _ _ (Int.emod_nonneg _ (by omega)) (Int.emod_lt_of_pos _ m0) (st (i + 1) 0 _ (by omega) _ upd_same (ac (ac upd_same))) (kq (kq (kc (kq (kq But.refl)))))
        · refine ⟨_, rfl, .inl ⟨_, rfl, _, rfl, _, _, rfl, rfl, m0, ?_⟩⟩
          exact k _ _ (Int.emod_nonneg _ (by omega)) (Int.emod_lt_of_pos _ m0) (st i 2 _ (by omega) _ (ap upd_same) upd_same) (kc (kq (kq But.refl)))
/-! _law_pool -/
theorem cut63 {ns : List Int} (h : ns.length ≤ 63) : cutV (ns.map V.int) none (some 63) = ns.map V.int := by
  unfold cutV
  rw [HT.sIx_none, show HT.sIx (ns.map V.int).length (ns.map V.int).length (some 63) = min 63 (ns.map V.int).length from HT.sIx_nat _ _ 63]
  rw [List.length_map, List.drop_zero, List.take_of_length_le]
  rw [List.length_map]
  omega
theorem int_at {ns : List Int} {i : Nat} {x : V} (h : (ns.map V.int)[i]? = some x) : ∃ z, ns[i]? = some z ∧ x = V.int z := by
  rw [List.getElem?_map] at h
  cases e : ns[i]? with
  | none => rw [e] at h; cases h
  | some z => rw [e] at h; exact ⟨z, rfl, (Option.some.inj h).symm⟩
theorem take_snoc {α : Type} {l : List α} {i : Nat} {z : α} (h : l[i]? = some z) : l.take (i + 1) = l.take i ++ [z] := by
  rw [List.take_succ, h]; rfl
theorem ok_Pool {f : Addr} {fd : FuncData} (F : Fun K "_law_pool" "_law_pool" sPool f fd) (T : TxPool mg) : FnOk P w K mg base CX0 1 f fd PPool (spPool K) := by
  refine F.ok scPool (fun vs H Q E h => ?_) (fun cdv A outer s H vs Q E hr h => ?_)
  · obtain ⟨a, ns, rfl, _⟩ := h
    rfl
  · obtain ⟨a, ns, rfl, hS, hlen, k⟩ := h
    refine ⟨_, (pss_cons (ps_setLc (i := 1) (own := [("_law_cell", 2)]) (g := gName 2) (tt := tYes) rfl scPool.nd rfl rfl (sw_true rfl rfl rfl (by decide +kernel)) (pi_list (pe_slice sl_list (pv 0) po_none (po_some pe_int))) (blkOk_by (own := [("_law_cell", 2)]) (N := NPool) (sc := (defScope sPool)) (by decide +kernel)) (fun _ _ _ _ _ => (pg_name (i := 2) scPool.nd rfl (Or.inl rfl))) (fun _ _ _ _ _ => pts_nil) (fun _ _ _ _ _ => (pe_callTy call_int1 (by rfl) T.n_int bb_int (pa_cons (pv 2) pa_nil))))
  (pss_cons (ps_set (i := 3) scPool.nd rfl (Or.inl rfl) pe_int)
  (pss_cons (ps_for PassesOwn.never rfl (pi_list (pv 1)) (pg_name (i := 2) scPool.nd rfl (Or.inl rfl))
  (pss_one (ps_set (i := 3) scPool.nd rfl (Or.inl rfl) (pe_op op_mod (pe_callTy call_int1 (by rfl) T.n_int bb_int (pa_cons (pe_op op_add (pe_op op_mul (pv 3) pe_int) (pv 2)) pa_nil)) pe_int))))
  (pss_one (ps_ret (pe_lst (pa_cons (pv 1) (pa_cons pe_int (pa_cons pe_int (pa_cons (pv 3) (pa_cons pe_int (pa_cons pe_int pa_nil)))))))))))), ?_⟩
    refine ⟨_, rfl, 63, rfl, a, _, rfl, hS, fun q hq => ⟨q, rfl, ⟨_, SqL.of upd_same⟩, fun D hD => ?_⟩⟩
    rw [cut63 hlen] at *
    have nqD : q ≠ D := fun z => by rw [z, upd_same] at hD; cases hD
    have hD0 : H D = none := by rw [← hD, upd_ne (Ne.symm nqD)]
    refine lc_list (K := K) (a := q) (xs := ns.map V.int) (fun i H' => Same H H' ∧ H' q = some (.lst (ns.map V.int)) ∧ H' D = some (.lst ((ns.take i).map V.int))) ?_ ?_ ?_ ?_
    · exact ⟨fun b o e => by rw [upd_ne (ne_of_none e hD0), upd_ne (ne_of_none e hq)]; exact e, by rw [upd_ne nqD, upd_same], upd_same⟩
    · exact fun i H' _ h' => SqL.of h'.2.1
    · rintro i x H' hx ⟨s1, q1, d1⟩
      obtain ⟨z, hz, rfl⟩ := int_at hx
      refine ⟨rfl, _, rfl, .inl ⟨_, rfl, _, d1, ?_, ?_⟩⟩
      · exact small1000 (by rw [List.length_map, List.length_take]; omega)
      · refine ⟨fun b o e => by rw [upd_ne (ne_of_none e hD0)]; exact s1 b o e, by rw [upd_ne nqD]; exact q1, ?_⟩
        rw [upd_same, take_snoc hz, List.map_append]
        rfl
    · rintro H1 ⟨s1, q1, d1⟩
      rw [List.length_map, List.take_length] at d1
      -- seed = 11; the loop
      refine ⟨_, rfl, D, rfl, ⟨_, SqL.of d1⟩, for_list (K := K) (a := D) (xs := ns.map V.int) (fun i σ H' => ∃ (x : Option V) (z : Int), σ = [some (.ref a), some (.ref D), x, some (.int z)] ∧ 0 ≤ z ∧ z < 2147483647 ∧ H' = H1)
        ⟨none, 11, rfl, by decide, by decide, rfl⟩ (fun i σ H' _ ⟨_, _, _, _, _, e⟩ => by rw [e]; exact SqL.of d1) ?_ ?_⟩
      · rintro i x σ H' hx ⟨y, z, rfl, z0, z1, rfl⟩
        obtain ⟨u, hu, rfl⟩ := int_at hx
        refine ⟨_, rfl, _, _, rfl, rfl, .inr ⟨by decide, by decide⟩, _, rfl, _, _, rfl, rfl, .inl ⟨_, rfl, _, _, rfl, rfl, (show (0 : Int) < 2147483647 by decide), ?_⟩⟩
        exact ⟨_, _, rfl, Int.emod_nonneg _ (by decide), Int.emod_lt_of_pos _ (by decide), rfl⟩
      · rintro σ H' ⟨y, z, rfl, z0, z1, rfl⟩
        refine ⟨_, rfl, _, rfl, (by show 6 ≤ sizeLine; decide), fun p hp => ?_⟩
        have npD : D ≠ p := ne_of_none d1 hp
        refine k p D _ (s1.trans (same_new hp)) (s1.free hp) hD0 ⟨0, ns, 0, z, 0, upd_same, by rw [upd_ne npD]; exact d1, Nat.zero_le _, by decide, by decide, z0, z1⟩
end

/-! ### is_name -/
abbrev sIsName : Stmt := topS 30
abbrev NIsName : List Str := ["value", "char"]
abbrev PIsName : List Str := ["value"]
theorem scIsName : FnScope NIsName PIsName (defScope sIsName) := ⟨rfl, rfl, rfl, by decide +kernel, rfl, by decide +kernel, by decide +kernel⟩
def LET : Str := "abcdefghijklmnopqrstuvwxyz"
def DIG : Str := "0123456789"
def KWS : List Str := ["globals", "kinds", "keep", "def", "if", "else", "while", "risk", "raise", "try", "except", "finally", "undo", "with", "swallow", "return"]
def al (c : Nat) : Bool := decide (c ∈ LET.cps.toList) || decide (c ∈ DIG.cps.toList)
def isName (z : Str) : Bool := match z.cps.toList with
  | [] => false
  | c :: r => decide (c ∈ LET.cps.toList) && (c :: r).all al && !inV (.str z) (KWS.map V.str)
theorem isName_nil {z : Str} (h : z.cps.toList = []) : isName z = false := by unfold isName; rw [h]
theorem isName_at {z : Str} {c : Nat} (h : z.cps.toList[0]? = some c) : isName z = (decide (c ∈ LET.cps.toList) && z.cps.toList.all al && !inV (.str z) (KWS.map V.str)) := by
  unfold isName
  cases e : z.cps.toList with
  | nil => rw [e] at h; simp at h
  | cons a r => rw [e] at h; simp at h; subst h; rfl
theorem str_empty_iff {z : Str} : (V.str z = V.str ("" : Str)) ↔ z.cps.toList = [] := by
  constructor
  · intro h
    injection h with h
    subst h
    decide +kernel
  · intro h
    congr 1
    have e : z.cps = #[] := by simpa using h
    cases z with
    | mk c =>
      have e : c = #[] := e
      subst e
      decide +kernel
/-- what is asked of a value: a text not too long, or something that is no text -/
def NoStr (K : PySem.W.Frag) (H : Hp) (v : V) : Prop := ∃ t, TyX K H v t ∧ PySem.W.kitOne K t (.type "str") = some false
def spName (K : PySem.W.Frag) : Sp := fun vs H Q _ => ∃ v, vs = [v] ∧ ((∃ z : Str, v = .str z ∧ z.length ≤ 1000 ∧ Q (.bl (isName z)) H) ∨ (NoStr K H v ∧ Q (.bl false) H))
structure TxName (K : PySem.W.Frag) (mg : Str → Option Value) (kw : Addr) : Prop where
  n_isinstance : mg "isinstance" = none
  n_str : mg "str" = none
  c_LETTERS : ∃ u, mg "LETTERS" = some u ∧ RelV (.str LET) u
  c_DIGITS : ∃ u, mg "DIGITS" = some u ∧ RelV (.str DIG) u
  c_KEYWORDS : ∃ u, mg "KEYWORDS" = some u ∧ RelV (.ref kw) u
  kws : ∀ H, SqT K H kw (KWS.map V.str)
section
variable {P : Program} {w : World} {K : PySem.W.Frag} {mg : Str → Option Value} {base : Heap} {kw : Addr}
theorem ok_IsName {f : Addr} {fd : FuncData} (F : Fun K "is_name" "is_name" sIsName f fd) (T : TxName K mg kw) : FnOk P w K mg base CX0 1 f fd PIsName (spName K) := by
  refine F.ok scIsName (fun vs H Q E h => ?_) (fun cdv A outer s H vs Q E hr h => ?_)
  · obtain ⟨v, rfl, _⟩ := h
    rfl
  · obtain ⟨v, rfl, h⟩ := h
    refine ⟨_, (pss_cons (ps_if (PW.pt (pw_or (pt_not (pt_val (pe_callB call_isi (by rfl) T.n_isinstance bb_isinstance (pa_cons (pv 0) (pa_cons (pe_bltn (v := .ty "str") (by rfl) T.n_str bb_str rfl) pa_nil))))) (pw_or (pt_cmpR op_eq (pv 0) pe_str (nomark _)) (pw_or1 (pt_cmpR op_notIn_sign (pe_ix ix_str (pv 0) pe_int (fun _ _ => rfl)) (pe_globE rfl T.c_LETTERS) (by rfl))))))
  (pss_one (ps_ret pe_bl))
  pss_nil)
  (pss_cons (ps_for PassesOwn.never rfl (pi_str (pv 0)) (pg_name (i := 1) scIsName.nd rfl (Or.inl rfl))
  (pss_one (ps_if (PW.pt (pw_and (pt_cmpR op_notIn_sign (pv 1) (pe_globE rfl T.c_LETTERS) (by rfl)) (pw_and1 (pt_cmpR op_notIn_sign (pv 1) (pe_globE rfl T.c_DIGITS) (by rfl)))))
  (pss_one (ps_ret pe_bl))
  pss_nil)))
  (pss_one (ps_ret (pe_cmpR op_notIn_seq (pv 0) (pe_globE rfl T.c_KEYWORDS) (by rfl)))))), ?_⟩
    rcases h with ⟨z, rfl, hz, k⟩ | ⟨⟨t, ty, kt⟩, k⟩
    · refine ⟨_, rfl, _, _, _, _, _, rfl, .ty _, .base (.str z), kit_ty (r := true) (by decide +kernel), _, rfl, ?_⟩
      refine ⟨_, rfl, rfl, _, rfl, ite2 (fun he => ?_) (fun he => ?_)⟩
      · have e := str_empty_iff.mp (of_decide_eq_true he)
        rw [isName_nil e] at k
        exact k
      · have hne : z.cps.toList ≠ [] := fun e => he (decide_eq_true (str_empty_iff.mpr e))
        obtain ⟨c, hc⟩ : ∃ c, z.cps.toList[0]? = some c := by
          cases e : z.cps.toList with
          | nil => exact absurd e hne
          | cons a r => exact ⟨a, rfl⟩
        rw [isName_at hc] at k
        refine ⟨_, rfl, z, 0, c, rfl, rfl, Nat.le_trans hz (by decide), atI_nat (j := 0) hc, c, _, rfl, rfl, _, rfl, ite2 (fun hl => ?_) (fun hl => ?_)⟩
        · have hl : decide (c ∈ LET.cps.toList) = false := by simpa using hl
          rw [hl] at k
          exact k
        · have hl : decide (c ∈ LET.cps.toList) = true := by simpa using hl
          rw [hl, Bool.true_and] at k
          refine ⟨_, rfl, z, rfl, for_it (walk_str (z := z)) (fun i σ H' => H' = H ∧ (z.cps.toList.take i).all al = true ∧ ∃ x, σ = [some (.str z), x]) ⟨rfl, rfl, none, rfl⟩ (fun _ _ _ _ _ => trivial) ?_ ?_⟩
          · rintro i x σ H1 H2 hi ⟨rfl, ha, y, rfl⟩ ⟨rfl, d, hd, rfl⟩
            have hd' : z.cps.toList[i]? = some d := by rw [Array.getElem?_toList]; exact hd
            have step : decide (d ∈ LET.cps.toList) || decide (d ∈ DIG.cps.toList) → (z.cps.toList.take (i + 1)).all al = true := fun h => by
              rw [take_snoc hd', List.all_append, ha, Bool.true_and, List.all_cons, List.all_nil, Bool.and_true]
              exact h
            have bad : (decide (d ∈ LET.cps.toList) || decide (d ∈ DIG.cps.toList)) = false → z.cps.toList.all al = false := fun h => by
              rw [List.all_eq_false]
              exact ⟨d, List.mem_of_getElem? hd', by unfold al; rw [h]; decide⟩
            refine ⟨_, rfl, d, _, rfl, rfl, _, rfl, ite2 (fun h1 => ?_) (fun h1 => ?_)⟩
            · have h1 : decide (d ∈ LET.cps.toList) = false := by simpa using h1
              refine ⟨_, rfl, d, _, rfl, rfl, _, rfl, ite2 (fun h2 => ?_) (fun h2 => ?_)⟩
              · have h2 : decide (d ∈ DIG.cps.toList) = false := by simpa using h2
                rw [bad (by rw [h1, h2]; rfl)] at k
                exact k
              · have h2 : decide (d ∈ DIG.cps.toList) = true := by simpa using h2
                exact ⟨rfl, step (by rw [h2]; simp), _, rfl⟩
            · have h1 : decide (d ∈ LET.cps.toList) = true := by simpa using h1
              exact ⟨rfl, step (by rw [h1]; simp), _, rfl⟩
          · rintro σ H1 ⟨rfl, ha, y, rfl⟩
            rw [show z.cps.size = z.cps.toList.length from Array.length_toList.symm, List.take_length] at ha
            rw [ha, Bool.true_and] at k
            exact ⟨_, rfl, kw, _, rfl, .inr (T.kws _), rfl, by decide +kernel, k⟩
    · refine ⟨_, rfl, _, _, _, _, _, rfl, .ty _, ty, kt, _, rfl, ?_⟩
      exact k
end
theorem sq_kws {K : PySem.W.Frag} {a : Addr} {od : Option Addr} {n : Nat} {sl : Array (Option Value)} {its : List Value} (h : K.lookup a = some ⟨.type "tuple", od, .seq its.toArray n, sl⟩) (hv : Vals (KWS.map V.str) its) (H : Hp) : SqT K H a (KWS.map V.str) :=
  .inr ⟨_, _, n, h, rfl, rfl, by
    have e := hv.length
    rw [List.length_map] at e
    have e2 : KWS.length = 16 := rfl
    show its.toArray.size ≤ sizeLine
    rw [List.size_toArray, ← e, e2]
    decide, by simpa using hv⟩

/-! ### trees -/
theorem Paired.snoc {α β : Type} {F : α → β → Prop} : ∀ {l₁ : List α} {l₂ : List β} {a : α} {b : β}, Paired F l₁ l₂ → F a b → Paired F (l₁ ++ [a]) (l₂ ++ [b])
  | _, _, _, _, .nil, h => .cons h .nil
  | _, _, _, _, .cons r t, h => .cons r (Paired.snoc t h)
theorem Paired.app {α β : Type} {F : α → β → Prop} : ∀ {l₁ l₃ : List α} {l₂ l₄ : List β}, Paired F l₁ l₂ → Paired F l₃ l₄ → Paired F (l₁ ++ l₃) (l₂ ++ l₄)
  | _, _, _, _, .nil, h => h
  | _, _, _, _, .cons r t, h => .cons r (Paired.app t h)
theorem Paired.at {α β : Type} {F : α → β → Prop} {xs : List α} {ys : List β} (hp : Paired F xs ys) : ∀ {i : Nat} {x : α}, xs[i]? = some x → ∃ y, ys[i]? = some y ∧ F x y := by
  induction hp with
  | nil => intro i x z; simp at z
  | cons r _ ih =>
    intro i x z
    cases i with
    | zero => simp at z; subst z; exact ⟨_, rfl, r⟩
    | succ j => simp at z ⊢; exact ih z
structure Ex where
  c : Int
  ts : List (Str × Int)
inductive Arg where
  | place (n : Str) | value (e : Ex)
abbrev Cal := Str × List Arg
mutual
inductive St where
  | set (t : Str) (e : Ex) | input (t : Str) | call (t : Option Str) (f : Str) (as : List Arg)
  | risk (ks : List Str) | raise (k : Str) | ret (e : Ex)
  | ite (a b : List St) | whl (b : List St) | try_ (b : List St) (hs : List Hd) (f : List St)
  | undo (ns : List Str) (b : List St) | with_ (e l : Cal) (ks : List Str) (b : List St)
inductive Hd where
  | mk (ks : List Str) (b : List St)
end
def Hd.ks : Hd → List Str
  | .mk ks _ => ks
def Hd.b : Hd → List St
  | .mk _ b => b
def exD (e : Ex) : PyData := .tuple [.int e.c, .tuple (e.ts.map fun p => .tuple [.str p.1, .int p.2])]
def nmD (ns : List Str) : PyData := .tuple (ns.map .str)
def argD : Arg → PyData
  | .place n => .tuple [.str "place", .str n]
  | .value e => .tuple [.str "value", exD e]
def calD (c : Cal) : PyData := .tuple [.str c.1, .tuple (c.2.map argD)]
def optD : Option Str → PyData
  | none => .none
  | some t => .str t
mutual
def stD : St → PyData
  | .set t e => .tuple [.str "set", .str t, exD e]
  | .input t => .tuple [.str "input", .str t]
  | .call t f as => .tuple [.str "call", optD t, .str f, .tuple (as.map argD)]
  | .risk ks => .tuple [.str "risk", nmD ks]
  | .raise k => .tuple [.str "raise", .str k]
  | .ret e => .tuple [.str "return", exD e]
  | .ite a b => .tuple [.str "if", .tuple (stsD a), .tuple (stsD b)]
  | .whl b => .tuple [.str "while", .tuple (stsD b)]
  | .try_ b hs f => .tuple [.str "try", .tuple (stsD b), .tuple (hdsD hs), .tuple (stsD f)]
  | .undo ns b => .tuple [.str "undo", nmD ns, .tuple (stsD b)]
  | .with_ e l ks b => .tuple [.str "with", calD e, calD l, nmD ks, .tuple (stsD b)]
def stsD : List St → List PyData
  | [] => []
  | s :: r => stD s :: stsD r
def hdD : Hd → PyData
  | .mk ks b => .tuple [nmD ks, .tuple (stsD b)]
def hdsD : List Hd → List PyData
  | [] => []
  | h :: r => hdD h :: hdsD r
end
def blD (b : List St) : PyData := .tuple (stsD b)
theorem stsD_map : ∀ b : List St, stsD b = b.map stD
  | [] => rfl
  | s :: r => by show stD s :: stsD r = _; rw [stsD_map r]; rfl
theorem hdsD_map : ∀ b : List Hd, hdsD b = b.map hdD
  | [] => rfl
  | s :: r => by show hdD s :: hdsD r = _; rw [hdsD_map r]; rfl
def parts : St → List (List St)
  | .ite a b => [a, b]
  | .whl b => [b]
  | .try_ b hs f => b :: (hs.map Hd.b ++ [f])
  | .undo _ b => [b]
  | .with_ _ _ _ b => [b]
  | _ => []
mutual
/-- how many statements stand within a statement -/
def szS : St → Nat
  | .ite a b => szB a + szB b
  | .whl b => szB b
  | .try_ b hs f => szB b + (szHs hs + szB f)
  | .undo _ b => szB b
  | .with_ _ _ _ b => szB b
  | .set _ _ => 0 | .input _ => 0 | .call _ _ _ => 0 | .risk _ => 0 | .raise _ => 0 | .ret _ => 0
def szB : List St → Nat
  | [] => 0
  | s :: r => 1 + szS s + szB r
def szH : Hd → Nat
  | .mk _ b => szB b
def szHs : List Hd → Nat
  | [] => 0
  | h :: r => szH h + szHs r
end
mutual
/-- how deep blocks stand within a statement -/
def dpS : St → Nat
  | .ite a b => max (dpB a) (dpB b)
  | .whl b => dpB b
  | .try_ b hs f => max (dpB b) (max (dpHs hs) (dpB f))
  | .undo _ b => dpB b
  | .with_ _ _ _ b => dpB b
  | .set _ _ => 0 | .input _ => 0 | .call _ _ _ => 0 | .risk _ => 0 | .raise _ => 0 | .ret _ => 0
def dpIn : List St → Nat
  | [] => 0
  | s :: r => max (dpS s) (dpIn r)
def dpB : List St → Nat
  | [] => 1
  | s :: r => 1 + max (dpS s) (dpIn r)
def dpH : Hd → Nat
  | .mk _ b => dpB b
def dpHs : List Hd → Nat
  | [] => 0
  | h :: r => max (dpH h) (dpHs r)
end
theorem dpB_eq : ∀ b, dpB b = 1 + dpIn b
  | [] => rfl
  | _ :: _ => rfl
theorem dp_hs : ∀ {hs : List Hd} {p : List St}, p ∈ hs.map Hd.b → dpB p ≤ dpHs hs
  | .mk ks b :: r, p, h => by
    show dpB p ≤ max (dpB b) (dpHs r)
    rcases List.mem_cons.mp h with z | z
    · rw [z]; exact Nat.le_max_left _ _
    · exact Nat.le_trans (dp_hs z) (Nat.le_max_right _ _)
theorem dp_part {s : St} {p : List St} (h : p ∈ parts s) : dpB p ≤ dpS s := by
  cases s with
  | ite a b =>
    simp only [parts, List.mem_cons, List.not_mem_nil, or_false] at h
    show _ ≤ max _ _
    rcases h with rfl | rfl
    · exact Nat.le_max_left _ _
    · exact Nat.le_max_right _ _
  | whl b => simp only [parts, List.mem_cons, List.not_mem_nil, or_false] at h; subst h; exact Nat.le_refl _
  | undo _ b => simp only [parts, List.mem_cons, List.not_mem_nil, or_false] at h; subst h; exact Nat.le_refl _
  | with_ _ _ _ b => simp only [parts, List.mem_cons, List.not_mem_nil, or_false] at h; subst h; exact Nat.le_refl _
  | try_ b hs f =>
    show _ ≤ max _ (max _ _)
    rcases List.mem_cons.mp h with z | z
    · rw [z]; exact Nat.le_max_left _ _
    · rcases List.mem_append.mp z with z | z
      · exact Nat.le_trans (dp_hs z) (Nat.le_trans (Nat.le_max_left _ _) (Nat.le_max_right _ _))
      · rw [List.mem_singleton.mp z]; exact Nat.le_trans (Nat.le_max_right _ _) (Nat.le_max_right _ _)
  | _ => simp [parts] at h
theorem dp_mem : ∀ {b : List St} {s : St}, s ∈ b → dpS s ≤ dpIn b
  | x :: r, s, h => by
    show _ ≤ max _ _
    rcases List.mem_cons.mp h with z | z
    · rw [z]; exact Nat.le_max_left _ _
    · exact Nat.le_trans (dp_mem z) (Nat.le_max_right _ _)
theorem dp_lt {b : List St} {s : St} {p : List St} (hs : s ∈ b) (hp : p ∈ parts s) : dpB p < dpB b := by
  have h1 := dp_part hp
  have h2 := dp_mem hs
  have h3 := dpB_eq b
  omega
theorem sz_hs : ∀ hs : List Hd, ((hs.map Hd.b).map szB).sum = szHs hs
  | [] => rfl
  | .mk ks b :: r => by
    show szB b + ((r.map Hd.b).map szB).sum = szB b + szHs r
    rw [sz_hs r]
theorem sz_parts (s : St) : ((parts s).map szB).sum = szS s := by
  cases s with
  | try_ b hs f =>
    show szB b + (((hs.map Hd.b) ++ [f]).map szB).sum = szB b + (szHs hs + szB f)
    rw [List.map_append, List.sum_append, sz_hs]
    rfl
  | ite a b => show szB a + (szB b + 0) = _; rfl
  | _ => rfl
end Aon
namespace L2
open PySem
/-! reading data -/
theorem SqT.same {K : PySem.W.Frag} {H H' : Hp} {a : Addr} {xs : List V} (e : Same H H') (h : SqT K H a xs) : SqT K H' a xs :=
  h.elim (fun h => .inl (h.elim (fun h => .inl (e _ _ h)) fun ⟨o, h⟩ => .inr ⟨o, e _ _ h⟩)) fun h => .inr h
mutual
theorem Dp.same {K : PySem.W.Frag} {H H' : Hp} (e : Same H H') {v : V} {d : PyData} (h : Dp K H v d) : Dp K H' v d :=
  match h with
  | .non => .non
  | .bl b => .bl b
  | .int i => .int i
  | .str x => .str x
  | .lst a b => .lst (e.seq a) (DpAll.same e b)
  | .tup a b => .tup (SqT.same e a) (DpAll.same e b)
theorem DpAll.same {K : PySem.W.Frag} {H H' : Hp} (e : Same H H') {vs : List V} {ds : List PyData} (h : DpAll K H vs ds) : DpAll K H' vs ds :=
  match h with
  | .nil => .nil
  | .cons a b => .cons (Dp.same e a) (DpAll.same e b)
end
theorem Dp.tupInv {K : PySem.W.Frag} {H : Hp} {v : V} {ds : List PyData} (h : Dp K H v (.tuple ds)) : ∃ a xs, v = .ref a ∧ SqT K H a xs ∧ DpAll K H xs ds := by
  cases h with
  | tup a b => exact ⟨_, _, rfl, a, b⟩
theorem Dp.strInv {K : PySem.W.Frag} {H : Hp} {v : V} {z : Str} (h : Dp K H v (.str z)) : v = .str z := by cases h; rfl
theorem Dp.intInv {K : PySem.W.Frag} {H : Hp} {v : V} {z : Int} (h : Dp K H v (.int z)) : v = .int z := by cases h; rfl
theorem DpAll.consInv {K : PySem.W.Frag} {H : Hp} {vs : List V} {d : PyData} {ds : List PyData} (h : DpAll K H vs (d :: ds)) : ∃ v r, vs = v :: r ∧ Dp K H v d ∧ DpAll K H r ds := by
  cases h with
  | cons a b => exact ⟨_, _, rfl, a, b⟩
theorem DpAll.nilInv {K : PySem.W.Frag} {H : Hp} {vs : List V} (h : DpAll K H vs []) : vs = [] := by cases h; rfl
theorem DpAll.len {K : PySem.W.Frag} {H : Hp} : ∀ {vs : List V} {ds : List PyData}, DpAll K H vs ds → vs.length = ds.length
  | _, _, .nil => rfl
  | _, _, .cons _ b => by rw [List.length_cons, List.length_cons, DpAll.len b]
theorem DpAll.at {K : PySem.W.Frag} {H : Hp} : ∀ {vs : List V} {ds : List PyData}, DpAll K H vs ds → ∀ {i : Nat} {v : V}, vs[i]? = some v → ∃ d, ds[i]? = some d ∧ Dp K H v d
  | _, _, .cons a b, 0, v, h => by simp at h; subst h; exact ⟨_, rfl, a⟩
  | _, _, .cons a b, i + 1, v, h => by simp at h ⊢; exact DpAll.at b h
theorem DpAll.map {K : PySem.W.Frag} {H : Hp} {α : Type} {f : α → PyData} : ∀ {vs : List V} {l : List α}, DpAll K H vs (l.map f) → Paired (fun v x => Dp K H v (f x)) vs l
  | _, [], h => by cases h; exact .nil
  | _, x :: r, h => by
    obtain ⟨v, vr, rfl, h1, h2⟩ := DpAll.consInv h
    exact .cons h1 (DpAll.map h2)
theorem DpAll.ofPaired {K : PySem.W.Frag} {H : Hp} {α : Type} {f : α → PyData} : ∀ {vs : List V} {l : List α}, Paired (fun v x => Dp K H v (f x)) vs l → DpAll K H vs (l.map f)
  | _, _, .nil => .nil
  | _, _, .cons a b => .cons a (DpAll.ofPaired b)
theorem DpAll.one {K : PySem.W.Frag} {H : Hp} {vs : List V} {d : PyData} (h : DpAll K H vs [d]) : ∃ v, vs = [v] ∧ Dp K H v d := by
  obtain ⟨v, r, rfl, h1, h2⟩ := DpAll.consInv h
  exact ⟨v, by rw [DpAll.nilInv h2], h1⟩
theorem DpAll.two {K : PySem.W.Frag} {H : Hp} {vs : List V} {d e : PyData} (h : DpAll K H vs [d, e]) : ∃ v w, vs = [v, w] ∧ Dp K H v d ∧ Dp K H w e := by
  obtain ⟨v, r, rfl, h1, h2⟩ := DpAll.consInv h
  obtain ⟨w, rfl, h3⟩ := DpAll.one h2
  exact ⟨v, w, rfl, h1, h3⟩
theorem DpAll.three {K : PySem.W.Frag} {H : Hp} {vs : List V} {d e f : PyData} (h : DpAll K H vs [d, e, f]) : ∃ v w x, vs = [v, w, x] ∧ Dp K H v d ∧ Dp K H w e ∧ Dp K H x f := by
  obtain ⟨v, r, rfl, h1, h2⟩ := DpAll.consInv h
  obtain ⟨w, x, rfl, h3, h4⟩ := DpAll.two h2
  exact ⟨v, w, x, rfl, h1, h3, h4⟩
theorem DpAll.four {K : PySem.W.Frag} {H : Hp} {vs : List V} {d e f g : PyData} (h : DpAll K H vs [d, e, f, g]) : ∃ v w x y, vs = [v, w, x, y] ∧ Dp K H v d ∧ Dp K H w e ∧ Dp K H x f ∧ Dp K H y g := by
  obtain ⟨v, r, rfl, h1, h2⟩ := DpAll.consInv h
  obtain ⟨w, x, y, rfl, h3, h4, h5⟩ := DpAll.three h2
  exact ⟨v, w, x, y, rfl, h1, h3, h4, h5⟩
end L2
namespace Aon
open PySem L2
theorem ty_tup {K : PySem.W.Frag} {H : Hp} {a : Addr} {xs : List V} (h : SqT K H a xs) : TyX K H (.ref a) (.type "tuple") := by
  rcases h with (h | ⟨o, h⟩) | h
  · exact .base (.tup h)
  · exact .fTuple h
  · obtain ⟨o, _, _, h1, h2, _⟩ := h
    exact .kTuple h1 h2

/-! ### match over statements; parts_of, size_of, numbered, .. -/
section
variable {K : PySem.W.Frag} {D : Ends} {σ : L2.St} {H : Hp} {a : Addr} {xs : List V} {tb : TS} {tr : TCs} {n : Nat} {z : Str} {ts : TPats}
theorem case_len (h : SqT K H a xs) (hl : xs.length ≠ n) (k : tr (.ref a) D σ H) : tCsC (mSeq K n ts) tb tr (.ref a) D σ H :=
  ⟨a, xs, rfl, h, by rw [if_neg hl]; exact k⟩
theorem case_word {w : Str} (h : SqT K H a (.str w :: xs)) (hl : xs.length + 1 = n) (hw : w ≠ z) (k : tr (.ref a) D σ H) : tCsC (mSeq K n (mCons (mStr z) ts)) tb tr (.ref a) D σ H := by
  refine ⟨a, _, rfl, h, ?_⟩
  rw [if_pos (show (V.str w :: xs).length = n from hl)]
  refine ⟨_, _, rfl, rfl, ?_⟩
  rw [if_neg (fun e => hw (V.str.inj e))]
  exact k
theorem case_hit (h : SqT K H a (.str z :: xs)) (hl : xs.length + 1 = n) (k : ts xs H fun b H2 => match b with
    | none => tr (.ref a) D σ H2
    | some bs => tb D (setAll σ bs) H2) : tCsC (mSeq K n (mCons (mStr z) ts)) tb tr (.ref a) D σ H := by
  refine ⟨a, _, rfl, h, ?_⟩
  rw [if_pos (show (V.str z :: xs).length = n from hl)]
  refine ⟨_, _, rfl, rfl, ?_⟩
  rw [if_pos rfl]
  refine (?_ : ts xs H _)
  have e : (fun (b2 : Option BS) (H2 : Hp) => match b2 with
      | none => (match (none : Option BS) with
        | none => tr (.ref a) D σ H2
        | some bs => tb D (setAll σ bs) H2)
      | some more => (match some ([] ++ more) with
        | none => tr (.ref a) D σ H2
        | some bs => tb D (setAll σ bs) H2)) = fun b H2 => match b with
    | none => tr (.ref a) D σ H2
    | some bs => tb D (setAll σ bs) H2 := by
    funext b H2
    cases b <;> rfl
  have k2 := k
  rw [← e] at k2
  exact k2
end
abbrev sParts : Stmt := topS 14
abbrev NParts : List Str := ["statement", "first", "second", "block", "handlers", "final", "one", "names", "enter", "leave", "kinds"]
abbrev PParts : List Str := ["statement"]
theorem scParts : FnScope NParts PParts (defScope sParts) := ⟨rfl, rfl, rfl, by decide +kernel, rfl, by decide +kernel, by decide +kernel⟩
def wordS : St → Str
  | .set _ _ => "set" | .input _ => "input" | .call _ _ _ => "call" | .risk _ => "risk" | .raise _ => "raise" | .ret _ => "return"
  | .ite _ _ => "if" | .whl _ => "while" | .try_ _ _ _ => "try" | .undo _ _ => "undo" | .with_ _ _ _ _ => "with"
def restS : St → List PyData
  | .set t e => [.str t, exD e]
  | .input t => [.str t]
  | .call t f as => [optD t, .str f, .tuple (as.map argD)]
  | .risk ks => [nmD ks]
  | .raise k => [.str k]
  | .ret e => [exD e]
  | .ite a b => [blD a, blD b]
  | .whl b => [blD b]
  | .try_ b hs f => [blD b, .tuple (hdsD hs), blD f]
  | .undo ns b => [nmD ns, blD b]
  | .with_ e l ks b => [calD e, calD l, nmD ks, blD b]
theorem stD_eq (s : St) : stD s = .tuple (.str (wordS s) :: restS s) := by cases s <;> rfl
theorem stInv {K : PySem.W.Frag} {H : Hp} {v : V} {s : St} (h : Dp K H v (stD s)) : ∃ a xs, v = .ref a ∧ SqT K H a (.str (wordS s) :: xs) ∧ DpAll K H xs (restS s) := by
  rw [stD_eq] at h
  obtain ⟨a, xs, rfl, h1, h2⟩ := h.tupInv
  obtain ⟨x, r, rfl, h3, h4⟩ := DpAll.consInv h2
  rw [h3.strInv] at h1
  exact ⟨a, r, rfl, h1, h4⟩
/-- few handlers -/
def fewH : St → Prop
  | .try_ _ hs _ => hs.length ≤ 900
  | _ => True
def spParts (K : PySem.W.Frag) : Sp := fun vs H Q _ => ∃ (v : V) (s : St), vs = [v] ∧ Dp K H v (stD s) ∧ fewH s ∧ ∀ (a : Addr) (xs : List V) (H' : Hp), Same H H' → H' a = some (.tup xs) → Paired (fun x p => Dp K H' x (blD p)) xs (parts s) → Q (.ref a) H'
section
variable {P : Program} {w : World} {K : PySem.W.Frag} {mg : Str → Option Value} {base : Heap}
theorem ok_Parts {f : Addr} {fd : FuncData} (F : Fun K "parts_of" "parts_of" sParts f fd) : FnOk P w K mg base CX0 1 f fd PParts (spParts K) := by
  refine F.ok scParts (fun vs H Q E h => ?_) (fun cdv A outer s H vs Q E hr h => ?_)
  · obtain ⟨v, st, rfl, _⟩ := h
    rfl
  · obtain ⟨v, st, rfl, hv, few, k⟩ := h
    refine ⟨_, (pss_one (ps_match (pv 0) (pcs_cons scParts.nd (pm_seq rfl (pms_cons pm_str (pms_cons (pm_as (i := 1) rfl (Or.inl rfl)) (pms_cons (pm_as (i := 2) rfl (Or.inl rfl)) pms_nil))))
  (pss_one (ps_ret (pe_tup (pa_cons (pv 1) (pa_cons (pv 2) pa_nil)))))
  (pcs_cons scParts.nd (pm_seq rfl (pms_cons pm_str (pms_cons (pm_as (i := 3) rfl (Or.inl rfl)) pms_nil)))
  (pss_one (ps_ret (pe_tup (pa_cons (pv 3) pa_nil))))
  (pcs_cons scParts.nd (pm_seq rfl (pms_cons pm_str (pms_cons (pm_as (i := 3) rfl (Or.inl rfl)) (pms_cons (pm_as (i := 4) rfl (Or.inl rfl)) (pms_cons (pm_as (i := 5) rfl (Or.inl rfl)) pms_nil)))))
  (pss_one (ps_ret (pe_tup (pa_cons (pv 3) (StX.pa_star (pe_lc (own := [("one", 6)]) (g := gName 6) (tt := tYes) rfl scParts.nd (pi_tup (pv 4)) (blkOk_by (own := [("one", 6)]) (N := NParts) (sc := (defScope sParts)) (by decide +kernel)) (fun _ _ _ _ _ => (pg_name (i := 6) scParts.nd rfl (Or.inl rfl))) (fun _ _ _ _ _ => pts_nil) (fun _ _ _ _ _ => (pe_ix (r := rIxT K) ix_tup (pv 6) pe_int (fun _ _ => rfl)))) (pa_cons (pv 5) pa_nil))))))
  (pcs_cons scParts.nd (pm_seq rfl (pms_cons pm_str (pms_cons (pm_as (i := 7) rfl (Or.inl rfl)) (pms_cons (pm_as (i := 3) rfl (Or.inl rfl)) pms_nil))))
  (pss_one (ps_ret (pe_tup (pa_cons (pv 3) pa_nil))))
  (pcs_cons scParts.nd (pm_seq rfl (pms_cons pm_str (pms_cons (pm_as (i := 8) rfl (Or.inl rfl)) (pms_cons (pm_as (i := 9) rfl (Or.inl rfl)) (pms_cons (pm_as (i := 10) rfl (Or.inl rfl)) (pms_cons (pm_as (i := 3) rfl (Or.inl rfl)) pms_nil))))))
  (pss_one (ps_ret (pe_tup (pa_cons (pv 3) pa_nil))))
  (pcs_cons scParts.nd pm_wild
  (pss_one (ps_ret (pe_tup pa_nil)))
  pcs_nil)))))))), ?_⟩
    obtain ⟨a, xs, rfl, hq, hd⟩ := stInv hv
    refine ⟨_, rfl, ?_⟩
    cases st <;> simp only [wordS] at hq
    case ite p q =>
      obtain ⟨x, y, rfl, h1, h2⟩ := DpAll.two hd
      refine case_hit hq rfl ⟨_, _, rfl, _, _, rfl, ?_⟩
      refine ⟨_, rfl, _, rfl, (by show 2 ≤ sizeLine; decide), fun t ht => ?_⟩
      have s1 := same_new (o := .tup [x, y]) ht
      exact k t _ _ s1 upd_same (.cons (h1.same s1) (.cons (h2.same s1) .nil))
    case whl p =>
      obtain ⟨x, rfl, h1⟩ := DpAll.one hd
      refine case_len hq (Nat.ne_of_beq_eq_false rfl) ?_
      refine case_hit hq rfl ⟨_, _, rfl, ?_⟩
      refine ⟨_, rfl, (by show 1 ≤ sizeLine; decide), fun t ht => ?_⟩
      have s1 := same_new (o := .tup [x]) ht
      exact k t _ _ s1 upd_same (.cons (h1.same s1) .nil)
    case undo ns p =>
      obtain ⟨y, x, rfl, _, h1⟩ := DpAll.two hd
      refine case_word hq rfl (by decide +kernel) ?_
      refine case_len hq (Nat.ne_of_beq_eq_false rfl) ?_
      refine case_len hq (Nat.ne_of_beq_eq_false rfl) ?_
      refine case_hit hq rfl ⟨_, _, rfl, _, _, rfl, ?_⟩
      refine ⟨_, rfl, (by show 1 ≤ sizeLine; decide), fun t ht => ?_⟩
      have s1 := same_new (o := .tup [x]) ht
      exact k t _ _ s1 upd_same (.cons (h1.same s1) .nil)
    case with_ e l ks p =>
      obtain ⟨_, _, _, x, rfl, _, _, _, h1⟩ := DpAll.four hd
      repeat (first | refine case_len hq (Nat.ne_of_beq_eq_false rfl) ?_ | refine case_word hq rfl (by decide +kernel) ?_)
      refine case_hit hq rfl ⟨_, _, rfl, _, _, rfl, _, _, rfl, _, _, rfl, ?_⟩
      refine ⟨_, rfl, (by show 1 ≤ sizeLine; decide), fun t ht => ?_⟩
      have s1 := same_new (o := .tup [x]) ht
      exact k t _ _ s1 upd_same (.cons (h1.same s1) .nil)
    case try_ p hs q =>
      obtain ⟨x, y, z, rfl, h1, h2, h3⟩ := DpAll.three hd
      repeat (first | refine case_len hq (Nat.ne_of_beq_eq_false rfl) ?_ | refine case_word hq rfl (by decide +kernel) ?_)
      refine case_hit hq rfl ⟨_, _, rfl, _, _, rfl, _, _, rfl, ?_⟩
      obtain ⟨b, ys, rfl, hb, hdb⟩ := h2.tupInv
      rw [hdsD_map] at hdb
      have ph := hdb.map
      have lh : ys.length = hs.length := Paired.length ph
      have few : hs.length ≤ 900 := few
      refine ⟨_, rfl, _, rfl, b, rfl, ⟨_, hb⟩, fun D hD => ?_⟩
      refine lc_tup (K := K) (a := b) (xs := ys) (fun i H' => Same H H' ∧ ∃ acc, H' D = some (.lst acc) ∧ acc.length = i ∧ Paired (fun x p => Dp K H x (blD p)) acc ((hs.map Hd.b).take i)) ⟨same_new hD, [], upd_same, rfl, .nil⟩ (fun i H' _ h' => SqT.same h'.1 hb) ?_ ?_
      · rintro i v H1 hv ⟨s1, acc, eD, la, pa⟩
        obtain ⟨hd, hh, hdp⟩ := Paired.at ph hv
        have hi : i < ys.length := (List.getElem?_eq_some_iff.mp hv).1
        cases hd with
        | mk ks hb' =>
          have hdp : Dp K H v (.tuple [nmD ks, blD hb']) := hdp
          obtain ⟨c, zs, rfl, hc, hcd⟩ := hdp.tupInv
          obtain ⟨u, w, rfl, _, hw⟩ := hcd.two
          refine ⟨rfl, _, rfl, c, _, _, _, rfl, rfl, SqT.same s1 hc, rfl, acc, eD, small1000 (by omega), fun c o z => ?_, acc ++ [w], upd_same, by rw [List.length_append, la]; rfl, ?_⟩
          · rw [upd_ne (ne_of_none z hD)]
            exact s1 _ _ z
          · have hm : (hs.map Hd.b)[i]? = some hb' := by rw [List.getElem?_map, hh]; rfl
            rw [take_snoc hm]
            exact Paired.snoc pa hw
      · rintro H1 ⟨s1, acc, eD, la, pa⟩
        rw [lh, ← List.length_map (f := Hd.b), List.take_length] at pa
        refine ⟨D, _, rfl, .inr (SqL.of eD), _, rfl, (by show (x :: (acc ++ [z])).length ≤ sizeLine; exact Nat.le_of_lt (small1000 (by rw [List.length_cons, List.length_append, la]; show ys.length + 1 + 1 ≤ 1000; omega))), fun t ht => ?_⟩
        have s2 := s1.trans (same_new (o := .tup (x :: (acc ++ [z]))) ht)
        exact k t _ _ s2 upd_same (.cons (h1.same s2) (Paired.snoc (Paired.mapP pa fun _ _ z => z.same s2) (h3.same s2)))
    all_goals
      first
        | obtain ⟨_, rfl, _⟩ := DpAll.one hd
        | obtain ⟨_, _, rfl, _, _⟩ := DpAll.two hd
        | obtain ⟨_, _, _, rfl, _⟩ := DpAll.three hd
      repeat (first | refine case_len hq (Nat.ne_of_beq_eq_false rfl) ?_ | refine case_word hq rfl (by decide +kernel) ?_)
      refine ⟨(by show 0 ≤ sizeLine; decide), fun t ht => ?_⟩
      exact k t _ _ (same_new ht) upd_same .nil
end

/-! ### size_of, numbered, numbered_parts, all_numbered -/
def okN1 (n : Str) : Prop := isName n = true ∧ n.length ≤ 100
def okNs (ns : List Str) : Prop := ns.length ≤ 900 ∧ ∀ n ∈ ns, okN1 n
def okEx (e : Ex) : Prop := e.ts.length ≤ 900 ∧ (∀ p ∈ e.ts, okN1 p.1 ∧ p.2 ≠ 0) ∧ ∀ (i : Nat) (a b : Str × Int), e.ts[i]? = some a → e.ts[i + 1]? = some b → a.1.cps.toList < b.1.cps.toList
def okArg : Arg → Prop
  | .place n => okN1 n
  | .value e => okEx e
def okAs (as : List Arg) : Prop := as.length ≤ 900 ∧ ∀ a ∈ as, okArg a
def okCal (c : Cal) : Prop := okN1 c.1 ∧ okAs c.2
mutual
def okS : St → Prop
  | .set t e => okN1 t ∧ okEx e
  | .input t => okN1 t
  | .call t f as => (∀ x, t = some x → okN1 x) ∧ okN1 f ∧ okAs as
  | .risk ks => ks ≠ [] ∧ okNs ks
  | .raise k => okN1 k
  | .ret e => okEx e
  | .ite a b => (a.length ≤ 900 ∧ okL a) ∧ (b.length ≤ 900 ∧ okL b)
  | .whl b => b.length ≤ 900 ∧ okL b
  | .try_ b hs f => (b.length ≤ 900 ∧ okL b) ∧ (hs.length ≤ 900 ∧ okHs hs) ∧ (f.length ≤ 900 ∧ okL f)
  | .undo ns b => (ns ≠ [] ∧ okNs ns) ∧ (b.length ≤ 900 ∧ okL b)
  | .with_ e l ks b => (okCal e ∧ okCal l ∧ okNs ks) ∧ (b.length ≤ 900 ∧ okL b)
def okL : List St → Prop
  | [] => True
  | s :: r => okS s ∧ okL r
def okH : Hd → Prop
  | .mk ks b => (ks ≠ [] ∧ okNs ks) ∧ (b.length ≤ 900 ∧ okL b)
def okHs : List Hd → Prop
  | [] => True
  | h :: r => okH h ∧ okHs r
end
def okB (b : List St) : Prop := b.length ≤ 900 ∧ okL b
theorem okL_mem : ∀ {b : List St}, okL b → ∀ {s : St}, s ∈ b → okS s
  | x :: r, h, s, hs => by
    have h : okS x ∧ okL r := h
    rcases List.mem_cons.mp hs with z | z
    · rw [z]; exact h.1
    · exact okL_mem h.2 z
theorem okHs_mem : ∀ {hs : List Hd}, okHs hs → ∀ {x : Hd}, x ∈ hs → okH x
  | y :: r, h, x, hx => by
    have h : okH y ∧ okHs r := h
    rcases List.mem_cons.mp hx with z | z
    · rw [z]; exact h.1
    · exact okHs_mem h.2 z
theorem okS_few {s : St} (h : okS s) : fewH s := by
  cases s with
  | try_ b hs f =>
    have h : (b.length ≤ 900 ∧ okL b) ∧ (hs.length ≤ 900 ∧ okHs hs) ∧ (f.length ≤ 900 ∧ okL f) := h
    exact h.2.1.1
  | _ => trivial
theorem okS_parts {s : St} (h : okS s) {p : List St} (hp : p ∈ parts s) : okB p := by
  cases s with
  | ite a b =>
    have h : (a.length ≤ 900 ∧ okL a) ∧ (b.length ≤ 900 ∧ okL b) := h
    simp only [parts, List.mem_cons, List.not_mem_nil, or_false] at hp
    rcases hp with rfl | rfl
    · exact h.1
    · exact h.2
  | whl b =>
    have h : b.length ≤ 900 ∧ okL b := h
    simp only [parts, List.mem_cons, List.not_mem_nil, or_false] at hp; subst hp; exact h
  | undo ns b =>
    have h : (ns ≠ [] ∧ okNs ns) ∧ (b.length ≤ 900 ∧ okL b) := h
    simp only [parts, List.mem_cons, List.not_mem_nil, or_false] at hp; subst hp; exact h.2
  | with_ e l ks b =>
    have h : (okCal e ∧ okCal l ∧ okNs ks) ∧ (b.length ≤ 900 ∧ okL b) := h
    simp only [parts, List.mem_cons, List.not_mem_nil, or_false] at hp; subst hp; exact h.2
  | try_ b hs f =>
    have h : (b.length ≤ 900 ∧ okL b) ∧ (hs.length ≤ 900 ∧ okHs hs) ∧ (f.length ≤ 900 ∧ okL f) := h
    rcases List.mem_cons.mp hp with z | z
    · rw [z]; exact h.1
    · rcases List.mem_append.mp z with z | z
      · obtain ⟨x, hx, rfl⟩ := List.mem_map.mp z
        have k := okHs_mem h.2.1.2 hx
        cases x with
        | mk ks c =>
          have k : (ks ≠ [] ∧ okNs ks) ∧ (c.length ≤ 900 ∧ okL c) := k
          exact k.2
      · rw [List.mem_singleton.mp z]; exact h.2.2
  | _ => simp [parts] at hp
theorem parts_len {s : St} (h : okS s) : (parts s).length ≤ 902 := by
  cases s with
  | try_ b hs f =>
    have h := okS_few h
    have h : hs.length ≤ 900 := h
    show (b :: (hs.map Hd.b ++ [f])).length ≤ _
    rw [List.length_cons, List.length_append, List.length_map]
    show hs.length + 1 + 1 ≤ 902
    omega
  | ite a b => show 2 ≤ 902; omega
  | whl b => show 1 ≤ 902; omega
  | undo _ b => show 1 ≤ 902; omega
  | with_ _ _ _ b => show 1 ≤ 902; omega
  | _ => exact Nat.zero_le _
theorem szB_take : ∀ {b : List St} {i : Nat} {s : St}, b[i]? = some s → szB (b.take (i + 1)) = szB (b.take i) + (1 + szS s)
  | x :: r, 0, s, h => by simp at h; subst h; show 1 + szS x + 0 = 0 + _; omega
  | x :: r, i + 1, s, h => by
    have ih := szB_take (b := r) (i := i) (s := s) (by simpa using h)
    show 1 + szS x + szB (r.take (i + 1)) = 1 + szS x + szB (r.take i) + _
    omega
abbrev sSize : Stmt := topS 15
abbrev NSize : List Str := ["block", "total", "statement", "part"]
abbrev PSize : List Str := ["block"]
theorem scSize : FnScope NSize PSize (defScope sSize) := ⟨rfl, rfl, rfl, by decide +kernel, rfl, by decide +kernel, by decide +kernel⟩
theorem bb_sum : bootBuiltins "sum" = some (.builtin "sum") := by decide +kernel
structure TxTree (mg : Str → Option Value) : Prop where
  n_sum : mg "sum" = none
  n_isinstance : mg "isinstance" = none
  n_len : mg "len" = none
def spSize (K : PySem.W.Frag) (n : Nat) : Sp := fun vs H Q _ => ∃ (v : V) (b : List St), vs = [v] ∧ Dp K H v (blD b) ∧ dpB b ≤ n ∧ okB b ∧ ∀ H', Same H H' → Q (.int (szB b : Int)) H'
theorem no_dp {b : List St} (h : dpB b ≤ 0) : False := by
  have := dpB_eq b
  omega
section
variable {P : Program} {w : World} {K : PySem.W.Frag} {mg : Str → Option Value} {base : Heap}
theorem ok_Size {f : Addr} {fd : FuncData} (F : Fun K "size_of" "size_of" sSize f fd) (T : TxTree mg) (GP : Has P w K mg base CX0 1 "parts_of" PParts (spParts K)) (m : mg "size_of" = some (.ref f)) (kp : PySem.W.keepIn K (.ref f) = true) (bd : Binds K fd PSize []) : ∀ n, FnOk P w K mg base CX0 (2 + n) f fd PSize (spSize K n) := by
  intro n
  induction n with
  | zero => exact ⟨fun vs H Q E h => by obtain ⟨_, _, _, _, h, _⟩ := h; exact (no_dp h).elim, fun _ _ _ _ _ _ _ _ _ _ _ _ _ h => by obtain ⟨_, _, _, _, h, _⟩ := h; exact (no_dp h).elim⟩
  | succ n ih =>
    have GS : Has P w K mg base CX0 (2 + n) "size_of" PSize (spSize K n) := ⟨f, fd, ih, m, kp, bd⟩
    refine F.ok scSize (fun vs H Q E h => ?_) (fun cdv A outer s H vs Q E hr h => ?_)
    · obtain ⟨v, b, rfl, _⟩ := h
      rfl
    · obtain ⟨v, b, rfl, hv, hn, ok, k⟩ := h
      have hr1 := hr.mono (j := 1) (show 1 ≤ 2 + n by omega)
      refine ⟨_, (pss_cons (ps_set (i := 1) scSize.nd rfl (Or.inl rfl) pe_int)
  (pss_cons (ps_for PassesOwn.never rfl (pi_tup (pv 0)) (pg_name (i := 2) scSize.nd rfl (Or.inl rfl))
  (pss_one (ps_aug (i := 1) scSize.nd rfl (Or.inl rfl) (pe_op op_add pe_int (pe_callB (cr_sum rfl) (by rfl) T.n_sum bb_sum (pa_cons (pe_lc (own := [("part", 3)]) (g := gName 3) (tt := tYes) rfl scSize.nd (pi_tup (pe_callH GP hr1 rfl pass0 (pa_cons (pv 2) pa_nil))) (blkOk_by (own := [("part", 3)]) (N := NSize) (sc := (defScope sSize)) (by decide +kernel)) (fun _ _ _ _ _ => (pg_name (i := 3) scSize.nd rfl (Or.inl rfl))) (fun _ _ _ _ _ => pts_nil) (fun _ _ _ _ _ => (pe_callH GS hr rfl pass0 (pa_cons (pv 3) pa_nil)))) pa_nil))) ip_add)))
  (pss_one (ps_ret (pv 1))))), ?_⟩
      obtain ⟨a, xs, rfl, hq, hd⟩ := hv.tupInv
      rw [stsD_map] at hd
      have pb := hd.map
      refine ⟨_, rfl, a, rfl, ⟨_, hq⟩, ?_⟩
      refine for_tup (K := K) (a := a) (xs := xs) (fun i σ H' => ∃ x2 : Option V, σ = [some (.ref a), some (.int (szB (b.take i) : Int)), x2, none] ∧ Same H H') ⟨_, rfl, Same.refl _⟩ (fun i σ H' _ h' => by obtain ⟨_, _, s'⟩ := h'; exact SqT.same s' hq) ?_ ?_
      · rintro i x σ H1 hx ⟨x2, rfl, s1⟩
        obtain ⟨st, hst, hsd⟩ := Paired.at pb hx
        have ms := List.mem_of_getElem? hst
        have oks := okL_mem ok.2 ms
        refine ⟨_, rfl, _, rfl, x, st, rfl, hsd.same s1, okS_few oks, fun t ts H2 s2 e2 p2 => ?_⟩
        have lt : ts.length ≤ 902 := by rw [Paired.length p2]; exact parts_len oks
        refine ⟨t, rfl, ⟨_, SqT.of e2⟩, fun D hD => ?_⟩
        refine lc_tup (K := K) (a := t) (xs := ts) (fun i H' => Same H2 H' ∧ H' D = some (.lst ((((parts st).take i).map fun p => ((szB p : Nat) : Int)).map V.int))) ⟨same_new hD, upd_same⟩ (fun i H' _ h' => SqT.of (h'.1 _ _ e2)) ?_ ?_
        · rintro j y H3 hy ⟨s3, eD⟩
          obtain ⟨p, hp, hpd⟩ := Paired.at p2 hy
          have hj : j < ts.length := (List.getElem?_eq_some_iff.mp hy).1
          have mp := List.mem_of_getElem? hp
          have hdp := dp_lt ms mp
          refine ⟨rfl, _, rfl, y, p, rfl, hpd.same s3, by omega, okS_parts oks mp, fun H4 s4 => ?_⟩
          refine ⟨_, s4 _ _ eD, small1000 (by rw [List.length_map, List.length_map, List.length_take]; omega), fun c o z => ?_, ?_⟩
          · rw [upd_ne (ne_of_none z hD)]
            exact s4 _ _ (s3 _ _ z)
          · rw [upd_same, take_snoc hp, List.map_append, List.map_append]
            rfl
        · rintro H3 ⟨s3, eD⟩
          rw [Paired.length p2, List.take_length] at eD
          refine ⟨D, _, rfl, SqL.of eD, ?_⟩
          have esum : ((parts st).map fun p => ((szB p : Nat) : Int)).sum = ((szS st : Nat) : Int) := by
            rw [← sz_parts st]
            induction parts st with
            | nil => rfl
            | cons p r ih =>
              rw [List.map_cons, List.sum_cons, ih, List.map_cons, List.sum_cons]
              omega
          rw [esum]
          have e : ((szB (b.take i) : Nat) : Int) + (1 + ((szS st : Nat) : Int)) = ((szB (b.take (i + 1)) : Nat) : Int) := by rw [szB_take hst]; omega
          exact ⟨_, _, rfl, rfl, _, _, rfl, rfl, _, by rw [← e]; rfl, (s1.trans s2).trans s3⟩
      · rintro σ H1 ⟨x2, rfl, s1⟩
        rw [Paired.length pb, List.take_length]
        exact ⟨_, rfl, k _ s1⟩
end
/-! numbered, numbered_parts, all_numbered -/
def numb : List St → Nat → List (Nat × St)
  | [], _ => []
  | s :: r, n => (n, s) :: numb r (n + 1 + szS s)
def nparts : List (List St) → Nat → List (Nat × List St)
  | [], _ => []
  | p :: r, n => (n, p) :: nparts r (n + szB p)
mutual
def allS : St → Nat → List (Nat × St)
  | .ite a b, n => allB a n ++ allB b (n + szB a)
  | .whl b, n => allB b n
  | .try_ b hs f, n => allB b n ++ (allHs hs (n + szB b) ++ allB f (n + szB b + szHs hs))
  | .undo _ b, n => allB b n
  | .with_ _ _ _ b, n => allB b n
  | .set _ _, _ => [] | .input _, _ => [] | .call _ _ _, _ => [] | .risk _, _ => [] | .raise _, _ => [] | .ret _, _ => []
def allB : List St → Nat → List (Nat × St)
  | [], _ => []
  | s :: r, n => (n, s) :: (allS s (n + 1) ++ allB r (n + 1 + szS s))
def allH : Hd → Nat → List (Nat × St)
  | .mk _ b, n => allB b n
def allHs : List Hd → Nat → List (Nat × St)
  | [], _ => []
  | h :: r, n => allH h n ++ allHs r (n + szH h)
end
theorem numb_take : ∀ {b : List St} {n i : Nat} {s : St}, b[i]? = some s → numb (b.take (i + 1)) n = numb (b.take i) n ++ [(n + szB (b.take i), s)]
  | x :: r, n, 0, s, h => by simp at h; subst h; rfl
  | x :: r, n, i + 1, s, h => by
    have ih := numb_take (b := r) (n := n + 1 + szS x) (i := i) (s := s) (by simpa using h)
    show (n, x) :: numb (r.take (i + 1)) _ = (n, x) :: (numb (r.take i) _ ++ [(n + (1 + szS x + szB (r.take i)), s)])
    rw [ih]
    congr 4
    omega
theorem nparts_take : ∀ {b : List (List St)} {n i : Nat} {s : List St}, b[i]? = some s → nparts (b.take (i + 1)) n = nparts (b.take i) n ++ [(n + ((b.take i).map szB).sum, s)]
  | x :: r, n, 0, s, h => by simp at h; subst h; rfl
  | x :: r, n, i + 1, s, h => by
    have ih := nparts_take (b := r) (n := n + szB x) (i := i) (s := s) (by simpa using h)
    show (n, x) :: nparts (r.take (i + 1)) _ = (n, x) :: (nparts (r.take i) _ ++ [(n + (szB x + ((r.take i).map szB).sum), s)])
    rw [ih]
    congr 4
    omega
theorem nparts_app : ∀ (a b : List (List St)) (n : Nat), nparts (a ++ b) n = nparts a n ++ nparts b (n + (a.map szB).sum)
  | [], b, n => rfl
  | x :: r, b, n => by
    show (n, x) :: nparts (r ++ b) _ = (n, x) :: (nparts r _ ++ nparts b (n + (szB x + (r.map szB).sum)))
    rw [nparts_app r b, Nat.add_assoc]
/-- the statements within parts that have numbers -/
def allP (ps : List (Nat × List St)) : List (Nat × St) := ps.flatMap fun p => allB p.2 p.1
theorem allP_hs : ∀ (hs : List Hd) (n : Nat), allP (nparts (hs.map Hd.b) n) = allHs hs n
  | [], _ => rfl
  | .mk ks b :: r, n => by
    show allB b n ++ allP (nparts (r.map Hd.b) (n + szB b)) = allB b n ++ allHs r (n + szB b)
    rw [allP_hs r]
theorem allP_parts (s : St) (n : Nat) : allP (nparts (parts s) n) = allS s n := by
  cases s with
  | ite a b => show allB a n ++ (allB b (n + szB a) ++ []) = _; rw [List.append_nil]; rfl
  | whl b => show allB b n ++ [] = _; rw [List.append_nil]; rfl
  | undo ns b => show allB b n ++ [] = _; rw [List.append_nil]; rfl
  | with_ e l ks b => show allB b n ++ [] = _; rw [List.append_nil]; rfl
  | try_ b hs f =>
    show allB b n ++ allP (nparts (hs.map Hd.b ++ [f]) (n + szB b)) = allB b n ++ (allHs hs (n + szB b) ++ allB f (n + szB b + szHs hs))
    rw [nparts_app, sz_hs]
    unfold allP
    rw [List.flatMap_append]
    have := allP_hs hs (n + szB b)
    unfold allP at this
    rw [this]
    show allB b n ++ (allHs hs (n + szB b) ++ (allB f _ ++ [])) = _
    rw [List.append_nil]
  | _ => rfl
theorem allB_eq : ∀ (b : List St) (n : Nat), allB b n = (numb b n).flatMap fun p => p :: allS p.2 (p.1 + 1)
  | [], _ => rfl
  | s :: r, n => by
    show (n, s) :: (allS s (n + 1) ++ allB r (n + 1 + szS s)) = ((n, s) :: allS s (n + 1)) ++ (numb r (n + 1 + szS s)).flatMap _
    rw [allB_eq r]
    rfl

/-! ### tuples that stay -/
def Tps (H H' : Hp) : Prop := (∀ a xs, H a = some (.tup xs) → H' a = some (.tup xs)) ∧ ∀ a o xs, H a = some (.frz o (.tup xs)) → H' a = some (.frz o (.tup xs))
theorem Tps.of {H H' : Hp} (s : Same H H') : Tps H H' := ⟨fun a xs e => s _ _ e, fun a o xs e => s _ _ e⟩
theorem Tps.refl {H : Hp} : Tps H H := ⟨fun _ _ e => e, fun _ _ _ e => e⟩
theorem Tps.trans {H H1 H2 : Hp} (a : Tps H H1) (b : Tps H1 H2) : Tps H H2 := ⟨fun x xs e => b.1 _ _ (a.1 _ _ e), fun x o xs e => b.2 _ _ _ (a.2 _ _ _ e)⟩
theorem Tps.lst {H : Hp} {q : Addr} {zs : List V} {o : HO} (h : H q = some (.lst zs)) : Tps H (upd H q o) :=
  ⟨fun a xs e => by rw [upd_ne (ne_of e h (by intro z; cases z))]; exact e, fun a o xs e => by rw [upd_ne (ne_of e h (by intro z; cases z))]; exact e⟩
theorem Tps.dk {H : Hp} {q : Addr} {zs : List (Key × V)} {o : HO} (h : H q = some (.dK zs)) : Tps H (upd H q o) :=
  ⟨fun a xs e => by rw [upd_ne (ne_of e h (by intro z; cases z))]; exact e, fun a o xs e => by rw [upd_ne (ne_of e h (by intro z; cases z))]; exact e⟩
theorem Tps.ins {H : Hp} {q c dx : Addr} {fs : List (Str × V)} {o : HO} (h : H q = some (.ins c dx fs)) : Tps H (upd H q o) :=
  ⟨fun a xs e => by rw [upd_ne (ne_of e h (by intro z; cases z))]; exact e, fun a o xs e => by rw [upd_ne (ne_of e h (by intro z; cases z))]; exact e⟩
theorem Tps.sqt {K : PySem.W.Frag} {H H' : Hp} (t : Tps H H') {a : Addr} {xs : List V} (h : SqT K H a xs) : SqT K H' a xs :=
  h.elim (fun h => .inl (h.elim (fun h => .inl (t.1 _ _ h)) fun ⟨o, h⟩ => .inr ⟨o, t.2 _ _ _ h⟩)) fun h => .inr h
mutual
/-- no list, no dict within -/
def noL : PyData → Bool
  | .tuple ds => noLs ds
  | .none => true | .bool _ => true | .int _ => true | .str _ => true
  | _ => false
def noLs : List PyData → Bool
  | [] => true
  | d :: r => noL d && noLs r
end
end Aon
namespace L2
open PySem Aon
mutual
theorem Dp.tps {K : PySem.W.Frag} {H H' : Hp} (t : Tps H H') {v : V} {d : PyData} (h : Dp K H v d) (n : noL d = true) : Dp K H' v d :=
  match h with
  | .non => .non
  | .bl b => .bl b
  | .int i => .int i
  | .str x => .str x
  | .lst _ _ => by simp [noL] at n
  | .tup a b => .tup (t.sqt a) (DpAll.tps t b (by simpa [noL] using n))
theorem DpAll.tps {K : PySem.W.Frag} {H H' : Hp} (t : Tps H H') {vs : List V} {ds : List PyData} (h : DpAll K H vs ds) (n : noLs ds = true) : DpAll K H' vs ds :=
  match h with
  | .nil => .nil
  | .cons a b => by
    simp only [noLs, Bool.and_eq_true] at n
    exact .cons (Dp.tps t a n.1) (DpAll.tps t b n.2)
end
end L2
namespace Aon
open PySem L2
theorem noLs_all : ∀ {ds : List PyData}, (∀ d ∈ ds, noL d = true) → noLs ds = true
  | [], _ => rfl
  | d :: r, h => by
    simp only [noLs, Bool.and_eq_true]
    exact ⟨h d List.mem_cons_self, noLs_all fun x hx => h x (List.mem_cons_of_mem _ hx)⟩
theorem noLs_map {α : Type} {f : α → PyData} (h : ∀ x, noL (f x) = true) (l : List α) : noLs (l.map f) = true := noLs_all fun d hd => by
  obtain ⟨x, _, rfl⟩ := List.mem_map.mp hd
  exact h x
theorem noL_ex (e : Ex) : noL (exD e) = true := by
  simp only [exD, noL, noLs, Bool.true_and, Bool.and_true]
  exact noLs_map (fun _ => rfl) _
theorem noL_nm (ns : List Str) : noL (nmD ns) = true := noLs_map (fun _ => rfl) ns
theorem noL_arg : ∀ a, noL (argD a) = true
  | .place n => rfl
  | .value e => by simp only [argD, noL, noLs, noL_ex]; rfl
theorem noL_cal (c : Cal) : noL (calD c) = true := by
  simp only [calD, noL, noLs, Bool.true_and, Bool.and_true]
  exact noLs_map noL_arg _
mutual
theorem noL_st : ∀ s : St, noL (stD s) = true
  | .set t e => by simp only [stD, noL, noLs, noL_ex, Bool.and_true]
  | .input t => rfl
  | .call t f as => by
    have h : noL (optD t) = true := by cases t <;> rfl
    simp only [stD, noL, noLs, h, noLs_map noL_arg, Bool.and_true]
  | .risk ks => by simp only [stD, noL, noLs, noL_nm, Bool.and_true]
  | .raise k => rfl
  | .ret e => by simp only [stD, noL, noLs, noL_ex, Bool.and_true]
  | .ite a b => by simp only [stD, noL, noLs, noL_sts a, noL_sts b, Bool.and_true]
  | .whl b => by simp only [stD, noL, noLs, noL_sts b, Bool.and_true]
  | .try_ b hs f => by simp only [stD, noL, noLs, noL_sts b, noL_hds hs, noL_sts f, Bool.and_true]
  | .undo ns b => by simp only [stD, noL, noLs, noL_nm, noL_sts b, Bool.and_true]
  | .with_ e l ks b => by simp only [stD, noL, noLs, noL_cal, noL_nm, noL_sts b, Bool.and_true]
theorem noL_sts : ∀ b : List St, noLs (stsD b) = true
  | [] => rfl
  | s :: r => by simp only [stsD, noLs, noL_st s, noL_sts r, Bool.and_true]
theorem noL_hd : ∀ h : Hd, noL (hdD h) = true
  | .mk ks b => by simp only [hdD, noL, noLs, noL_nm, noL_sts b, Bool.and_true]
theorem noL_hds : ∀ hs : List Hd, noLs (hdsD hs) = true
  | [] => rfl
  | h :: r => by simp only [hdsD, noLs, noL_hd h, noL_hds r, Bool.and_true]
end
theorem noL_bl (b : List St) : noL (blD b) = true := by simp only [blD, noL]; exact noL_sts b
/-! numbered, numbered_parts, all_numbered -/
abbrev sNumb : Stmt := topS 16
abbrev NNumb : List Str := ["block", "first", "found", "number", "statement", "part"]
abbrev PNumb : List Str := ["block", "first"]
theorem scNumb : FnScope NNumb PNumb (defScope sNumb) := ⟨rfl, rfl, rfl, by decide +kernel, rfl, by decide +kernel, by decide +kernel⟩
abbrev sNPar : Stmt := topS 17
abbrev NNPar : List Str := ["statement", "number", "found", "first", "part"]
abbrev PNPar : List Str := ["statement", "number"]
theorem scNPar : FnScope NNPar PNPar (defScope sNPar) := ⟨rfl, rfl, rfl, by decide +kernel, rfl, by decide +kernel, by decide +kernel⟩
abbrev sAllN : Stmt := topS 18
abbrev NAllN : List Str := ["block", "first", "found", "number", "statement", "inner", "part"]
abbrev PAllN : List Str := ["block", "first"]
theorem scAllN : FnScope NAllN PAllN (defScope sAllN) := ⟨rfl, rfl, rfl, by decide +kernel, rfl, by decide +kernel, by decide +kernel⟩
def NumAt (K : PySem.W.Frag) (H : Hp) (x : V) (p : Nat × St) : Prop := ∃ a w, x = .ref a ∧ SqT K H a [.int (p.1 : Int), w] ∧ Dp K H w (stD p.2)
def NParAt (K : PySem.W.Frag) (H : Hp) (x : V) (p : Nat × List St) : Prop := ∃ a w, x = .ref a ∧ SqT K H a [.int (p.1 : Int), w] ∧ Dp K H w (blD p.2)
theorem NumAt.tps {K : PySem.W.Frag} {H H' : Hp} (t : Tps H H') {x : V} {p : Nat × St} (h : NumAt K H x p) : NumAt K H' x p := let ⟨a, w, e, q, d⟩ := h; ⟨a, w, e, t.sqt q, d.tps t (noL_st _)⟩
theorem NParAt.tps {K : PySem.W.Frag} {H H' : Hp} (t : Tps H H') {x : V} {p : Nat × List St} (h : NParAt K H x p) : NParAt K H' x p := let ⟨a, w, e, q, d⟩ := h; ⟨a, w, e, t.sqt q, d.tps t (noL_bl _)⟩
def spNumb (K : PySem.W.Frag) (n : Nat) : Sp := fun vs H Q _ => ∃ (v : V) (b : List St) (i : Nat), vs = [v, .int (i : Int)] ∧ Dp K H v (blD b) ∧ dpB b ≤ n + 1 ∧ okB b ∧ ∀ (q : Addr) (xs : List V) (H' : Hp), Same H H' → H q = none → H' q = some (.lst xs) → Paired (NumAt K H') xs (numb b i) → Q (.ref q) H'
def spNPar (K : PySem.W.Frag) (n : Nat) : Sp := fun vs H Q _ => ∃ (v : V) (st : St) (i : Nat), vs = [v, .int (i : Int)] ∧ Dp K H v (stD st) ∧ dpS st ≤ n ∧ okS st ∧ ∀ (q : Addr) (xs : List V) (H' : Hp), Same H H' → H q = none → H' q = some (.lst xs) → Paired (NParAt K H') xs (nparts (parts st) (i + 1)) → Q (.ref q) H'
theorem numb_len : ∀ (b : List St) (i : Nat), (numb b i).length = b.length
  | [], _ => rfl
  | s :: r, i => by show (numb r _).length + 1 = r.length + 1; rw [numb_len r]
section
variable {P : Program} {w : World} {K : PySem.W.Frag} {mg : Str → Option Value} {base : Heap}
theorem ok_NPar {n : Nat} {f : Addr} {fd : FuncData} (F : Fun K "numbered_parts" "numbered_parts" sNPar f fd) (GP : Has P w K mg base CX0 1 "parts_of" PParts (spParts K)) (GS : Has P w K mg base CX0 (2 + n) "size_of" PSize (spSize K n)) : FnOk P w K mg base CX0 (3 + n) f fd PNPar (spNPar K n) := by
  have FF := F
  rw [show 3 + n = (2 + n) + 1 by omega]
  refine F.ok scNPar (fun vs H Q E h => ?_) (fun cdv A outer s H vs Q E hr h => ?_)
  · obtain ⟨v, st, i, rfl, _⟩ := h
    rfl
  · obtain ⟨v, st, i, rfl, hv, hn, oks, k⟩ := h
    have hr1 := hr.mono (j := 1) (show 1 ≤ 2 + n by omega)
    refine ⟨_, (pss_cons (ps_set (i := 2) scNPar.nd rfl (Or.inl rfl) (pe_lst pa_nil))
  (pss_cons (ps_set (i := 3) scNPar.nd rfl (Or.inl rfl) (pe_op op_add (pv 1) pe_int))
  (pss_cons (ps_for PassesOwn.never rfl (pi_tup (pe_callH GP hr1 rfl pass0 (pa_cons (pv 0) pa_nil))) (pg_name (i := 4) scNPar.nd rfl (Or.inl rfl))
  (pss_cons (ps_expr (pe_bm PySem.F.plainAttrs_list PySem.F.slot_list_append PySem.F.type_list_append mt_append (pv 2) (pa_cons (pe_tup (pa_cons (pv 3) (pa_cons (pv 4) pa_nil))) pa_nil)))
  (pss_one (ps_aug (i := 3) scNPar.nd rfl (Or.inl rfl) (pe_callH GS hr rfl pass0 (pa_cons (pv 4) pa_nil)) ip_add))))
  (pss_one (ps_ret (pv 2)))))), ?_⟩
    refine ⟨(by show 0 ≤ sizeLine; decide), fun q hq => ?_⟩
    have s1 := same_new (o := .lst []) hq
    refine ⟨_, rfl, _, _, rfl, rfl, _, rfl, v, st, rfl, hv.same s1, okS_few oks, fun t ts H2 s2 e2 p2 => ?_⟩
    have t2 := s1.trans s2
    have lt : ts.length ≤ 902 := by rw [Paired.length p2]; exact parts_len oks
    refine ⟨t, rfl, ⟨_, SqT.of e2⟩, ?_⟩
    refine for_tup (K := K) (a := t) (xs := ts) (fun j σ H' => ∃ x4 : Option V, σ = [some v, some (.int (i : Int)), some (.ref q), some (.int ((i + 1 + (((parts st).take j).map szB).sum : Nat) : Int)), x4] ∧ Same H H' ∧ Tps H2 H' ∧ ∃ ys, H' q = some (.lst ys) ∧ ys.length = j ∧ Paired (NParAt K H') ys (nparts ((parts st).take j) (i + 1))) ⟨_, rfl, t2, Tps.refl, [], s2 _ _ upd_same, rfl, .nil⟩ (fun j σ H' _ h' => by obtain ⟨_, _, _, t', _⟩ := h'; exact t'.sqt (SqT.of e2)) ?_ ?_
    · rintro j x σ H3 hx ⟨x4, rfl, s3, t3, ys, eq, ly, py⟩
      obtain ⟨p, hp, hpd⟩ := Paired.at p2 hx
      have hj : j < ts.length := (List.getElem?_eq_some_iff.mp hx).1
      have mp := List.mem_of_getElem? hp
      have hdp := dp_part mp
      have hpd3 := hpd.tps t3 (noL_bl p)
      refine ⟨_, rfl, .inl ⟨rfl, _, SqL.of eq⟩, _, rfl, _, rfl, (by show 2 ≤ sizeLine; decide), fun u hu => ?_⟩
      have s4 := same_new (o := .tup [.int ((i + 1 + (((parts st).take j).map szB).sum : Nat) : Int), x]) hu
      have qu := ne_of_none eq hu
      have eq4 := s4 _ _ eq
      refine ⟨q, _, _, rfl, rfl, eq4, small1000 (by omega), ?_⟩
      have t5 : Tps H3 (upd (upd H3 u (.tup [.int ((i + 1 + (((parts st).take j).map szB).sum : Nat) : Int), x])) q (.lst (ys ++ [.ref u]))) := (Tps.of s4).trans (Tps.lst eq4)
      have s5 : Same H (upd (upd H3 u (.tup [.int ((i + 1 + (((parts st).take j).map szB).sum : Nat) : Int), x])) q (.lst (ys ++ [.ref u]))) := fun c o z => by
        rw [upd_ne (ne_of_none z hq)]
        exact s4 _ _ (s3 _ _ z)
      refine ⟨_, rfl, _, rfl, x, p, rfl, hpd3.tps t5 (noL_bl p), by omega, okS_parts oks mp, fun H6 s6 => ?_⟩
      have t6 := t5.trans (Tps.of s6)
      refine ⟨_, _, rfl, rfl, some x, ?_, s5.trans s6, t3.trans t6, _, s6 _ _ upd_same, by rw [List.length_append, ly]; rfl, ?_⟩
      · rw [take_snoc hp, List.map_append, List.sum_append]
        have e : ((i + 1 + (((parts st).take j).map szB).sum : Nat) : Int) + ((szB p : Nat) : Int) = ((i + 1 + ((((parts st).take j).map szB).sum + ([p].map szB).sum) : Nat) : Int) := by
          show _ = ((i + 1 + ((((parts st).take j).map szB).sum + (szB p + 0)) : Nat) : Int)
          omega
        rw [← e]
        rfl
      · rw [nparts_take hp]
        refine Paired.snoc (Paired.mapP py fun _ _ z => z.tps t6) ⟨u, x, rfl, ((Tps.lst (q := q) (o := .lst (ys ++ [.ref u])) eq4).trans (Tps.of s6)).sqt (SqT.of upd_same), hpd3.tps t6 (noL_bl p)⟩
    · rintro σ H3 ⟨x4, rfl, s3, t3, ys, eq, ly, py⟩
      rw [Paired.length p2, List.take_length] at py
      exact ⟨_, rfl, k q ys H3 s3 hq eq py⟩
theorem ok_Numb {n : Nat} {f : Addr} {fd : FuncData} (F : Fun K "numbered" "numbered" sNumb f fd) (T : TxTree mg) (GP : Has P w K mg base CX0 1 "parts_of" PParts (spParts K)) (GS : Has P w K mg base CX0 (2 + n) "size_of" PSize (spSize K n)) : FnOk P w K mg base CX0 (3 + n) f fd PNumb (spNumb K n) := by
  rw [show 3 + n = (2 + n) + 1 by omega]
  refine F.ok scNumb (fun vs H Q E h => ?_) (fun cdv A outer s H vs Q E hr h => ?_)
  · obtain ⟨v, b, i, rfl, _⟩ := h
    rfl
  · obtain ⟨v, b, i, rfl, hv, hn, ok, k⟩ := h
    have hr1 := hr.mono (j := 1) (show 1 ≤ 2 + n by omega)
    refine ⟨_, (pss_cons (ps_set (i := 2) scNumb.nd rfl (Or.inl rfl) (pe_lst pa_nil))
  (pss_cons (ps_set (i := 3) scNumb.nd rfl (Or.inl rfl) (pv 1))
  (pss_cons (ps_for PassesOwn.never rfl (pi_tup (pv 0)) (pg_name (i := 4) scNumb.nd rfl (Or.inl rfl))
  (pss_cons (ps_expr (pe_bm PySem.F.plainAttrs_list PySem.F.slot_list_append PySem.F.type_list_append mt_append (pv 2) (pa_cons (pe_tup (pa_cons (pv 3) (pa_cons (pv 4) pa_nil))) pa_nil)))
  (pss_one (ps_aug (i := 3) scNumb.nd rfl (Or.inl rfl) (pe_op op_add pe_int (pe_callB (cr_sum rfl) (by rfl) T.n_sum bb_sum (pa_cons (pe_lc (own := [("part", 5)]) (g := gName 5) (tt := tYes) rfl scNumb.nd (pi_tup (pe_callH GP hr1 rfl pass0 (pa_cons (pv 4) pa_nil))) (blkOk_by (own := [("part", 5)]) (N := NNumb) (sc := (defScope sNumb)) (by decide +kernel)) (fun _ _ _ _ _ => (pg_name (i := 5) scNumb.nd rfl (Or.inl rfl))) (fun _ _ _ _ _ => pts_nil) (fun _ _ _ _ _ => (pe_callH GS hr rfl pass0 (pa_cons (pv 5) pa_nil)))) pa_nil))) ip_add))))
  (pss_one (ps_ret (pv 2)))))), ?_⟩
    obtain ⟨a, xs, rfl, hq0, hd⟩ := hv.tupInv
    rw [stsD_map] at hd
    have pb := hd.map
    have lx : xs.length = b.length := Paired.length pb
    have ok1 : b.length ≤ 900 := ok.1
    refine ⟨(by show 0 ≤ sizeLine; decide), fun q hq => ?_⟩
    have s1 := same_new (o := .lst []) hq
    refine ⟨_, rfl, _, rfl, a, rfl, ⟨_, SqT.same s1 hq0⟩, ?_⟩
    refine for_tup (K := K) (a := a) (xs := xs) (fun j σ H' => ∃ x4 : Option V, σ = [some (.ref a), some (.int (i : Int)), some (.ref q), some (.int ((i + szB (b.take j) : Nat) : Int)), x4, none] ∧ Same H H' ∧ Tps H H' ∧ ∃ ys, H' q = some (.lst ys) ∧ ys.length = j ∧ Paired (NumAt K H') ys (numb (b.take j) i)) ⟨_, rfl, s1, Tps.of s1, [], upd_same, rfl, .nil⟩ (fun j σ H' _ h' => by obtain ⟨_, _, _, t', _⟩ := h'; exact t'.sqt hq0) ?_ ?_
    · rintro j x σ H3 hx ⟨x4, rfl, s3, t3, ys, eq, ly, py⟩
      obtain ⟨st, hst, hsd⟩ := Paired.at pb hx
      have hj : j < xs.length := (List.getElem?_eq_some_iff.mp hx).1
      have ms := List.mem_of_getElem? hst
      have oks := okL_mem ok.2 ms
      have hsd3 := hsd.tps t3 (noL_st st)
      refine ⟨_, rfl, .inl ⟨rfl, _, SqL.of eq⟩, _, rfl, _, rfl, (by show 2 ≤ sizeLine; decide), fun u hu => ?_⟩
      have s4 := same_new (o := .tup [.int ((i + szB (b.take j) : Nat) : Int), x]) hu
      have qu := ne_of_none eq hu
      have eq4 := s4 _ _ eq
      refine ⟨q, _, _, rfl, rfl, eq4, small1000 (by omega), ?_⟩
      obtain ⟨H5, eH5⟩ : ∃ H5, H5 = upd (upd H3 u (.tup [.int ((i + szB (b.take j) : Nat) : Int), x])) q (.lst (ys ++ [.ref u])) := ⟨_, rfl⟩
      rw [← eH5]
      have tq : Tps (upd H3 u (.tup [.int ((i + szB (b.take j) : Nat) : Int), x])) H5 := by rw [eH5]; exact Tps.lst eq4
      have t5 : Tps H3 H5 := (Tps.of s4).trans tq
      have s5 : Same H H5 := fun c o z => by
        rw [eH5, upd_ne (ne_of_none z hq)]
        exact s4 _ _ (s3 _ _ z)
      have eq5 : H5 q = some (.lst (ys ++ [.ref u])) := by rw [eH5, upd_same]
      refine ⟨_, rfl, _, rfl, x, st, rfl, hsd3.tps t5 (noL_st st), okS_few oks, fun t ts H6 s6 e6 p6 => ?_⟩
      have lt : ts.length ≤ 902 := by rw [Paired.length p6]; exact parts_len oks
      refine ⟨t, rfl, ⟨_, SqT.of e6⟩, fun D hD => ?_⟩
      refine lc_tup (K := K) (a := t) (xs := ts) (fun i H' => Same H6 H' ∧ H' D = some (.lst ((((parts st).take i).map fun p => ((szB p : Nat) : Int)).map V.int))) ⟨same_new hD, upd_same⟩ (fun i H' _ h' => SqT.of (h'.1 _ _ e6)) ?_ ?_
      · rintro m y H7 hy ⟨s7, eD⟩
        obtain ⟨p, hp, hpd⟩ := Paired.at p6 hy
        have hm : m < ts.length := (List.getElem?_eq_some_iff.mp hy).1
        have mp := List.mem_of_getElem? hp
        have hdp := dp_lt ms mp
        refine ⟨rfl, _, rfl, y, p, rfl, hpd.same s7, by omega, okS_parts oks mp, fun H8 s8 => ?_⟩
        refine ⟨_, s8 _ _ eD, small1000 (by rw [List.length_map, List.length_map, List.length_take]; omega), fun c o z => ?_, ?_⟩
        · rw [upd_ne (ne_of_none z hD)]
          exact s8 _ _ (s7 _ _ z)
        · rw [upd_same, take_snoc hp, List.map_append, List.map_append]
          rfl
      · rintro H7 ⟨s7, eD⟩
        rw [Paired.length p6, List.take_length] at eD
        refine ⟨D, _, rfl, SqL.of eD, ?_⟩
        have esum : ((parts st).map fun p => ((szB p : Nat) : Int)).sum = ((szS st : Nat) : Int) := by
          rw [← sz_parts st]
          induction parts st with
          | nil => rfl
          | cons p r ih =>
            rw [List.map_cons, List.sum_cons, ih, List.map_cons, List.sum_cons]
            omega
        rw [esum]
        have e : ((i + szB (b.take j) : Nat) : Int) + (1 + ((szS st : Nat) : Int)) = ((i + szB (b.take (j + 1)) : Nat) : Int) := by rw [szB_take hst]; omega
        have s57 := s6.trans s7
        refine ⟨_, _, rfl, rfl, _, _, rfl, rfl, some x, by rw [← e]; rfl, s5.trans s57, t3.trans (t5.trans (Tps.of s57)), _, s57 _ _ eq5, by rw [List.length_append, ly]; rfl, ?_⟩
        rw [numb_take hst]
        exact Paired.snoc (Paired.mapP py fun _ _ z => z.tps (t5.trans (Tps.of s57))) ⟨u, x, rfl, (tq.trans (Tps.of s57)).sqt (SqT.of upd_same), hsd3.tps (t5.trans (Tps.of s57)) (noL_st st)⟩
    · rintro σ H3 ⟨x4, rfl, s3, t3, ys, eq, ly, py⟩
      rw [lx, List.take_length] at py
      exact ⟨_, rfl, k q ys H3 s3 hq eq py⟩
end

/-! all_numbered -/
mutual
theorem allS_len : ∀ (s : St) (n : Nat), (allS s n).length = szS s
  | .ite a b, n => by simp only [allS, szS, List.length_append, allB_len a, allB_len b]
  | .whl b, n => by simp only [allS, szS, allB_len b]
  | .try_ b hs f, n => by simp only [allS, szS, List.length_append, allB_len b, allHs_len hs, allB_len f]
  | .undo _ b, n => by simp only [allS, szS, allB_len b]
  | .with_ _ _ _ b, n => by simp only [allS, szS, allB_len b]
  | .set _ _, _ => rfl | .input _, _ => rfl | .call _ _ _, _ => rfl | .risk _, _ => rfl | .raise _, _ => rfl | .ret _, _ => rfl
theorem allB_len : ∀ (b : List St) (n : Nat), (allB b n).length = szB b
  | [], _ => rfl
  | s :: r, n => by simp only [allB, szB, List.length_cons, List.length_append, allS_len s, allB_len r]; omega
theorem allH_len : ∀ (h : Hd) (n : Nat), (allH h n).length = szH h
  | .mk _ b, n => by simp only [allH, szH, allB_len b]
theorem allHs_len : ∀ (hs : List Hd) (n : Nat), (allHs hs n).length = szHs hs
  | [], _ => rfl
  | h :: r, n => by simp only [allHs, szHs, List.length_append, allH_len h, allHs_len r]
end
theorem flat_len {α β : Type} {f : α → List β} {l : List α} (j : Nat) : ((l.take j).flatMap f).length ≤ (l.flatMap f).length := by
  have h : l.flatMap f = (l.take j).flatMap f ++ (l.drop j).flatMap f := by rw [← List.flatMap_append, List.take_append_drop]
  rw [h, List.length_append]
  omega
theorem flat_snoc {α β : Type} {f : α → List β} {l : List α} {j : Nat} {x : α} (h : l[j]? = some x) : (l.take (j + 1)).flatMap f = (l.take j).flatMap f ++ f x := by
  rw [take_snoc h, List.flatMap_append]
  simp
def allF (p : Nat × St) : List (Nat × St) := p :: allS p.2 (p.1 + 1)
theorem allB_flat (b : List St) (n : Nat) : allB b n = (numb b n).flatMap allF := allB_eq b n
def spAllN (K : PySem.W.Frag) (n : Nat) : Sp := fun vs H Q _ => ∃ (v : V) (b : List St) (i : Nat), vs = [v, .int (i : Int)] ∧ Dp K H v (blD b) ∧ dpB b ≤ n ∧ okB b ∧ szB b ≤ 900 ∧ ∀ (q : Addr) (xs : List V) (H' : Hp), Same H H' → H q = none → H' q = some (.lst xs) → Paired (NumAt K H') xs (allB b i) → Q (.ref q) H'
theorem nparts_at : ∀ {ps : List (List St)} {n j : Nat} {p : Nat × List St}, (nparts ps n)[j]? = some p → p.2 ∈ ps
  | x :: r, n, 0, p, h => by simp [nparts] at h; subst h; exact List.mem_cons_self
  | x :: r, n, j + 1, p, h => List.mem_cons_of_mem _ (nparts_at (n := n + szB x) (j := j) (by simpa [nparts] using h))
theorem numb_at : ∀ {b : List St} {n j : Nat} {p : Nat × St}, (numb b n)[j]? = some p → p.2 ∈ b
  | x :: r, n, 0, p, h => by simp [numb] at h; subst h; exact List.mem_cons_self
  | x :: r, n, j + 1, p, h => List.mem_cons_of_mem _ (numb_at (n := n + 1 + szS x) (j := j) (by simpa [numb] using h))
theorem nparts_len : ∀ (ps : List (List St)) (n : Nat), (nparts ps n).length = ps.length
  | [], _ => rfl
  | p :: r, n => by show (nparts r _).length + 1 = r.length + 1; rw [nparts_len r]
theorem szS_mem : ∀ {b : List St} {s : St}, s ∈ b → szS s ≤ szB b
  | x :: r, s, h => by
    show _ ≤ 1 + szS x + szB r
    rcases List.mem_cons.mp h with z | z
    · rw [z]; omega
    · have := szS_mem z; omega
theorem szB_part {s : St} {p : List St} (h : p ∈ parts s) : szB p ≤ szS s := by
  rw [← sz_parts s]
  generalize parts s = l at h
  induction l with
  | nil => cases h
  | cons x r ih =>
    rw [List.map_cons, List.sum_cons]
    rcases List.mem_cons.mp h with z | z
    · rw [z]; omega
    · have := ih z; omega
section
variable {P : Program} {w : World} {K : PySem.W.Frag} {mg : Str → Option Value} {base : Heap}
theorem ok_AllN {f : Addr} {fd : FuncData} (F : Fun K "all_numbered" "all_numbered" sAllN f fd) (GN : ∀ n, Has P w K mg base CX0 (3 + n) "numbered" PNumb (spNumb K n)) (GP : ∀ n, Has P w K mg base CX0 (3 + n) "numbered_parts" PNPar (spNPar K n)) (m : mg "all_numbered" = some (.ref f)) (kp : PySem.W.keepIn K (.ref f) = true) (bd : Binds K fd PAllN []) : ∀ n, FnOk P w K mg base CX0 (4 + n) f fd PAllN (spAllN K n) := by
  intro n
  induction n with
  | zero => exact ⟨fun vs H Q E h => by obtain ⟨_, _, _, _, _, h, _⟩ := h; exact (no_dp h).elim, fun _ _ _ _ _ _ _ _ _ _ _ _ _ h => by obtain ⟨_, _, _, _, _, h, _⟩ := h; exact (no_dp h).elim⟩
  | succ n ih =>
    have GS : Has P w K mg base CX0 (4 + n) "all_numbered" PAllN (spAllN K n) := ⟨f, fd, ih, m, kp, bd⟩
    have GN := GN n
    have GP := GP n
    refine F.ok scAllN (fun vs H Q E h => ?_) (fun cdv A outer s H vs Q E hr h => ?_)
    · obtain ⟨v, b, i, rfl, _⟩ := h
      rfl
    · obtain ⟨v, b, i, rfl, hv, hn, ok, sz, k⟩ := h
      have hr3 := hr.mono (j := 3 + n) (show 3 + n ≤ 4 + n by omega)
      refine ⟨_, (pss_cons (ps_set (i := 2) scAllN.nd rfl (Or.inl rfl) (pe_lst pa_nil))
  (pss_cons (ps_for PassesOwn.never rfl (pi_list (pe_callH GN hr3 rfl pass0 (pa_cons (pv 0) (pa_cons (pv 1) pa_nil)))) (pg_tup (by rfl) (pgs_cons (pg_name (i := 3) scAllN.nd rfl (Or.inl rfl)) (pgs_cons (pg_name (i := 4) scAllN.nd rfl (Or.inl rfl)) pgs_nil)))
  (pss_cons (ps_expr (pe_bm PySem.F.plainAttrs_list PySem.F.slot_list_append PySem.F.type_list_append mt_append (pv 2) (pa_cons (pe_tup (pa_cons (pv 3) (pa_cons (pv 4) pa_nil))) pa_nil)))
  (pss_one (ps_for PassesOwn.never rfl (pi_list (pe_callH GP hr3 rfl pass0 (pa_cons (pv 4) (pa_cons (pv 3) pa_nil)))) (pg_tup (by rfl) (pgs_cons (pg_name (i := 5) scAllN.nd rfl (Or.inl rfl)) (pgs_cons (pg_name (i := 6) scAllN.nd rfl (Or.inl rfl)) pgs_nil)))
  (pss_one (ps_expr (pe_bm PySem.F.plainAttrs_list PySem.F.slot_list_extend PySem.F.type_list_extend mt_extend (pv 2) (pa_cons (pe_callH GS hr rfl pass0 (pa_cons (pv 6) (pa_cons (pv 5) pa_nil))) pa_nil))))))))
  (pss_one (ps_ret (pv 2))))), ?_⟩
      refine ⟨(by show 0 ≤ sizeLine; decide), fun q hq => ?_⟩
      have s1 := same_new (o := .lst []) hq
      refine ⟨_, rfl, _, rfl, v, b, i, rfl, hv.same s1, by omega, ok, fun L xs H2 s2 fL eL pL => ?_⟩
      have t2 := s1.trans s2
      have tot : ((numb b i).flatMap allF).length ≤ 900 := by rw [← allB_flat, allB_len]; exact sz
      have qL : q ≠ L := ne_of_none upd_same fL
      refine ⟨L, rfl, ⟨_, SqL.of eL⟩, ?_⟩
      refine for_list (K := K) (a := L) (xs := xs) (fun j σ H' => ∃ x3 x4 x5 x6 : Option V, σ = [some v, some (.int (i : Int)), some (.ref q), x3, x4, x5, x6] ∧ Same H H' ∧ Tps H2 H' ∧ H' L = some (.lst xs) ∧ ∃ ys, H' q = some (.lst ys) ∧ Paired (NumAt K H') ys (((numb b i).take j).flatMap allF)) ⟨_, _, _, _, rfl, t2, Tps.refl, eL, [], s2 _ _ upd_same, .nil⟩ (fun j σ H' _ h' => by obtain ⟨_, _, _, _, _, _, _, z, _⟩ := h'; exact SqL.of z) ?_ ?_
      · rintro j x σ H3 hx ⟨x3, x4, x5, x6, rfl, s3, t3, eL3, ys, eq, py⟩
        obtain ⟨⟨num, st⟩, hp, hpd⟩ := Paired.at pL hx
        obtain ⟨a, u, rfl, hqa, hd⟩ := hpd.tps t3
        have ms : st ∈ b := numb_at hp
        have oks := okL_mem ok.2 ms
        have dps := dp_mem ms
        have dbe := dpB_eq b
        have ly : ys.length ≤ 900 := by rw [Paired.length py]; exact Nat.le_trans (flat_len j) tot
        have lall := flat_len (f := allF) (l := numb b i) (j + 1)
        rw [flat_snoc hp, List.length_append] at lall
        have lF : (allF (num, st)).length = szS st + 1 := by show (allS st (num + 1)).length + 1 = _; rw [allS_len]
        rw [lF, ← Paired.length py] at lall
        refine ⟨a, _, rfl, hqa, rfl, _, _, rfl, _, _, rfl, rfl, ?_⟩
        refine ⟨_, rfl, .inl ⟨rfl, _, SqL.of eq⟩, _, rfl, _, rfl, (by show 2 ≤ sizeLine; decide), fun c hc => ?_⟩
        have s4 := same_new (o := .tup [.int (num : Int), u]) hc
        have eq4 := s4 _ _ eq
        refine ⟨q, _, _, rfl, rfl, eq4, small1000 (by omega), ?_⟩
        obtain ⟨H5, eH5⟩ : ∃ H5, H5 = upd (upd H3 c (.tup [.int (num : Int), u])) q (.lst (ys ++ [.ref c])) := ⟨_, rfl⟩
        rw [← eH5]
        have tq : Tps (upd H3 c (.tup [.int (num : Int), u])) H5 := by rw [eH5]; exact Tps.lst eq4
        have t5 : Tps H3 H5 := (Tps.of s4).trans tq
        have s5 : Same H H5 := fun c o z => by
          rw [eH5, upd_ne (ne_of_none z hq)]
          exact s4 _ _ (s3 _ _ z)
        have eq5 : H5 q = some (.lst (ys ++ [.ref c])) := by rw [eH5, upd_same]
        have eL5 : H5 L = some (.lst xs) := by rw [eH5, upd_ne qL.symm]; exact s4 _ _ eL3
        have nc : NumAt K H5 (.ref c) (num, st) := ⟨c, u, rfl, tq.sqt (SqT.of upd_same), hd.tps t5 (noL_st st)⟩
        have py5 : Paired (NumAt K H5) (ys ++ [.ref c]) (((numb b i).take j).flatMap allF ++ [(num, st)]) := Paired.snoc (Paired.mapP py fun _ _ z => z.tps t5) nc
        refine ⟨_, rfl, _, rfl, u, st, num, rfl, hd.tps t5 (noL_st st), by omega, oks, fun M zs H6 s6 fM eM pM => ?_⟩
        have qM : q ≠ M := ne_of_none eq5 fM
        have LM : L ≠ M := ne_of_none eL5 fM
        refine ⟨M, rfl, ⟨_, SqL.of eM⟩, ?_⟩
        have lz : zs.length ≤ 902 := by rw [Paired.length pM, nparts_len]; exact parts_len oks
        refine for_list (K := K) (a := M) (xs := zs) (fun k σ H' => ∃ x5 x6 : Option V, σ = [some v, some (.int (i : Int)), some (.ref q), some (.int (num : Int)), some u, x5, x6] ∧ Same H H' ∧ Tps H6 H' ∧ H' L = some (.lst xs) ∧ H' M = some (.lst zs) ∧ ∃ ws, H' q = some (.lst ws) ∧ Paired (NumAt K H') ws (((numb b i).take j).flatMap allF ++ (num, st) :: allP ((nparts (parts st) (num + 1)).take k))) ⟨_, _, rfl, s5.trans s6, Tps.refl, s6 _ _ eL5, eM, _, s6 _ _ eq5, Paired.mapP py5 fun _ _ z => z.tps (Tps.of s6)⟩ (fun k σ H' _ h' => by obtain ⟨_, _, _, _, _, _, z, _⟩ := h'; exact SqL.of z) ?_ ?_
        · rintro k' y σ H7 hy ⟨x5, x6, rfl, s7, t7, eL7, eM7, ws, eq7, pw⟩
          obtain ⟨⟨inn, p⟩, hpp, hppd⟩ := Paired.at pM hy
          obtain ⟨a2, u2, rfl, hqa2, hd2⟩ := hppd.tps t7
          have mp : p ∈ parts st := nparts_at hpp
          have dpp := dp_part mp
          have szp := szB_part mp
          have szs := szS_mem ms
          refine ⟨a2, _, rfl, hqa2, rfl, _, _, rfl, _, _, rfl, rfl, ?_⟩
          have lw := flat_len (f := fun p : Nat × List St => allB p.2 p.1) (l := nparts (parts st) (num + 1)) (k' + 1)
          have ltot : ((nparts (parts st) (num + 1)).flatMap fun p : Nat × List St => allB p.2 p.1).length = szS st := by
            have := congrArg List.length (allP_parts st (num + 1))
            rw [allS_len] at this
            exact this
          rw [flat_snoc hpp, List.length_append, allB_len, ltot] at lw
          have lws : ws.length = ys.length + (1 + ((nparts (parts st) (num + 1)).take k' |>.flatMap fun p : Nat × List St => allB p.2 p.1).length) := by
            rw [Paired.length pw, List.length_append, List.length_cons, ← Paired.length py]
            unfold allP
            omega
          refine ⟨_, rfl, .inl ⟨rfl, _, SqL.of eq7⟩, _, rfl, _, rfl, u2, p, inn, rfl, hd2, by omega, okS_parts oks mp, by omega, fun N rs H8 s8 fN eN pN => ?_⟩
          have eq8 := s8 _ _ eq7
          have qN : q ≠ N := ne_of_none eq7 fN
          have lr : rs.length = szB p := by rw [Paired.length pN, allB_len]
          refine ⟨q, N, _, _, rfl, rfl, eq8, eN, Nat.le_of_lt (small1000 (by simp only at lw; omega)), ?_⟩
          have t9 : Tps H8 (upd H8 q (.lst (ws ++ rs))) := Tps.lst eq8
          have t79 := (Tps.of s8).trans t9
          refine ⟨_, _, rfl, fun c o z => ?_, t7.trans t79, by rw [upd_ne qL.symm]; exact s8 _ _ eL7, by rw [upd_ne qM.symm]; exact s8 _ _ eM7, _, upd_same, ?_⟩
          · rw [upd_ne (ne_of_none z hq)]
            exact s8 _ _ (s7 _ _ z)
          · have e : ((numb b i).take j).flatMap allF ++ (num, st) :: allP ((nparts (parts st) (num + 1)).take (k' + 1)) = (((numb b i).take j).flatMap allF ++ (num, st) :: allP ((nparts (parts st) (num + 1)).take k')) ++ allB p inn := by
              unfold allP
              rw [flat_snoc hpp, List.append_assoc]
              rfl
            rw [e]
            exact Paired.app (Paired.mapP pw fun _ _ z => z.tps t79) (Paired.mapP pN fun _ _ z => z.tps t9)
        · rintro σ H7 ⟨x5, x6, rfl, s7, t7, eL7, eM7, ws, eq7, pw⟩
          rw [Paired.length pM, List.take_length, allP_parts] at pw
          refine ⟨_, _, _, _, rfl, s7, t3.trans (t5.trans ((Tps.of s6).trans t7)), eL7, ws, eq7, ?_⟩
          rw [flat_snoc hp]
          exact pw
      · rintro σ H3 ⟨x3, x4, x5, x6, rfl, s3, t3, eL3, ys, eq, py⟩
        rw [Paired.length pL, List.take_length, ← allB_flat] at py
        exact ⟨_, rfl, k q ys H3 s3 hq eq py⟩
end

/-! ### the shape of a tree: is_pair, is_row_of_names -/
structure TxShape (mg : Str → Option Value) : Prop where
  n_isinstance : mg "isinstance" = none
  n_tuple : mg "tuple" = none
  n_str : mg "str" = none
  n_bool : mg "bool" = none
  n_len : mg "len" = none
  n_all : mg "all" = none
  n_zip : mg "zip" = none
abbrev sIsPair : Stmt := topS 40
abbrev NIsPair : List Str := ["value"]
abbrev PIsPair : List Str := ["value"]
theorem scIsPair : FnScope NIsPair PIsPair (defScope sIsPair) := ⟨rfl, rfl, rfl, by decide +kernel, rfl, by decide +kernel, by decide +kernel⟩
abbrev sRowN : Stmt := topS 39
abbrev NRowN : List Str := ["value", "one"]
abbrev PRowN : List Str := ["value"]
theorem scRowN : FnScope NRowN PRowN (defScope sRowN) := ⟨rfl, rfl, rfl, by decide +kernel, rfl, by decide +kernel, by decide +kernel⟩
def spIsPair (K : PySem.W.Frag) : Sp := fun vs H Q _ => ∃ (a : Addr) (xs : List V), vs = [.ref a] ∧ SqT K H a xs ∧ Q (.bl (decide (xs.length = 2))) H
def spRowN (K : PySem.W.Frag) : Sp := fun vs H Q _ => ∃ (v : V) (ns : List Str), vs = [v] ∧ Dp K H v (nmD ns) ∧ okNs ns ∧ ∀ H', Same H H' → Q (.bl true) H'
section
variable {P : Program} {w : World} {K : PySem.W.Frag} {mg : Str → Option Value} {base : Heap}
theorem ok_IsPair {f : Addr} {fd : FuncData} (F : Fun K "is_pair" "is_pair" sIsPair f fd) (T : TxShape mg) : FnOk P w K mg base CX0 1 f fd PIsPair (spIsPair K) := by
  refine F.ok scIsPair (fun vs H Q E h => ?_) (fun cdv A outer s H vs Q E hr h => ?_)
  · obtain ⟨a, xs, rfl, _⟩ := h
    rfl
  · obtain ⟨a, xs, rfl, hq, k⟩ := h
    refine ⟨_, (pss_one (ps_ret (pe_and (pe_callB call_isi (by rfl) T.n_isinstance bb_isinstance (pa_cons (pv 0) (pa_cons (pe_bltn (v := .ty "tuple") (by rfl) T.n_tuple bb_tuple rfl) pa_nil))) (pe_one (pe_cmpR op_eq (pe_callB call_len_seq (by rfl) T.n_len bb_len (pa_cons (pv 0) pa_nil)) pe_int (nomark _)))))), ?_⟩
    refine ⟨_, rfl, _, _, _, _, _, rfl, .ty _, ty_tup hq, kit_ty (r := true) (by decide +kernel), _, rfl, iteS rfl ?_⟩
    refine ⟨_, rfl, a, xs, rfl, .inr hq, rfl, ?_⟩
    have e : decide (V.int ((xs.length : Nat) : Int) = V.int 2) = decide (xs.length = 2) := decide_eq_decide.mpr ⟨fun h => by injection h with h; omega, fun h => by rw [h]; rfl⟩
    rw [e]
    exact k
theorem ok_RowN {f : Addr} {fd : FuncData} (F : Fun K "is_row_of_names" "is_row_of_names" sRowN f fd) (T : TxShape mg) (GN : Has P w K mg base CX0 1 "is_name" PIsName (spName K)) : FnOk P w K mg base CX0 2 f fd PRowN (spRowN K) := by
  refine F.ok scRowN (fun vs H Q E h => ?_) (fun cdv A outer s H vs Q E hr h => ?_)
  · obtain ⟨v, ns, rfl, _⟩ := h
    rfl
  · obtain ⟨v, ns, rfl, hv, ok, k⟩ := h
    refine ⟨_, (pss_one (ps_ret (pe_and (pe_callB call_isi (by rfl) T.n_isinstance bb_isinstance (pa_cons (pv 0) (pa_cons (pe_bltn (v := .ty "tuple") (by rfl) T.n_tuple bb_tuple rfl) pa_nil))) (pe_one (pe_callB (cr_all rfl) (by rfl) T.n_all bb_all (pa_cons (pe_lc (own := [("one", 1)]) (g := gName 1) (tt := tYes) rfl scRowN.nd (pi_tup (pv 0)) (blkOk_by (own := [("one", 1)]) (N := NRowN) (sc := (defScope sRowN)) (by decide +kernel)) (fun _ _ _ _ _ => (pg_name (i := 1) scRowN.nd rfl (Or.inl rfl))) (fun _ _ _ _ _ => pts_nil) (fun _ _ _ _ _ => (pe_callH GN hr rfl pass0 (pa_cons (pv 1) pa_nil)))) pa_nil)))))), ?_⟩
    obtain ⟨a, xs, rfl, hq, hd⟩ := hv.tupInv
    have pn := DpAll.map hd
    have ok1 : ns.length ≤ 900 := ok.1
    have lx : xs.length = ns.length := Paired.length pn
    refine ⟨_, rfl, _, _, _, _, _, rfl, .ty _, ty_tup hq, kit_ty (r := true) (by decide +kernel), _, rfl, iteS rfl ?_⟩
    refine ⟨_, rfl, a, rfl, ⟨_, hq⟩, fun D hD => ?_⟩
    refine lc_tup (K := K) (a := a) (xs := xs) (fun i H' => Same H H' ∧ H' D = some (.lst ((List.replicate i true).map V.bl))) ⟨same_new hD, upd_same⟩ (fun i H' _ h' => SqT.same h'.1 hq) ?_ ?_
    · rintro i v H1 hx ⟨s1, e1⟩
      obtain ⟨z, hz, hzd⟩ := Paired.at pn hx
      have hi : i < xs.length := (List.getElem?_eq_some_iff.mp hx).1
      have okz := ok.2 z (List.mem_of_getElem? hz)
      rw [hzd.strInv]
      refine ⟨rfl, _, rfl, _, rfl, .inl ⟨z, rfl, Nat.le_trans okz.2 (by decide), ?_⟩⟩
      rw [okz.1]
      refine ⟨_, e1, small1000 (by rw [List.length_map, List.length_replicate]; omega), fun c o e => ?_, ?_⟩
      · rw [upd_ne (ne_of_none e hD)]
        exact s1 _ _ e
      · rw [upd_same, List.replicate_succ', List.map_append]
        rfl
    · rintro H1 ⟨s1, e1⟩
      refine ⟨D, _, rfl, SqL.of e1, ?_⟩
      rw [show (List.replicate xs.length true).all id = true by rw [List.all_replicate]; split <;> rfl]
      exact k _ s1
end

/-! ### is_integer -/
abbrev sIsInt : Stmt := topS 22
abbrev NIsInt : List Str := ["value"]
abbrev PIsInt : List Str := ["value"]
theorem scIsInt : FnScope NIsInt PIsInt (defScope sIsInt) := ⟨rfl, rfl, rfl, by decide +kernel, rfl, by decide +kernel, by decide +kernel⟩
structure TxInt (mg : Str → Option Value) : Prop where
  n_int : mg "int" = none
  n_bool : mg "bool" = none
  n_isinstance : mg "isinstance" = none
def NoInt (K : PySem.W.Frag) (H : Hp) (v : V) : Prop := ∃ t b, TyX K H v t ∧ PySem.W.kitOne K t (.type "int") = some b ∧ (b = true → PySem.W.kitOne K t (.type "bool") = some true)
def spIsInt (K : PySem.W.Frag) : Sp := fun vs H Q _ => ∃ v, vs = [v] ∧ ((∃ i : Int, v = .int i ∧ Q (.bl true) H) ∨ (NoInt K H v ∧ Q (.bl false) H))
theorem ok_IsInt {P : Program} {w : World} {K : PySem.W.Frag} {mg : Str → Option Value} {base : Heap} {f : Addr} {fd : FuncData} (F : Fun K "is_integer" "is_integer" sIsInt f fd) (T : TxInt mg) : FnOk P w K mg base CX0 1 f fd PIsInt (spIsInt K) := by
  refine F.ok scIsInt (fun vs H Q E h => ?_) (fun cdv A outer s H vs Q E hr h => ?_)
  · obtain ⟨v, rfl, _⟩ := h
    rfl
  · obtain ⟨v, rfl, h⟩ := h
    refine ⟨_, (pss_one (ps_ret (pe_and (pe_callB call_isi (by rfl) T.n_isinstance bb_isinstance (pa_cons (pv 0) (pa_cons (pe_bltn (v := .ty "int") (by rfl) T.n_int bb_int rfl) pa_nil))) (pe_one (pe_not (pe_callB call_isi (by rfl) T.n_isinstance bb_isinstance (pa_cons (pv 0) (pa_cons (pe_bltn (v := .ty "bool") (by rfl) T.n_bool bb_bool rfl) pa_nil)))))))), ?_⟩
    rcases h with ⟨i, rfl, k⟩ | ⟨⟨t, b, ty, k1, k2⟩, k⟩
    · refine ⟨_, rfl, _, _, _, _, _, rfl, .ty _, .base (.int i), kit_ty (r := true) (by decide +kernel), _, rfl, ?_⟩
      exact ⟨_, rfl, _, _, _, _, _, rfl, .ty _, .base (.int i), kit_ty (r := false) (by decide +kernel), _, rfl, k⟩
    · refine ⟨_, rfl, _, _, _, _, _, rfl, .ty _, ty, k1, _, rfl, ?_⟩
      cases b with
      | false => exact k
      | true => exact ⟨_, rfl, _, _, _, _, _, rfl, .ty _, ty, k2 rfl, _, rfl, k⟩

/-! ### is_expression -/
abbrev sIsExp : Stmt := topS 41
abbrev NIsExp : List Str := ["value", "term", "names", "name", "factor", "one", "other"]
abbrev PIsExp : List Str := ["value"]
theorem scIsExp : FnScope NIsExp PIsExp (defScope sIsExp) := ⟨rfl, rfl, rfl, by decide +kernel, rfl, by decide +kernel, by decide +kernel⟩
theorem cut_drop1 {xs : List V} : cutV xs (some 1) none = xs.drop 1 := by
  unfold cutV
  rw [HT.sIx_none, show (1 : Int) = ((1 : Nat) : Int) from rfl, HT.sIx_nat]
  cases xs with
  | nil => rfl
  | cons x r =>
    rw [show min 1 (x :: r).length = 1 by rw [List.length_cons]; omega]
    rw [List.take_of_length_le]
    rw [List.length_drop]
    exact Nat.le_refl _
def spIsExp (K : PySem.W.Frag) : Sp := fun vs H Q _ => ∃ (v : V) (e : Ex), vs = [v] ∧ Dp K H v (exD e) ∧ okEx e ∧ ∀ H', Same H H' → Q (.bl true) H'
section
variable {P : Program} {w : World} {K : PySem.W.Frag} {mg : Str → Option Value} {base : Heap}
theorem ok_IsExp {f : Addr} {fd : FuncData} (F : Fun K "is_expression" "is_expression" sIsExp f fd) (T : TxShape mg) (GN : Has P w K mg base CX0 1 "is_name" PIsName (spName K)) (GI : Has P w K mg base CX0 1 "is_integer" PIsInt (spIsInt K)) (GP : Has P w K mg base CX0 1 "is_pair" PIsPair (spIsPair K)) : FnOk P w K mg base CX0 2 f fd PIsExp (spIsExp K) := by
  refine F.ok scIsExp (fun vs H Q E h => ?_) (fun cdv A outer s H vs Q E hr h => ?_)
  · obtain ⟨v, e, rfl, _⟩ := h
    rfl
  · obtain ⟨v, e, rfl, hv, ok, k⟩ := h
    refine ⟨_, (pss_cons (ps_if (PW.pt (pw_or (pt_not (pt_val (pe_callH GP hr rfl pass0 (pa_cons (pv 0) pa_nil)))) (pw_or (pt_not (pt_val (pe_callH GI hr rfl pass0 (pa_cons (pe_ix (r := rIxT K) ix_tup (pv 0) pe_int (fun _ _ => rfl)) pa_nil)))) (pw_or1 (pt_not (pt_val (pe_callB call_isi (by rfl) T.n_isinstance bb_isinstance (pa_cons (pe_ix (r := rIxT K) ix_tup (pv 0) pe_int (fun _ _ => rfl)) (pa_cons (pe_bltn (v := .ty "tuple") (by rfl) T.n_tuple bb_tuple rfl) pa_nil)))))))))
  (pss_one (ps_ret pe_bl))
  pss_nil)
  (pss_cons (ps_for PassesOwn.never rfl (pi_tup (pe_ix (r := rIxT K) ix_tup (pv 0) pe_int (fun _ _ => rfl))) (pg_name (i := 1) scIsExp.nd rfl (Or.inl rfl))
  (pss_one (ps_if (PW.pt (pw_or (pt_not (pt_val (pe_callH GP hr rfl pass0 (pa_cons (pv 1) pa_nil)))) (pw_or (pt_not (pt_val (pe_callH GN hr rfl pass0 (pa_cons (pe_ix (r := rIxT K) ix_tup (pv 1) pe_int (fun _ _ => rfl)) pa_nil)))) (pw_or (pt_not (pt_val (pe_callH GI hr rfl pass0 (pa_cons (pe_ix (r := rIxT K) ix_tup (pv 1) pe_int (fun _ _ => rfl)) pa_nil)))) (pw_or1 (pt_cmpR op_eq (pe_ix (r := rIxT K) ix_tup (pv 1) pe_int (fun _ _ => rfl)) pe_int (nomark _)))))))
  (pss_one (ps_ret pe_bl))
  pss_nil)))
  (pss_cons (ps_setLc (i := 2) (own := [("name", 3), ("factor", 4)]) (g := gTup K 2 (gCons (gName 3) (gCons (gName 4) gNil))) (tt := tYes) rfl scIsExp.nd rfl rfl (sw_true rfl rfl rfl (by decide +kernel)) (pi_tup (pe_ix (r := rIxT K) ix_tup (pv 0) pe_int (fun _ _ => rfl))) (blkOk_by (own := [("name", 3), ("factor", 4)]) (N := NIsExp) (sc := (defScope sIsExp)) (by decide +kernel)) (fun _ _ _ _ _ => (pg_tup (by rfl) (pgs_cons (pg_name (i := 3) scIsExp.nd rfl (Or.inl rfl)) (pgs_cons (pg_name (i := 4) scIsExp.nd rfl (Or.inl rfl)) pgs_nil)))) (fun _ _ _ _ _ => pts_nil) (fun _ _ _ _ _ => (pv 3)))
  (pss_one (ps_ret (pe_callB (cr_all rfl) (by rfl) T.n_all bb_all (pa_cons (pe_lc (own := [("one", 5), ("other", 6)]) (g := gTup K 2 (gCons (gName 5) (gCons (gName 6) gNil))) (tt := tYes) rfl scIsExp.nd (pi_zip (by rfl) T.n_zip (pa_cons (pv 2) (pa_cons (pe_slice sl_list (pv 2) (po_some pe_int) po_none) pa_nil))) (blkOk_by (own := [("one", 5), ("other", 6)]) (N := NIsExp) (sc := (defScope sIsExp)) (by decide +kernel)) (fun _ _ _ _ _ => (pg_tup (by rfl) (pgs_cons (pg_name (i := 5) scIsExp.nd rfl (Or.inl rfl)) (pgs_cons (pg_name (i := 6) scIsExp.nd rfl (Or.inl rfl)) pgs_nil)))) (fun _ _ _ _ _ => pts_nil) (fun _ _ _ _ _ => (pe_cmpR op_lt_str (pv 5) (pv 6) (nomark _)))) pa_nil))))))), ?_⟩
    obtain ⟨a, xs, rfl, hq, hd⟩ := hv.tupInv
    obtain ⟨x, y, rfl, hx, hy⟩ := hd.two
    obtain ⟨b, ys, rfl, hb, hyd⟩ := hy.tupInv
    have pt := DpAll.map hyd
    have ok1 : e.ts.length ≤ 900 := ok.1
    have ly : ys.length = e.ts.length := Paired.length pt
    rw [hx.intInv] at hq
    refine ⟨_, rfl, a, _, rfl, hq, _, rfl, iteE rfl ?_⟩
    refine ⟨_, rfl, a, _, _, _, rfl, rfl, hq, rfl, _, rfl, .inl ⟨_, rfl, _, rfl, iteE rfl ?_⟩⟩
    refine ⟨_, rfl, a, _, _, _, rfl, rfl, hq, rfl, _, _, _, _, _, rfl, .ty _, ty_tup hb, kit_ty (r := true) (by decide +kernel), _, rfl, iteE rfl ?_⟩
    refine ⟨_, rfl, a, _, _, _, rfl, rfl, hq, rfl, b, rfl, ⟨_, hb⟩, ?_⟩
    refine for_tup (K := K) (a := b) (xs := ys) (fun i σ H' => H' = H ∧ ∃ x2 : Option V, σ = [some (.ref a), x2, none, none, none, none, none]) ⟨rfl, none, rfl⟩ (fun i σ H' _ h' => by rw [h'.1]; exact hb) ?_ ?_
    · rintro i z σ H1 hz ⟨rfl, x2, rfl⟩
      obtain ⟨t, ht, htd⟩ := Paired.at pt hz
      obtain ⟨c, zs, rfl, hc, hcd⟩ := htd.tupInv
      obtain ⟨u, w, rfl, hu, hw⟩ := hcd.two
      rw [hu.strInv, hw.intInv] at hc
      have okt := ok.2.1 t (List.mem_of_getElem? ht)
      refine ⟨_, rfl, c, _, rfl, hc, _, rfl, iteE rfl ?_⟩
      refine ⟨_, rfl, c, _, _, _, rfl, rfl, hc, rfl, _, rfl, .inl ⟨_, rfl, Nat.le_trans okt.1.2 (by decide), ?_⟩⟩
      rw [okt.1.1]
      refine ⟨_, rfl, iteE rfl ?_⟩
      refine ⟨_, rfl, c, _, _, _, rfl, rfl, hc, rfl, _, rfl, .inl ⟨_, rfl, _, rfl, iteE rfl ?_⟩⟩
      refine ⟨_, rfl, c, _, _, _, rfl, rfl, hc, rfl, rfl, _, rfl, iteE (decide_eq_false fun z => okt.2 (by injection z)) ?_⟩
      exact ⟨rfl, _, rfl⟩
    · rintro σ H1 ⟨rfl, x2, rfl⟩
      refine ⟨_, rfl, a, _, _, _, rfl, rfl, hq, rfl, b, rfl, ⟨_, hb⟩, fun D hD => ?_⟩
      refine lc_tup (K := K) (a := b) (xs := ys) (fun i H' => Same H1 H' ∧ H' D = some (.lst ((e.ts.take i).map fun p => V.str p.1))) ⟨same_new hD, upd_same⟩ (fun i H' _ h' => SqT.same h'.1 hb) ?_ ?_
      · rintro i z H2 hz ⟨s2, eD⟩
        obtain ⟨t, ht, htd⟩ := Paired.at pt hz
        obtain ⟨c, zs, rfl, hc, hcd⟩ := htd.tupInv
        obtain ⟨u, w, rfl, hu, hw⟩ := hcd.two
        rw [hu.strInv, hw.intInv] at hc
        have hi : i < ys.length := (List.getElem?_eq_some_iff.mp hz).1
        refine ⟨c, _, rfl, SqT.same s2 hc, rfl, _, _, rfl, _, _, rfl, rfl, rfl, _, rfl, _, eD, small1000 (by rw [List.length_map, List.length_take]; omega), fun c o z => ?_, ?_⟩
        · rw [upd_ne (ne_of_none z hD)]
          exact s2 _ _ z
        · rw [upd_same, take_snoc ht, List.map_append]
          rfl
      · rintro H2 ⟨s2, eD⟩
        rw [ly, List.take_length] at eD
        have lz : ((e.ts.drop 1).map fun p => V.str p.1).length = e.ts.length - 1 := by rw [List.length_map, List.length_drop]
        refine ⟨_, rfl, _, rfl, _, rfl, D, _, rfl, SqL.of eD, fun q hq2 => ?_⟩
        rw [cut_drop1, ← List.map_drop]
        have s3 := same_new (o := .lst ((e.ts.drop 1).map fun p => V.str p.1)) hq2
        refine ⟨D, q, _, _, rfl, SqL.of (s3 _ _ eD), SqL.of upd_same, fun M hM => ?_⟩
        refine lc_it (walk_zip (K := K) (n := e.ts.length - 1) (by rw [lz, List.length_map]; omega)) (fun i H' => Same (upd H2 q (.lst ((e.ts.drop 1).map fun p => V.str p.1))) H' ∧ H' M = some (.lst ((List.replicate i true).map V.bl))) ⟨same_new hM, upd_same⟩ (fun i H' _ h' => ⟨SqL.of (h'.1 _ _ (s3 _ _ eD)), SqL.of (h'.1 _ _ upd_same)⟩) ?_ ?_
        · rintro i z H4 H5 hi ⟨s4, eM⟩ ⟨T, x, y, rfl, hT, rfl, gx, gy⟩
          obtain ⟨t1, ht1⟩ : ∃ t, e.ts[i]? = some t := ⟨_, List.getElem?_eq_getElem (by omega)⟩
          obtain ⟨t2, ht2⟩ : ∃ t, e.ts[i + 1]? = some t := ⟨_, List.getElem?_eq_getElem (by omega)⟩
          simp only at gx gy
          rw [List.getElem?_map, ht1] at gx
          rw [List.getElem?_map, List.getElem?_drop, Nat.add_comm 1 i, ht2] at gy
          simp only [Option.map_some, Option.some.injEq] at gx gy
          subst gx gy
          refine ⟨T, _, rfl, SqT.of upd_same, rfl, _, _, rfl, _, _, rfl, rfl, rfl, _, rfl, _, rfl, _, _, rfl, rfl, ?_⟩
          rw [decide_eq_true (ok.2.2 i t1 t2 ht1 ht2)]
          have s5 := same_new (o := .tup [V.str t1.1, V.str t2.1]) hT
          refine ⟨_, s5 _ _ eM, small1000 (by rw [List.length_map, List.length_replicate]; omega), fun c o z => ?_, ?_⟩
          · rw [upd_ne (ne_of_none z hM)]
            exact s5 _ _ (s4 _ _ z)
          · rw [upd_same, List.replicate_succ', List.map_append]
            rfl
        · rintro H4 ⟨s4, eM⟩
          refine ⟨M, _, rfl, SqL.of eM, ?_⟩
          rw [show (List.replicate (e.ts.length - 1) true).all id = true by rw [List.all_replicate]; split <;> rfl]
          exact k _ ((s2.trans s3).trans s4)
end

/-! ### is_arg, is_call -/
abbrev sIsArg : Stmt := topS 42
abbrev NIsArg : List Str := ["value"]
abbrev PIsArg : List Str := ["value"]
theorem scIsArg : FnScope NIsArg PIsArg (defScope sIsArg) := ⟨rfl, rfl, rfl, by decide +kernel, rfl, by decide +kernel, by decide +kernel⟩
abbrev sIsCal : Stmt := topS 43
abbrev NIsCal : List Str := ["value", "one"]
abbrev PIsCal : List Str := ["value"]
theorem scIsCal : FnScope NIsCal PIsCal (defScope sIsCal) := ⟨rfl, rfl, rfl, by decide +kernel, rfl, by decide +kernel, by decide +kernel⟩
def spIsArg (K : PySem.W.Frag) : Sp := fun vs H Q _ => ∃ (v : V) (e : Arg), vs = [v] ∧ Dp K H v (argD e) ∧ okArg e ∧ ∀ H', Same H H' → Q (.bl true) H'
def spIsCal (K : PySem.W.Frag) : Sp := fun vs H Q _ => ∃ (v : V) (e : Cal), vs = [v] ∧ Dp K H v (calD e) ∧ okCal e ∧ ∀ H', Same H H' → Q (.bl true) H'
section
variable {P : Program} {w : World} {K : PySem.W.Frag} {mg : Str → Option Value} {base : Heap}
theorem ok_IsArg {f : Addr} {fd : FuncData} (F : Fun K "is_arg" "is_arg" sIsArg f fd) (T : TxShape mg) (GN : Has P w K mg base CX0 1 "is_name" PIsName (spName K)) (GE : Has P w K mg base CX0 2 "is_expression" PIsExp (spIsExp K)) (GP : Has P w K mg base CX0 1 "is_pair" PIsPair (spIsPair K)) : FnOk P w K mg base CX0 3 f fd PIsArg (spIsArg K) := by
  refine F.ok scIsArg (fun vs H Q E h => ?_) (fun cdv A outer s H vs Q E hr h => ?_)
  · obtain ⟨v, e, rfl, _⟩ := h
    rfl
  · obtain ⟨v, e, rfl, hv, ok, k⟩ := h
    have hr1 := hr.mono (j := 1) (by decide)
    refine ⟨_, (pss_cons (ps_if (PW.pt (pw_or (pt_not (pt_val (pe_callH GP hr1 rfl pass0 (pa_cons (pv 0) pa_nil)))) (pw_or1 (pt_not (pt_val (pe_callB call_isi (by rfl) T.n_isinstance bb_isinstance (pa_cons (pe_ix (r := rIxT K) ix_tup (pv 0) pe_int (fun _ _ => rfl)) (pa_cons (pe_bltn (v := .ty "str") (by rfl) T.n_str bb_str rfl) pa_nil))))))))
  (pss_one (ps_ret pe_bl))
  pss_nil)
  (pss_cons (ps_if (pt_cmpR op_eq (pe_ix (r := rIxT K) ix_tup (pv 0) pe_int (fun _ _ => rfl)) pe_str (nomark _))
  (pss_one (ps_ret (pe_callH GN hr1 rfl pass0 (pa_cons (pe_ix (r := rIxT K) ix_tup (pv 0) pe_int (fun _ _ => rfl)) pa_nil))))
  pss_nil)
  (pss_one (ps_ret (pe_and (pe_cmpR op_eq (pe_ix (r := rIxT K) ix_tup (pv 0) pe_int (fun _ _ => rfl)) pe_str (nomark _)) (pe_one (pe_callH GE hr rfl pass0 (pa_cons (pe_ix (r := rIxT K) ix_tup (pv 0) pe_int (fun _ _ => rfl)) pa_nil)))))))), ?_⟩
    cases e with
    | place n =>
      have ok : okN1 n := ok
      have hv : Dp K H v (.tuple [.str "place", .str n]) := hv
      obtain ⟨a, xs, rfl, hq, hd⟩ := hv.tupInv
      obtain ⟨x, y, rfl, hx, hy⟩ := hd.two
      rw [hx.strInv, hy.strInv] at hq
      refine ⟨_, rfl, a, _, rfl, hq, _, rfl, iteE rfl ?_⟩
      refine ⟨_, rfl, a, _, _, _, rfl, rfl, hq, rfl, _, _, _, _, _, rfl, .ty _, .base (.str _), kit_ty (r := true) (by decide +kernel), _, rfl, iteE rfl ?_⟩
      refine ⟨_, rfl, a, _, _, _, rfl, rfl, hq, rfl, rfl, _, rfl, iteS rfl ?_⟩
      refine ⟨_, rfl, a, _, _, _, rfl, rfl, hq, rfl, _, rfl, .inl ⟨_, rfl, Nat.le_trans ok.2 (by decide), ?_⟩⟩
      rw [ok.1]
      exact k _ (Same.refl _)
    | value e =>
      have ok : okEx e := ok
      have hv : Dp K H v (.tuple [.str "value", exD e]) := hv
      obtain ⟨a, xs, rfl, hq, hd⟩ := hv.tupInv
      obtain ⟨x, y, rfl, hx, hy⟩ := hd.two
      rw [hx.strInv] at hq
      refine ⟨_, rfl, a, _, rfl, hq, _, rfl, iteE rfl ?_⟩
      refine ⟨_, rfl, a, _, _, _, rfl, rfl, hq, rfl, _, _, _, _, _, rfl, .ty _, .base (.str _), kit_ty (r := true) (by decide +kernel), _, rfl, iteE rfl ?_⟩
      refine ⟨_, rfl, a, _, _, _, rfl, rfl, hq, rfl, rfl, _, rfl, iteE (by decide +kernel) ?_⟩
      refine ⟨_, rfl, a, _, _, _, rfl, rfl, hq, rfl, rfl, _, rfl, iteS (by decide +kernel) ?_⟩
      exact ⟨_, rfl, a, _, _, _, rfl, rfl, hq, rfl, _, e, rfl, hy, ok, k⟩
theorem ok_IsCal {f : Addr} {fd : FuncData} (F : Fun K "is_call" "is_call" sIsCal f fd) (T : TxShape mg) (GN : Has P w K mg base CX0 1 "is_name" PIsName (spName K)) (GA : Has P w K mg base CX0 3 "is_arg" PIsArg (spIsArg K)) (GP : Has P w K mg base CX0 1 "is_pair" PIsPair (spIsPair K)) : FnOk P w K mg base CX0 4 f fd PIsCal (spIsCal K) := by
  refine F.ok scIsCal (fun vs H Q E h => ?_) (fun cdv A outer s H vs Q E hr h => ?_)
  · obtain ⟨v, e, rfl, _⟩ := h
    rfl
  · obtain ⟨v, e, rfl, hv, ok, k⟩ := h
    have hr1 := hr.mono (j := 1) (by decide)
    refine ⟨_, (pss_cons (ps_if (PW.pt (pw_or (pt_not (pt_val (pe_callH GP hr1 rfl pass0 (pa_cons (pv 0) pa_nil)))) (pw_or (pt_not (pt_val (pe_callH GN hr1 rfl pass0 (pa_cons (pe_ix (r := rIxT K) ix_tup (pv 0) pe_int (fun _ _ => rfl)) pa_nil)))) (pw_or1 (pt_not (pt_val (pe_callB call_isi (by rfl) T.n_isinstance bb_isinstance (pa_cons (pe_ix (r := rIxT K) ix_tup (pv 0) pe_int (fun _ _ => rfl)) (pa_cons (pe_bltn (v := .ty "tuple") (by rfl) T.n_tuple bb_tuple rfl) pa_nil)))))))))
  (pss_one (ps_ret pe_bl))
  pss_nil)
  (pss_one (ps_ret (pe_callB (cr_all rfl) (by rfl) T.n_all bb_all (pa_cons (pe_lc (own := [("one", 1)]) (g := gName 1) (tt := tYes) rfl scIsCal.nd (pi_tup (pe_ix (r := rIxT K) ix_tup (pv 0) pe_int (fun _ _ => rfl))) (blkOk_by (own := [("one", 1)]) (N := NIsCal) (sc := (defScope sIsCal)) (by decide +kernel)) (fun _ _ _ _ _ => (pg_name (i := 1) scIsCal.nd rfl (Or.inl rfl))) (fun _ _ _ _ _ => pts_nil) (fun _ _ _ _ _ => (pe_callH GA hr rfl pass0 (pa_cons (pv 1) pa_nil)))) pa_nil))))), ?_⟩
    obtain ⟨a, xs, rfl, hq, hd⟩ := hv.tupInv
    obtain ⟨x, y, rfl, hx, hy⟩ := hd.two
    obtain ⟨b, ys, rfl, hb, hyd⟩ := hy.tupInv
    have pt := DpAll.map hyd
    have ok1 : e.2.length ≤ 900 := ok.2.1
    have ly : ys.length = e.2.length := Paired.length pt
    rw [hx.strInv] at hq
    refine ⟨_, rfl, a, _, rfl, hq, _, rfl, iteE rfl ?_⟩
    refine ⟨_, rfl, a, _, _, _, rfl, rfl, hq, rfl, _, rfl, .inl ⟨_, rfl, Nat.le_trans ok.1.2 (by decide), ?_⟩⟩
    rw [ok.1.1]
    refine ⟨_, rfl, iteE rfl ?_⟩
    refine ⟨_, rfl, a, _, _, _, rfl, rfl, hq, rfl, _, _, _, _, _, rfl, .ty _, ty_tup hb, kit_ty (r := true) (by decide +kernel), _, rfl, iteE rfl ?_⟩
    refine ⟨_, rfl, a, _, _, _, rfl, rfl, hq, rfl, b, rfl, ⟨_, hb⟩, fun D hD => ?_⟩
    refine lc_tup (K := K) (a := b) (xs := ys) (fun i H' => Same H H' ∧ H' D = some (.lst ((List.replicate i true).map V.bl))) ⟨same_new hD, upd_same⟩ (fun i H' _ h' => SqT.same h'.1 hb) ?_ ?_
    · rintro i v H1 hz ⟨s1, e1⟩
      obtain ⟨z, hza, hzd⟩ := Paired.at pt hz
      have hi : i < ys.length := (List.getElem?_eq_some_iff.mp hz).1
      refine ⟨rfl, _, rfl, v, z, rfl, hzd.same s1, ok.2.2 z (List.mem_of_getElem? hza), fun H2 s2 => ?_⟩
      refine ⟨_, s2 _ _ e1, small1000 (by rw [List.length_map, List.length_replicate]; omega), fun c o e => ?_, ?_⟩
      · rw [upd_ne (ne_of_none e hD)]
        exact s2 _ _ (s1 _ _ e)
      · rw [upd_same, List.replicate_succ', List.map_append]
        rfl
    · rintro H1 ⟨s1, e1⟩
      refine ⟨D, _, rfl, SqL.of e1, ?_⟩
      rw [show (List.replicate ys.length true).all id = true by rw [List.all_replicate]; split <;> rfl]
      exact k _ s1
end

/-! ### tuple == tuple, whose items are flat or instances with an own __eq__: both answers -/
section
open PySem.SeqAt MeetsSeq MeetsSeq2 MeetsSeq3 SeqRoads2
variable {prog : Program} {w : World} {A : Around} {R : Result → Shared → Prop}
theorem tuple_eqB (l b : Addr) (items items2 : Array Value) (n n2 : Nat) (dd dd2 : Option Addr) (sl sl2 : Array (Option Value)) (I : Nat → Shared → Prop)
    (turn : ∀ i (h1 : i < items.size) (h2 : i < items2.size) s, I i s → wpAny (model prog w) A.in1 (eqBool items[i] items2[i]) (fun r s' => (r = true ∧ I (i + 1) s') ∨ (r = false ∧ R (.ok (.ret (.bool false))) s')) (fun e s' => R (.error e) s') s)
    (fin : ∀ s, I (min items.size items2.size) s → R (.ok (.ret (.bool (items.size == items2.size)))) s) {s : Shared} (hl1 : s.heap.get? l = some { cls := .type "tuple", dict := dd, data := .seq items n, slots := sl }) (hb1 : s.heap.get? b = some { cls := .type "tuple", dict := dd2, data := .seq items2 n2, slots := sl2 }) (h : I 0 s) :
    wpAny (model prog w) A.in1 (Builtin.«tuple.__eq__» ⟨[.ref l, .ref b], []⟩) (GQ.FinOf prog w A R) (fun e s' => R (.error e) s') s := by
  have f2 := AutoSeq1.sub_tuple_tuple
  have hZ : (items.toList.zip items2.toList).length = min items.size items2.size := by simp
  have h0 := h
  obtain ⟨hp, g, d, tk, os⟩ := s
  wp_walk using AutoSeq1.wpAny_loadPart' hl1, AutoSeq1.wpAny_loadPart' hb1, wpAny_forIn_list _ (fun rest b s' => b.1 = none ∧ ∃ i, rest = (items.toList.zip items2.toList).drop i ∧ i ≤ min items.size items2.size ∧ I i s') _
  case turn =>
    rintro ⟨y, x⟩ rest b s' ⟨hb', i, hz, hi, hI⟩
    have hlt : i < (items.toList.zip items2.toList).length := by
      rcases Nat.lt_or_ge i (items.toList.zip items2.toList).length with h' | h'
      · exact h'
      · rw [List.drop_of_length_le h'] at hz; cases hz
    have h12 : i < min items.size items2.size := hZ ▸ hlt
    have h1 : i < items.size := by omega
    have h2 : i < items2.size := by omega
    rw [List.drop_eq_getElem_cons hlt] at hz
    injection hz with hyx hrest
    have hy : y = items[i] := by have := congrArg Prod.fst hyx; simpa using this
    have hx : x = items2[i] := by have := congrArg Prod.snd hyx; simpa using this
    subst hy hx
    refine wpAny_bind (wpAny_mono (turn i h1 h2 s' hI) (fun r s2 q2 => ?_) fun _ _ x => x)
    rcases q2 with ⟨hr, q2⟩ | ⟨hr, q2⟩
    · subst hr
      wp_walk
      exact ⟨rfl, i + 1, hrest, by omega, q2⟩
    · subst hr
      wp_walk
      exact q2
  case fin =>
    rintro ⟨b1, b2⟩ s' ⟨hb', i, hz, hi, hI⟩
    simp only at hb'
    subst hb'
    have hge : min items.size items2.size ≤ i := by
      rcases Nat.lt_or_ge i (items.toList.zip items2.toList).length with h' | h'
      · rw [List.drop_eq_getElem_cons h'] at hz; cases hz
      · exact hZ ▸ h'
    have hi' : i = min items.size items2.size := by omega
    have hR := fin s' (hi' ▸ hI)
    wp_walk
    exact hR
  case h =>
    exact ⟨rfl, 0, rfl, Nat.zero_le _, h0⟩
theorem rc_tupB {E : Value → Shared → Prop} {s : Shared} {l b : Addr} {items items2 : Array Value} {Q : Value → Shared → Prop} (hu : A.units < cLine) (I : Nat → Shared → Prop) (hl : s.heap.IsTuple l items) (hb : s.heap.IsTuple b items2)
    (turn : ∀ i (h1 : i < items.size) (h2 : i < items2.size) s, I i s → wpAny (model prog w) A.in1 (eqBool items[i] items2[i]) (fun r s' => (r = true ∧ I (i + 1) s') ∨ (r = false ∧ Q (.bool false) s')) E s)
    (fin : ∀ s, I (min items.size items2.size) s → Q (.bool (items.size == items2.size)) s) (h : I 0 s) : wpAny (model prog w) A (richCompare .Eq (.ref l) (.ref b)) Q E s := by
  obtain ⟨⟨cls, dd, data, sl⟩, ho, hc, n, hd⟩ := id hl
  obtain ⟨⟨cls2, dd2, data2, sl2⟩, ho2, hc2, n2, hd2⟩ := id hb
  simp only at hc hd hc2 hd2
  subst hc hd hc2 hd2
  refine wpAny_richCompare_same_room (op := .Eq) ⟨_, ho, rfl⟩ ⟨_, ho2, rfl⟩ F.slot_tuple_eq (GQ.call_here F.slot_tuple_eq ⟨_, ho, rfl⟩ F.entry_tuple_eq (F.args_tuple_eq_2 _ _) ?_) hu
  refine tuple_eqB (R := wants (fun v s' => v ≠ .notImplemented ∧ Q v s') E) l b items items2 n n2 dd dd2 sl sl2 I (fun i h1 h2 s' hI => wpAny_mono (turn i h1 h2 s' hI) (fun r s2 q => ?_) fun _ _ z => z) (fun s' q => ⟨(fun x => nomatch x), fin s' q⟩) ho ho2 h
  rcases q with q | ⟨q1, q2⟩
  · exact .inl q
  · exact .inr ⟨q1, ⟨(fun x => nomatch x), q2⟩⟩
end

/-! ### tuple == (): the items are not looked at -/
def rEqE (K : PySem.W.Frag) : V → V → Hp → VK → Prop := fun x y H Q => ∃ ta tb xs, x = .ref ta ∧ y = .ref tb ∧ SqT K H ta xs ∧ SqT K H tb [] ∧ Q (.bl xs.isEmpty) H
section
variable {X : Cx}
theorem op_eqE (hu : X.A.units < cLine) : OpR X (compareOp .Eq) (rEqE X.K) := by
  intro pins s σ H x y v u Q I rx ry h
  obtain ⟨ta, tb, xs, rfl, rfl, e1, e2, q⟩ := h
  obtain rfl : v = Value.ref ta := rx
  obtain rfl : u = Value.ref tb := ry
  obtain ⟨its, r1, t1, _⟩ := I.tuple e1
  obtain ⟨its2, r2, t2, _⟩ := I.tuple e2
  show wpAny (model X.prog X.w) X.A (richCompare .Eq (.ref ta) (.ref tb)) _ _ _
  have l1 : its.length = xs.length := r1.length.symm
  have l2 : its2.length = 0 := r2.length.symm
  refine rc_tupB hu (fun i s' => s' = s) t1 t2 (fun i h1 h2 s' hI => ?_) (fun s' hI => ?_) rfl
  · exact absurd h2 (by simp [l2])
  · subst hI
    refine ⟨_, H, I, ?_, q⟩
    have e : (its.toArray.size == its2.toArray.size) = xs.isEmpty := by
      rw [List.size_toArray, List.size_toArray, l1, l2]
      cases xs <;> rfl
    rw [e]
    rfl
end

/-! ### is_simple -/
abbrev sIsSim : Stmt := topS 46
abbrev NIsSim : List Str := ["value", "target", "expression", "name", "args", "kinds", "kind"]
abbrev PIsSim : List Str := ["value"]
theorem scIsSim : FnScope NIsSim PIsSim (defScope sIsSim) := ⟨rfl, rfl, rfl, by decide +kernel, rfl, by decide +kernel, by decide +kernel⟩
theorem strOk_name {n : Str} (h : isName n = true) : PyData.strOk n = true := by
  unfold PyData.strOk
  rw [← Array.all_toList, List.all_eq_true]
  intro c hc
  obtain ⟨c0, h0⟩ : ∃ c0, n.cps.toList[0]? = some c0 := by
    cases e : n.cps.toList with
    | nil => rw [e] at hc; cases hc
    | cons a r => exact ⟨a, rfl⟩
  rw [isName_at h0] at h
  simp only [Bool.and_eq_true] at h
  have q := List.all_eq_true.mp h.1.2 c hc
  unfold al at q
  simp only [Bool.or_eq_true, decide_eq_true_eq] at q
  have b1 : ∀ x ∈ LET.cps.toList, x < 200 := by decide +kernel
  have b2 : ∀ x ∈ DIG.cps.toList, x < 200 := by decide +kernel
  rcases q with q | q
  · have := b1 c q
    simp only [decide_eq_true_eq]
    omega
  · have := b2 c q
    simp only [decide_eq_true_eq]
    omega
theorem nm_ne {ns : List Str} (h : ns ≠ []) : (!PyData.eqv (nmD ns) (.tuple [])) = true := by
  cases ns with
  | nil => exact absurd rfl h
  | cons x r => rfl
theorem nm_shaped {ns : List Str} (h : okNs ns) : SeqAt.shaped (nmD ns) = true := by
  have e : nmD ns = .tuple ((ns.map V.str).map dOf) := by unfold nmD; rw [List.map_map]; rfl
  rw [e]
  refine shaped_tup ?_
  rw [List.all_map, List.all_eq_true]
  intro z hz
  exact strOk_name (h.2 z hz).1
/-- a statement without blocks -/
def simple : St → Prop
  | .set _ _ => True | .input _ => True | .call _ _ _ => True | .risk _ => True | .raise _ => True | .ret _ => True
  | _ => False
def spIsSim (K : PySem.W.Frag) : Sp := fun vs H Q _ => ∃ (v : V) (e : St), vs = [v] ∧ Dp K H v (stD e) ∧ okS e ∧ simple e ∧ ∀ H', Same H H' → Q (.bl true) H'
section
variable {P : Program} {w : World} {K : PySem.W.Frag} {mg : Str → Option Value} {base : Heap}
theorem ok_IsSim {f : Addr} {fd : FuncData} (F : Fun K "is_simple" "is_simple" sIsSim f fd) (GN : Has P w K mg base CX0 1 "is_name" PIsName (spName K)) (GE : Has P w K mg base CX0 2 "is_expression" PIsExp (spIsExp K)) (GR : Has P w K mg base CX0 2 "is_row_of_names" PRowN (spRowN K)) (GC : Has P w K mg base CX0 4 "is_call" PIsCal (spIsCal K)) : FnOk P w K mg base CX0 5 f fd PIsSim (spIsSim K) := by
  refine F.ok scIsSim (fun vs H Q E h => ?_) (fun cdv A outer s H vs Q E hr h => ?_)
  · obtain ⟨v, e, rfl, _⟩ := h
    rfl
  · obtain ⟨v, e, rfl, hv, ok, sm, k⟩ := h
    have hr1 := hr.mono (j := 1) (by decide)
    have hr2 := hr.mono (j := 2) (by decide)
    refine ⟨_, (pss_one (ps_match (pv 0) (pcs_cons scIsSim.nd (pm_seq rfl (pms_cons pm_str (pms_cons (pm_as (i := 1) rfl (Or.inl rfl)) (pms_cons (pm_as (i := 2) rfl (Or.inl rfl)) pms_nil))))
  (pss_one (ps_ret (pe_and (pe_callH GN hr1 rfl pass0 (pa_cons (pv 1) pa_nil)) (pe_one (pe_callH GE hr2 rfl pass0 (pa_cons (pv 2) pa_nil))))))
  (pcs_cons scIsSim.nd (pm_seq rfl (pms_cons pm_str (pms_cons (pm_as (i := 1) rfl (Or.inl rfl)) pms_nil)))
  (pss_one (ps_ret (pe_callH GN hr1 rfl pass0 (pa_cons (pv 1) pa_nil))))
  (pcs_cons scIsSim.nd (pm_seq rfl (pms_cons pm_str (pms_cons (pm_as (i := 1) rfl (Or.inl rfl)) (pms_cons (pm_as (i := 3) rfl (Or.inl rfl)) (pms_cons (pm_as (i := 4) rfl (Or.inl rfl)) pms_nil)))))
  (pss_one (ps_ret (pe_and (pe_or (pe_cmpR op_isN (pv 1) pe_non (nomark _)) (pe_one (pe_callH GN hr1 rfl pass0 (pa_cons (pv 1) pa_nil)))) (pe_one (pe_callH GC hr rfl pass0 (pa_cons (pe_tup (pa_cons (pv 3) (pa_cons (pv 4) pa_nil))) pa_nil))))))
  (pcs_cons scIsSim.nd (pm_seq rfl (pms_cons pm_str (pms_cons (pm_as (i := 5) rfl (Or.inl rfl)) pms_nil)))
  (pss_one (ps_ret (pe_and (pe_cmpR (op_neD hr.units) (pv 5) (pe_tup pa_nil) (nomark _)) (pe_one (pe_callH GR hr2 rfl pass0 (pa_cons (pv 5) pa_nil))))))
  (pcs_cons scIsSim.nd (pm_seq rfl (pms_cons pm_str (pms_cons (pm_as (i := 6) rfl (Or.inl rfl)) pms_nil)))
  (pss_one (ps_ret (pe_callH GN hr1 rfl pass0 (pa_cons (pv 6) pa_nil))))
  (pcs_cons scIsSim.nd (pm_seq rfl (pms_cons pm_str (pms_cons (pm_as (i := 2) rfl (Or.inl rfl)) pms_nil)))
  (pss_one (ps_ret (pe_callH GE hr2 rfl pass0 (pa_cons (pv 2) pa_nil))))
  (pcs_cons scIsSim.nd pm_wild
  (pss_one (ps_ret pe_bl))
  pcs_nil))))))))), ?_⟩
    obtain ⟨a, xs, rfl, hq, hd⟩ := stInv hv
    refine ⟨_, rfl, ?_⟩
    cases e <;> simp only [wordS] at hq
    case set t e =>
      have ok : okN1 t ∧ okEx e := ok
      obtain ⟨x, y, rfl, h1, h2⟩ := DpAll.two hd
      rw [h1.strInv] at hq
      refine case_hit hq rfl ⟨_, _, rfl, _, _, rfl, ?_⟩
      refine ⟨_, rfl, _, rfl, .inl ⟨t, rfl, Nat.le_trans ok.1.2 (by decide), ?_⟩⟩
      rw [ok.1.1]
      refine ⟨_, rfl, iteS rfl ?_⟩
      exact ⟨_, rfl, y, e, rfl, h2, ok.2, k⟩
    case input t =>
      have ok : okN1 t := ok
      obtain ⟨x, rfl, h1⟩ := DpAll.one hd
      rw [h1.strInv] at hq
      repeat (first | refine case_len hq (Nat.ne_of_beq_eq_false rfl) ?_ | refine case_word hq rfl (by decide +kernel) ?_)
      refine case_hit hq rfl ⟨_, _, rfl, ?_⟩
      refine ⟨_, rfl, _, rfl, .inl ⟨t, rfl, Nat.le_trans ok.2 (by decide), ?_⟩⟩
      rw [ok.1]
      exact k _ (Same.refl _)
    case call t g as =>
      have ok : (∀ x, t = some x → okN1 x) ∧ okN1 g ∧ okAs as := ok
      obtain ⟨x, y, z, rfl, h1, h2, h3⟩ := DpAll.three hd
      repeat (first | refine case_len hq (Nat.ne_of_beq_eq_false rfl) ?_ | refine case_word hq rfl (by decide +kernel) ?_)
      refine case_hit hq rfl ⟨_, _, rfl, _, _, rfl, _, _, rfl, ?_⟩
      have dn : ∀ {q : Addr} {H' : Hp}, Same H H' → H' q = some (.tup [y, z]) → Dp K H' (.ref q) (calD (g, as)) := fun s' e => .tup (SqT.of e) (.cons (h2.same s') (.cons (h3.same s') .nil))
      cases t with
      | none =>
        cases h1
        refine ⟨_, rfl, rfl, _, rfl, iteS (decide_eq_true rfl) ?_⟩
        refine ⟨_, rfl, iteS rfl ?_⟩
        refine ⟨_, rfl, _, rfl, (by show 2 ≤ sizeLine; decide), fun q hq2 => ?_⟩
        have s1 := same_new (o := .tup [y, z]) hq2
        exact ⟨_, (g, as), rfl, dn s1 upd_same, ok.2, fun H' s' => k _ (s1.trans s')⟩
      | some t =>
        have okt := ok.1 t rfl
        rw [show optD (some t) = .str t from rfl] at h1
        cases h1
        refine ⟨_, rfl, rfl, _, rfl, iteE (decide_eq_false fun z => by cases z) ?_⟩
        refine ⟨_, rfl, _, rfl, .inl ⟨t, rfl, Nat.le_trans okt.2 (by decide), ?_⟩⟩
        rw [okt.1]
        refine ⟨_, rfl, iteS rfl ?_⟩
        refine ⟨_, rfl, _, rfl, (by show 2 ≤ sizeLine; decide), fun q hq2 => ?_⟩
        have s1 := same_new (o := .tup [y, z]) hq2
        exact ⟨_, (g, as), rfl, dn s1 upd_same, ok.2, fun H' s' => k _ (s1.trans s')⟩
    case risk ks =>
      have ok : ks ≠ [] ∧ okNs ks := ok
      obtain ⟨x, rfl, h1⟩ := DpAll.one hd
      repeat (first | refine case_len hq (Nat.ne_of_beq_eq_false rfl) ?_ | refine case_word hq rfl (by decide +kernel) ?_)
      refine case_hit hq rfl ⟨_, _, rfl, ?_⟩
      refine ⟨_, rfl, (by show 0 ≤ sizeLine; decide), fun q hq2 => ?_⟩
      have s1 := same_new (o := .tup []) hq2
      refine ⟨_, _, h1.same s1, .tup (SqT.of upd_same) .nil, nm_shaped ok.2, rfl, ?_⟩
      rw [nm_ne ok.1]
      refine ⟨_, rfl, iteS rfl ?_⟩
      exact ⟨_, rfl, x, ks, rfl, h1.same s1, ok.2, fun H' s' => k _ (s1.trans s')⟩
    case raise t =>
      have ok : okN1 t := ok
      obtain ⟨x, rfl, h1⟩ := DpAll.one hd
      rw [h1.strInv] at hq
      repeat (first | refine case_len hq (Nat.ne_of_beq_eq_false rfl) ?_ | refine case_word hq rfl (by decide +kernel) ?_)
      refine case_hit hq rfl ⟨_, _, rfl, ?_⟩
      refine ⟨_, rfl, _, rfl, .inl ⟨t, rfl, Nat.le_trans ok.2 (by decide), ?_⟩⟩
      rw [ok.1]
      exact k _ (Same.refl _)
    case ret e =>
      have ok : okEx e := ok
      obtain ⟨x, rfl, h1⟩ := DpAll.one hd
      repeat (first | refine case_len hq (Nat.ne_of_beq_eq_false rfl) ?_ | refine case_word hq rfl (by decide +kernel) ?_)
      refine case_hit hq rfl ⟨_, _, rfl, ?_⟩
      exact ⟨_, rfl, x, e, rfl, h1, ok, k⟩
    all_goals exact sm.elim
end

/-! ### is_block, is_handler, is_statement -/
abbrev sIsBlk : Stmt := topS 44
abbrev NIsBlk : List Str := ["value", "depth", "one"]
abbrev PIsBlk : List Str := ["value", "depth"]
theorem scIsBlk : FnScope NIsBlk PIsBlk (defScope sIsBlk) := ⟨rfl, rfl, rfl, by decide +kernel, rfl, by decide +kernel, by decide +kernel⟩
abbrev sIsHnd : Stmt := topS 45
abbrev NIsHnd : List Str := ["value", "depth"]
abbrev PIsHnd : List Str := ["value", "depth"]
theorem scIsHnd : FnScope NIsHnd PIsHnd (defScope sIsHnd) := ⟨rfl, rfl, rfl, by decide +kernel, rfl, by decide +kernel, by decide +kernel⟩
abbrev sIsSta : Stmt := topS 47
abbrev NIsSta : List Str := ["value", "depth", "first", "second", "block", "handlers", "final", "one", "names", "enter", "leave", "kinds"]
abbrev PIsSta : List Str := ["value", "depth"]
theorem scIsSta : FnScope NIsSta PIsSta (defScope sIsSta) := ⟨rfl, rfl, rfl, by decide +kernel, rfl, by decide +kernel, by decide +kernel⟩
def spIsBlk (K : PySem.W.Frag) (n : Nat) : Sp := fun vs H Q _ => ∃ (v : V) (b : List St) (d : Nat), vs = [v, .int (d : Int)] ∧ Dp K H v (blD b) ∧ dpB b ≤ n ∧ dpB b ≤ d ∧ okB b ∧ ∀ H', Same H H' → Q (.bl true) H'
def spIsHnd (K : PySem.W.Frag) (n : Nat) : Sp := fun vs H Q _ => ∃ (v : V) (h : Hd) (d : Nat), vs = [v, .int (d : Int)] ∧ Dp K H v (hdD h) ∧ dpH h ≤ n ∧ dpH h ≤ d ∧ okH h ∧ ∀ H', Same H H' → Q (.bl true) H'
def spIsSta (K : PySem.W.Frag) (n : Nat) : Sp := fun vs H Q _ => ∃ (v : V) (s : St) (d : Nat), vs = [v, .int ((d + 1 : Nat) : Int)] ∧ Dp K H v (stD s) ∧ dpS s ≤ n ∧ dpS s ≤ d ∧ okS s ∧ ∀ H', Same H H' → Q (.bl true) H'
section
variable {P : Program} {w : World} {K : PySem.W.Frag} {mg : Str → Option Value} {base : Heap}
theorem ok_IsBlk {n : Nat} {f : Addr} {fd : FuncData} (F : Fun K "is_block" "is_block" sIsBlk f fd) (T : TxShape mg) (GS : Has P w K mg base CX0 (7 + 3 * n) "is_statement" PIsSta (spIsSta K n)) : FnOk P w K mg base CX0 (7 + 3 * n + 1) f fd PIsBlk (spIsBlk K (n + 1)) := by
  refine F.ok scIsBlk (fun vs H Q E h => ?_) (fun cdv A outer s H vs Q E hr h => ?_)
  · obtain ⟨v, b, d, rfl, _⟩ := h
    rfl
  · obtain ⟨v, b, d, rfl, hv, hn, hd0, ok, k⟩ := h
    refine ⟨_, (pss_one (ps_ret (pe_and (pe_cmpR op_gt (pv 1) pe_int (nomark _)) (pe_and (pe_callB call_isi (by rfl) T.n_isinstance bb_isinstance (pa_cons (pv 0) (pa_cons (pe_bltn (v := .ty "tuple") (by rfl) T.n_tuple bb_tuple rfl) pa_nil))) (pe_one (pe_callB (cr_all rfl) (by rfl) T.n_all bb_all (pa_cons (pe_lc (own := [("one", 2)]) (g := gName 2) (tt := tYes) rfl scIsBlk.nd (pi_tup (pv 0)) (blkOk_by (own := [("one", 2)]) (N := NIsBlk) (sc := (defScope sIsBlk)) (by decide +kernel)) (fun _ _ _ _ _ => (pg_name (i := 2) scIsBlk.nd rfl (Or.inl rfl))) (fun _ _ _ _ _ => pts_nil) (fun _ _ _ _ _ => (pe_callH GS hr rfl pass0 (pa_cons (pv 2) (pa_cons (pv 1) pa_nil))))) pa_nil))))))), ?_⟩
    obtain ⟨a, xs, rfl, hq, hd⟩ := hv.tupInv
    rw [stsD_map] at hd
    have pb := hd.map
    have lx : xs.length = b.length := Paired.length pb
    have ok1 : b.length ≤ 900 := ok.1
    have e1 := dpB_eq b
    obtain ⟨d, rfl⟩ : ∃ e, d = e + 1 := ⟨d - 1, by omega⟩
    refine ⟨_, rfl, _, _, rfl, rfl, _, rfl, iteS (decide_eq_true (by omega)) ?_⟩
    refine ⟨_, rfl, _, _, _, _, _, rfl, .ty _, ty_tup hq, kit_ty (r := true) (by decide +kernel), _, rfl, iteS rfl ?_⟩
    refine ⟨_, rfl, a, rfl, ⟨_, hq⟩, fun D hD => ?_⟩
    refine lc_tup (K := K) (a := a) (xs := xs) (fun i H' => Same H H' ∧ H' D = some (.lst ((List.replicate i true).map V.bl))) ⟨same_new hD, upd_same⟩ (fun i H' _ h' => SqT.same h'.1 hq) ?_ ?_
    · rintro i v H1 hz ⟨s1, e1⟩
      obtain ⟨z, hza, hzd⟩ := Paired.at pb hz
      have hi : i < xs.length := (List.getElem?_eq_some_iff.mp hz).1
      have ms := List.mem_of_getElem? hza
      have := dp_mem ms
      refine ⟨rfl, _, rfl, _, rfl, v, z, d, rfl, hzd.same s1, by omega, by omega, okL_mem ok.2 ms, fun H2 s2 => ?_⟩
      refine ⟨_, s2 _ _ e1, small1000 (by rw [List.length_map, List.length_replicate]; omega), fun c o e => ?_, ?_⟩
      · rw [upd_ne (ne_of_none e hD)]
        exact s2 _ _ (s1 _ _ e)
      · rw [upd_same, List.replicate_succ', List.map_append]
        rfl
    · rintro H1 ⟨s1, e1⟩
      refine ⟨D, _, rfl, SqL.of e1, ?_⟩
      rw [show (List.replicate xs.length true).all id = true by rw [List.all_replicate]; split <;> rfl]
      exact k _ s1
theorem ok_IsHnd {n : Nat} {f : Addr} {fd : FuncData} (F : Fun K "is_handler" "is_handler" sIsHnd f fd) (GP : Has P w K mg base CX0 1 "is_pair" PIsPair (spIsPair K)) (GR : Has P w K mg base CX0 2 "is_row_of_names" PRowN (spRowN K)) (GB : Has P w K mg base CX0 (5 + 3 * n) "is_block" PIsBlk (spIsBlk K n)) : FnOk P w K mg base CX0 (5 + 3 * n + 1) f fd PIsHnd (spIsHnd K n) := by
  refine F.ok scIsHnd (fun vs H Q E h => ?_) (fun cdv A outer s H vs Q E hr h => ?_)
  · obtain ⟨v, b, d, rfl, _⟩ := h
    rfl
  · obtain ⟨v, hd, d, rfl, hv, hn, hd0, ok, k⟩ := h
    have hr1 := hr.mono (j := 1) (by omega)
    have hr2 := hr.mono (j := 2) (by omega)
    refine ⟨_, (pss_one (ps_ret (pe_and (pe_callH GP hr1 rfl pass0 (pa_cons (pv 0) pa_nil)) (pe_and (pe_cmpR (op_neD hr.units) (pe_ix (r := rIxT K) ix_tup (pv 0) pe_int (fun _ _ => rfl)) (pe_tup pa_nil) (nomark _)) (pe_and (pe_callH GR hr2 rfl pass0 (pa_cons (pe_ix (r := rIxT K) ix_tup (pv 0) pe_int (fun _ _ => rfl)) pa_nil)) (pe_one (pe_callH GB hr rfl pass0 (pa_cons (pe_ix (r := rIxT K) ix_tup (pv 0) pe_int (fun _ _ => rfl)) (pa_cons (pv 1) pa_nil))))))))), ?_⟩
    cases hd with
    | mk ks b =>
      have ok : (ks ≠ [] ∧ okNs ks) ∧ (b.length ≤ 900 ∧ okL b) := ok
      have hv : Dp K H v (.tuple [nmD ks, blD b]) := hv
      obtain ⟨a, xs, rfl, hq, hdd⟩ := hv.tupInv
      obtain ⟨x, y, rfl, h1, h2⟩ := hdd.two
      refine ⟨_, rfl, a, _, rfl, hq, _, rfl, iteS rfl ?_⟩
      refine ⟨_, rfl, a, _, _, _, rfl, rfl, hq, rfl, (by show 0 ≤ sizeLine; decide), fun q hq2 => ?_⟩
      have s1 := same_new (o := .tup []) hq2
      refine ⟨_, _, h1.same s1, .tup (SqT.of upd_same) .nil, nm_shaped ok.1.2, rfl, ?_⟩
      rw [nm_ne ok.1.1]
      refine ⟨_, rfl, iteS rfl ?_⟩
      refine ⟨_, rfl, a, _, _, _, rfl, rfl, SqT.same s1 hq, rfl, x, ks, rfl, h1.same s1, ok.1.2, fun H2 s2 => ?_⟩
      refine ⟨_, rfl, iteS rfl ?_⟩
      have s3 := s1.trans s2
      exact ⟨_, rfl, a, _, _, _, rfl, rfl, SqT.same s3 hq, rfl, _, rfl, y, b, d, rfl, h2.same s3, hn, hd0, ok.2, fun H3 s4 => k _ (s3.trans s4)⟩
end

/-! ### is_statement -/
theorem dpH_mem : ∀ {hs : List Hd} {h : Hd}, h ∈ hs → dpH h ≤ dpHs hs
  | x :: r, h, hm => by
    show _ ≤ max _ _
    rcases List.mem_cons.mp hm with z | z
    · rw [z]; exact Nat.le_max_left _ _
    · exact Nat.le_trans (dpH_mem z) (Nat.le_max_right _ _)
section
variable {P : Program} {w : World} {K : PySem.W.Frag} {mg : Str → Option Value} {base : Heap}
theorem ok_IsSta {n : Nat} {f : Addr} {fd : FuncData} (F : Fun K "is_statement" "is_statement" sIsSta f fd) (T : TxShape mg) (GM : Has P w K mg base CX0 5 "is_simple" PIsSim (spIsSim K)) (GC : Has P w K mg base CX0 4 "is_call" PIsCal (spIsCal K)) (GR : Has P w K mg base CX0 2 "is_row_of_names" PRowN (spRowN K)) (GB : Has P w K mg base CX0 (5 + 3 * n) "is_block" PIsBlk (spIsBlk K n)) (GH : Has P w K mg base CX0 (6 + 3 * n) "is_handler" PIsHnd (spIsHnd K n)) : FnOk P w K mg base CX0 (6 + 3 * n + 1) f fd PIsSta (spIsSta K n) := by
  refine F.ok scIsSta (fun vs H Q E h => ?_) (fun cdv A outer s H vs Q E hr h => ?_)
  · obtain ⟨v, b, d, rfl, _⟩ := h
    rfl
  · obtain ⟨v, st, d, rfl, hv, hn, hd0, ok, k⟩ := h
    have hr2 := hr.mono (j := 2) (by omega)
    have hr4 := hr.mono (j := 4) (by omega)
    have hr5 := hr.mono (j := 5) (by omega)
    have hrb := hr.mono (j := 5 + 3 * n) (by omega)
    refine ⟨_, (pss_cons (ps_if (PW.pt (pw_or (pt_not (pt_val (pe_callB call_isi (by rfl) T.n_isinstance bb_isinstance (pa_cons (pv 0) (pa_cons (pe_bltn (v := .ty "tuple") (by rfl) T.n_tuple bb_tuple rfl) pa_nil))))) (pw_or (pt_cmpR (op_eqE hr.units0) (pv 0) (pe_tup pa_nil) (nomark _)) (pw_or1 (pt_not (pt_val (pe_callB call_isi (by rfl) T.n_isinstance bb_isinstance (pa_cons (pe_ix (r := rIxT K) ix_tup (pv 0) pe_int (fun _ _ => rfl)) (pa_cons (pe_bltn (v := .ty "str") (by rfl) T.n_str bb_str rfl) pa_nil)))))))))
  (pss_one (ps_ret pe_bl))
  pss_nil)
  (pss_one (ps_match (pv 0) (pcs_cons scIsSta.nd (pm_seq rfl (pms_cons pm_str (pms_cons (pm_as (i := 2) rfl (Or.inl rfl)) (pms_cons (pm_as (i := 3) rfl (Or.inl rfl)) pms_nil))))
  (pss_one (ps_ret (pe_and (pe_callH GB hrb rfl pass0 (pa_cons (pv 2) (pa_cons (pe_op op_sub (pv 1) pe_int) pa_nil))) (pe_one (pe_callH GB hrb rfl pass0 (pa_cons (pv 3) (pa_cons (pe_op op_sub (pv 1) pe_int) pa_nil)))))))
  (pcs_cons scIsSta.nd (pm_seq rfl (pms_cons pm_str (pms_cons (pm_as (i := 4) rfl (Or.inl rfl)) pms_nil)))
  (pss_one (ps_ret (pe_callH GB hrb rfl pass0 (pa_cons (pv 4) (pa_cons (pe_op op_sub (pv 1) pe_int) pa_nil)))))
  (pcs_cons scIsSta.nd (pm_seq rfl (pms_cons pm_str (pms_cons (pm_as (i := 4) rfl (Or.inl rfl)) (pms_cons (pm_as (i := 5) rfl (Or.inl rfl)) (pms_cons (pm_as (i := 6) rfl (Or.inl rfl)) pms_nil)))))
  (pss_cons (ps_if (PW.pt (pw_or (pt_not (pt_val (pe_callB call_isi (by rfl) T.n_isinstance bb_isinstance (pa_cons (pv 5) (pa_cons (pe_bltn (v := .ty "tuple") (by rfl) T.n_tuple bb_tuple rfl) pa_nil))))) (pw_or (pt_not (pt_val (pe_callH GB hrb rfl pass0 (pa_cons (pv 4) (pa_cons (pe_op op_sub (pv 1) pe_int) pa_nil))))) (pw_or1 (pt_not (pt_val (pe_callH GB hrb rfl pass0 (pa_cons (pv 6) (pa_cons (pe_op op_sub (pv 1) pe_int) pa_nil)))))))))
  (pss_one (ps_ret pe_bl))
  pss_nil)
  (pss_one (ps_ret (pe_callB (cr_all rfl) (by rfl) T.n_all bb_all (pa_cons (pe_lc (own := [("one", 7)]) (g := gName 7) (tt := tYes) rfl scIsSta.nd (pi_tup (pv 5)) (blkOk_by (own := [("one", 7)]) (N := NIsSta) (sc := (defScope sIsSta)) (by decide +kernel)) (fun _ _ _ _ _ => (pg_name (i := 7) scIsSta.nd rfl (Or.inl rfl))) (fun _ _ _ _ _ => pts_nil) (fun _ _ _ _ _ => (pe_callH GH hr rfl pass0 (pa_cons (pv 7) (pa_cons (pe_op op_sub (pv 1) pe_int) pa_nil))))) pa_nil)))))
  (pcs_cons scIsSta.nd (pm_seq rfl (pms_cons pm_str (pms_cons (pm_as (i := 8) rfl (Or.inl rfl)) (pms_cons (pm_as (i := 4) rfl (Or.inl rfl)) pms_nil))))
  (pss_one (ps_ret (pe_and (pe_cmpR (op_neD hr.units) (pv 8) (pe_tup pa_nil) (nomark _)) (pe_and (pe_callH GR hr2 rfl pass0 (pa_cons (pv 8) pa_nil)) (pe_one (pe_callH GB hrb rfl pass0 (pa_cons (pv 4) (pa_cons (pe_op op_sub (pv 1) pe_int) pa_nil))))))))
  (pcs_cons scIsSta.nd (pm_seq rfl (pms_cons pm_str (pms_cons (pm_as (i := 9) rfl (Or.inl rfl)) (pms_cons (pm_as (i := 10) rfl (Or.inl rfl)) (pms_cons (pm_as (i := 11) rfl (Or.inl rfl)) (pms_cons (pm_as (i := 4) rfl (Or.inl rfl)) pms_nil))))))
  (pss_one (ps_ret (pe_and (pe_callH GC hr4 rfl pass0 (pa_cons (pv 9) pa_nil)) (pe_and (pe_callH GC hr4 rfl pass0 (pa_cons (pv 10) pa_nil)) (pe_and (pe_callH GR hr2 rfl pass0 (pa_cons (pv 11) pa_nil)) (pe_one (pe_callH GB hrb rfl pass0 (pa_cons (pv 4) (pa_cons (pe_op op_sub (pv 1) pe_int) pa_nil)))))))))
  (pcs_cons scIsSta.nd pm_wild
  (pss_one (ps_ret (pe_callH GM hr5 rfl pass0 (pa_cons (pv 0) pa_nil))))
  pcs_nil))))))))), ?_⟩
    have hv0 := hv
    obtain ⟨a, xs, rfl, hq, hd⟩ := stInv hv
    refine ⟨_, rfl, _, _, _, _, _, rfl, .ty _, ty_tup hq, kit_ty (r := true) (by decide +kernel), _, rfl, iteE rfl ?_⟩
    refine ⟨_, rfl, (by show 0 ≤ sizeLine; decide), fun q hq2 => ?_⟩
    have s1 := same_new (o := .tup []) hq2
    refine ⟨a, q, _, rfl, rfl, SqT.same s1 hq, SqT.of upd_same, _, rfl, iteE rfl ?_⟩
    refine ⟨_, rfl, a, _, _, _, rfl, rfl, SqT.same s1 hq, atI_nat (j := 0) rfl, _, _, _, _, _, rfl, .ty _, .base (.str _), kit_ty (r := true) (by decide +kernel), _, rfl, iteE rfl ?_⟩
    have hq3 := SqT.same s1 hq
    have hd3 : DpAll K (upd H q (.tup [])) xs (restS st) := DpAll.same s1 hd
    have hv3 := hv0.same s1
    have k3 : ∀ H', Same (upd H q (.tup [])) H' → Q (.bl true) H' := fun H' s' => k _ (s1.trans s')
    clear hq hd hv0 hv k
    generalize upd H q (.tup []) = H1 at hq3 hd3 hv3 k3 ⊢
    refine ⟨_, rfl, ?_⟩
    have em : (((d + 1 : Nat) : Int)) - 1 = ((d : Nat) : Int) := by omega
    cases st <;> simp only [wordS] at hq3
    all_goals try have em2 : ∀ x : V, [x, V.int ((((d + 1 : Nat) : Int)) - 1)] = [x, V.int (d : Int)] := fun x => by rw [em]
    case ite p q =>
      have ok : (p.length ≤ 900 ∧ okL p) ∧ (q.length ≤ 900 ∧ okL q) := ok
      have hn : max (dpB p) (dpB q) ≤ n := hn
      have hd0 : max (dpB p) (dpB q) ≤ d := hd0
      obtain ⟨x, y, rfl, h1, h2⟩ := DpAll.two hd3
      refine case_hit hq3 rfl ⟨_, _, rfl, _, _, rfl, ?_⟩
      refine ⟨_, rfl, _, rfl, _, _, rfl, rfl, x, p, d, em2 x, h1, by omega, by omega, ok.1, fun H2 s2 => ?_⟩
      refine ⟨_, rfl, iteS rfl ?_⟩
      exact ⟨_, rfl, _, rfl, _, _, rfl, rfl, y, q, d, em2 y, h2.same s2, by omega, by omega, ok.2, fun H3 s3 => k3 _ (s2.trans s3)⟩
    case whl p =>
      have ok : p.length ≤ 900 ∧ okL p := ok
      have hn : dpB p ≤ n := hn
      have hd0 : dpB p ≤ d := hd0
      obtain ⟨x, rfl, h1⟩ := DpAll.one hd3
      refine case_len hq3 (Nat.ne_of_beq_eq_false rfl) ?_
      refine case_hit hq3 rfl ⟨_, _, rfl, ?_⟩
      exact ⟨_, rfl, _, rfl, _, _, rfl, rfl, x, p, d, em2 x, h1, by omega, by omega, ok, k3⟩
    case undo ns p =>
      have ok : (ns ≠ [] ∧ okNs ns) ∧ (p.length ≤ 900 ∧ okL p) := ok
      have hn : dpB p ≤ n := hn
      have hd0 : dpB p ≤ d := hd0
      obtain ⟨x, y, rfl, h1, h2⟩ := DpAll.two hd3
      repeat (first | refine case_len hq3 (Nat.ne_of_beq_eq_false rfl) ?_ | refine case_word hq3 rfl (by decide +kernel) ?_)
      refine case_hit hq3 rfl ⟨_, _, rfl, _, _, rfl, ?_⟩
      refine ⟨_, rfl, (by show 0 ≤ sizeLine; decide), fun q hq2 => ?_⟩
      have s1 := same_new (o := .tup []) hq2
      refine ⟨_, _, h1.same s1, .tup (SqT.of upd_same) .nil, nm_shaped ok.1.2, rfl, ?_⟩
      rw [nm_ne ok.1.1]
      refine ⟨_, rfl, iteS rfl ?_⟩
      refine ⟨_, rfl, x, ns, rfl, h1.same s1, ok.1.2, fun H2 s2 => ?_⟩
      have s3 := s1.trans s2
      refine ⟨_, rfl, iteS rfl ?_⟩
      exact ⟨_, rfl, _, rfl, _, _, rfl, rfl, y, p, d, em2 y, h2.same s3, by omega, by omega, ok.2, fun H3 s4 => k3 _ (s3.trans s4)⟩
    case with_ e l ks p =>
      have ok : (okCal e ∧ okCal l ∧ okNs ks) ∧ (p.length ≤ 900 ∧ okL p) := ok
      have hn : dpB p ≤ n := hn
      have hd0 : dpB p ≤ d := hd0
      obtain ⟨x, y, z, u, rfl, h1, h2, h3, h4⟩ := DpAll.four hd3
      repeat (first | refine case_len hq3 (Nat.ne_of_beq_eq_false rfl) ?_ | refine case_word hq3 rfl (by decide +kernel) ?_)
      refine case_hit hq3 rfl ⟨_, _, rfl, _, _, rfl, _, _, rfl, _, _, rfl, ?_⟩
      refine ⟨_, rfl, x, e, rfl, h1, ok.1.1, fun H2 s2 => ?_⟩
      refine ⟨_, rfl, iteS rfl ?_⟩
      refine ⟨_, rfl, y, l, rfl, h2.same s2, ok.1.2.1, fun H3 s3 => ?_⟩
      have s4 := s2.trans s3
      refine ⟨_, rfl, iteS rfl ?_⟩
      refine ⟨_, rfl, z, ks, rfl, h3.same s4, ok.1.2.2, fun H4 s5 => ?_⟩
      have s6 := s4.trans s5
      refine ⟨_, rfl, iteS rfl ?_⟩
      exact ⟨_, rfl, _, rfl, _, _, rfl, rfl, u, p, d, em2 u, h4.same s6, by omega, by omega, ok.2, fun H3 s7 => k3 _ (s6.trans s7)⟩
    case try_ p hs q =>
      have ok : (p.length ≤ 900 ∧ okL p) ∧ (hs.length ≤ 900 ∧ okHs hs) ∧ (q.length ≤ 900 ∧ okL q) := ok
      have hn : max (dpB p) (max (dpHs hs) (dpB q)) ≤ n := hn
      have hd0 : max (dpB p) (max (dpHs hs) (dpB q)) ≤ d := hd0
      obtain ⟨x, y, z, rfl, h1, h2, h3⟩ := DpAll.three hd3
      repeat (first | refine case_len hq3 (Nat.ne_of_beq_eq_false rfl) ?_ | refine case_word hq3 rfl (by decide +kernel) ?_)
      refine case_hit hq3 rfl ⟨_, _, rfl, _, _, rfl, _, _, rfl, ?_⟩
      obtain ⟨b, ys, rfl, hb, hdb⟩ := h2.tupInv
      rw [hdsD_map] at hdb
      have ph := hdb.map
      have lh : ys.length = hs.length := Paired.length ph
      refine ⟨_, rfl, _, _, _, _, _, rfl, .ty _, ty_tup hb, kit_ty (r := true) (by decide +kernel), _, rfl, iteE rfl ?_⟩
      refine ⟨_, rfl, _, rfl, _, _, rfl, rfl, x, p, d, em2 x, h1, by omega, by omega, ok.1, fun H2 s2 => ?_⟩
      refine ⟨_, rfl, iteE rfl ?_⟩
      refine ⟨_, rfl, _, rfl, _, _, rfl, rfl, z, q, d, em2 z, h3.same s2, by omega, by omega, ok.2.2, fun H3 s3 => ?_⟩
      have s4 := s2.trans s3
      refine ⟨_, rfl, iteE rfl ?_⟩
      refine ⟨_, rfl, b, rfl, ⟨_, SqT.same s4 hb⟩, fun D hD => ?_⟩
      refine lc_tup (K := K) (a := b) (xs := ys) (fun i H' => Same H3 H' ∧ H' D = some (.lst ((List.replicate i true).map V.bl))) ⟨same_new hD, upd_same⟩ (fun i H' _ h' => SqT.same (s4.trans h'.1) hb) ?_ ?_
      · rintro i v H4 hz ⟨s5, e1⟩
        obtain ⟨hd, hza, hzd⟩ := Paired.at ph hz
        have hi : i < ys.length := (List.getElem?_eq_some_iff.mp hz).1
        have mh := List.mem_of_getElem? hza
        have dh : dpH hd ≤ dpHs hs := dpH_mem mh
        refine ⟨rfl, _, rfl, _, rfl, _, _, rfl, rfl, v, hd, d, em2 v, hzd.same (s4.trans s5), by omega, by omega, okHs_mem ok.2.1.2 mh, fun H5 s6 => ?_⟩
        refine ⟨_, s6 _ _ e1, small1000 (by rw [List.length_map, List.length_replicate]; omega), fun c o e => ?_, ?_⟩
        · rw [upd_ne (ne_of_none e hD)]
          exact s6 _ _ (s5 _ _ e)
        · rw [upd_same, List.replicate_succ', List.map_append]
          rfl
      · rintro H4 ⟨s5, e1⟩
        refine ⟨D, _, rfl, SqL.of e1, ?_⟩
        rw [show (List.replicate ys.length true).all id = true by rw [List.all_replicate]; split <;> rfl]
        exact k3 _ (s4.trans s5)
    all_goals
      first
        | obtain ⟨_, rfl, _⟩ := DpAll.one hd3
        | obtain ⟨_, _, rfl, _, _⟩ := DpAll.two hd3
        | obtain ⟨_, _, _, rfl, _⟩ := DpAll.three hd3
      repeat (first | refine case_len hq3 (Nat.ne_of_beq_eq_false rfl) ?_ | refine case_word hq3 rfl (by decide +kernel) ?_)
      exact ⟨_, rfl, _, _, rfl, hv3, ok, trivial, k3⟩
end

/-! ### is_block at every depth, is_param, is_function, is_tree -/
structure Fn where
  name : Str
  ps : List (Str × Bool)
  b : List St
structure Tr where
  names : List Str
  kinds : List Str
  keeps : List Ex
  fns : List Fn
def prD (p : Str × Bool) : PyData := .tuple [.str p.1, .bool p.2]
def fnD (f : Fn) : PyData := .tuple [.str f.name, .tuple (f.ps.map prD), blD f.b]
def trD (t : Tr) : PyData := .tuple [nmD t.names, nmD t.kinds, .tuple (t.keeps.map exD), .tuple (t.fns.map fnD)]
def okFn (n : Nat) (f : Fn) : Prop := okN1 f.name ∧ (f.ps.length ≤ 900 ∧ ∀ p ∈ f.ps, okN1 p.1) ∧ okB f.b ∧ dpB f.b ≤ n ∧ dpB f.b ≤ 30
def okTr (n : Nat) (t : Tr) : Prop := okNs t.names ∧ okNs t.kinds ∧ (t.keeps.length ≤ 900 ∧ ∀ e ∈ t.keeps, okEx e ∧ e.c = 0) ∧ t.fns.length ≤ 900 ∧ ∀ f ∈ t.fns, okFn n f
abbrev sIsPar : Stmt := topS 48
abbrev NIsPar : List Str := ["value"]
abbrev PIsPar : List Str := ["value"]
theorem scIsPar : FnScope NIsPar PIsPar (defScope sIsPar) := ⟨rfl, rfl, rfl, by decide +kernel, rfl, by decide +kernel, by decide +kernel⟩
abbrev sIsFun : Stmt := topS 49
abbrev NIsFun : List Str := ["value", "one"]
abbrev PIsFun : List Str := ["value"]
theorem scIsFun : FnScope NIsFun PIsFun (defScope sIsFun) := ⟨rfl, rfl, rfl, by decide +kernel, rfl, by decide +kernel, by decide +kernel⟩
abbrev sIsTree : Stmt := topS 50
abbrev NIsTree : List Str := ["value", "names", "kinds", "keeps", "functions", "one"]
abbrev PIsTree : List Str := ["value"]
theorem scIsTree : FnScope NIsTree PIsTree (defScope sIsTree) := ⟨rfl, rfl, rfl, by decide +kernel, rfl, by decide +kernel, by decide +kernel⟩
def spIsPar (K : PySem.W.Frag) : Sp := fun vs H Q _ => ∃ (v : V) (p : Str × Bool), vs = [v] ∧ Dp K H v (prD p) ∧ okN1 p.1 ∧ ∀ H', Same H H' → Q (.bl true) H'
def spIsFun (K : PySem.W.Frag) (n : Nat) : Sp := fun vs H Q _ => ∃ (v : V) (p : Fn), vs = [v] ∧ Dp K H v (fnD p) ∧ okFn n p ∧ ∀ H', Same H H' → Q (.bl true) H'
def spIsTree (K : PySem.W.Frag) (n : Nat) : Sp := fun vs H Q _ => ∃ (v : V) (p : Tr), vs = [v] ∧ Dp K H v (trD p) ∧ okTr n p ∧ ∀ H', Same H H' → Q (.bl true) H'
theorem Dp.blInv {K : PySem.W.Frag} {H : Hp} {v : V} {z : Bool} (h : Dp K H v (.bool z)) : v = .bl z := by cases h; rfl
section
variable {P : Program} {w : World} {K : PySem.W.Frag} {mg : Str → Option Value} {base : Heap}
theorem ok_blocks {fb fh fs : Addr} {db dh ds : FuncData} (FB : Fun K "is_block" "is_block" sIsBlk fb db) (FH : Fun K "is_handler" "is_handler" sIsHnd fh dh) (FS : Fun K "is_statement" "is_statement" sIsSta fs ds) (T : TxShape mg)
    (mb : mg "is_block" = some (.ref fb)) (kb : PySem.W.keepIn K (.ref fb) = true) (bb : Binds K db PIsBlk [])
    (mh : mg "is_handler" = some (.ref fh)) (kh : PySem.W.keepIn K (.ref fh) = true) (bh : Binds K dh PIsHnd [])
    (ms : mg "is_statement" = some (.ref fs)) (ks : PySem.W.keepIn K (.ref fs) = true) (bs : Binds K ds PIsSta [])
    (GP : Has P w K mg base CX0 1 "is_pair" PIsPair (spIsPair K)) (GM : Has P w K mg base CX0 5 "is_simple" PIsSim (spIsSim K)) (GC : Has P w K mg base CX0 4 "is_call" PIsCal (spIsCal K)) (GR : Has P w K mg base CX0 2 "is_row_of_names" PRowN (spRowN K)) : ∀ n, FnOk P w K mg base CX0 (5 + 3 * n) fb db PIsBlk (spIsBlk K n) := by
  intro n
  induction n with
  | zero => exact ⟨fun vs H Q E h => by obtain ⟨_, _, _, _, _, h, _⟩ := h; exact (no_dp h).elim, fun _ _ _ _ _ _ _ _ _ _ _ _ _ h => by obtain ⟨_, _, _, _, _, h, _⟩ := h; exact (no_dp h).elim⟩
  | succ n ih =>
    have GB : Has P w K mg base CX0 (5 + 3 * n) "is_block" PIsBlk (spIsBlk K n) := ⟨fb, db, ih, mb, kb, bb⟩
    have GH : Has P w K mg base CX0 (5 + 3 * n + 1) "is_handler" PIsHnd (spIsHnd K n) := ⟨fh, dh, ok_IsHnd FH GP GR GB, mh, kh, bh⟩
    rw [show 5 + 3 * n + 1 = 6 + 3 * n by omega] at GH
    have GS : Has P w K mg base CX0 (6 + 3 * n + 1) "is_statement" PIsSta (spIsSta K n) := ⟨fs, ds, ok_IsSta FS T GM GC GR GB GH, ms, ks, bs⟩
    rw [show 6 + 3 * n + 1 = 7 + 3 * n by omega] at GS
    have r := ok_IsBlk FB T GS
    rw [show 7 + 3 * n + 1 = 5 + 3 * (n + 1) by omega] at r
    exact r
theorem ok_IsPar {f : Addr} {fd : FuncData} (F : Fun K "is_param" "is_param" sIsPar f fd) (T : TxShape mg) (GN : Has P w K mg base CX0 1 "is_name" PIsName (spName K)) (GP : Has P w K mg base CX0 1 "is_pair" PIsPair (spIsPair K)) : FnOk P w K mg base CX0 2 f fd PIsPar (spIsPar K) := by
  refine F.ok scIsPar (fun vs H Q E h => ?_) (fun cdv A outer s H vs Q E hr h => ?_)
  · obtain ⟨v, e, rfl, _⟩ := h
    rfl
  · obtain ⟨v, p, rfl, hv, ok, k⟩ := h
    refine ⟨_, (pss_one (ps_ret (pe_and (pe_callH GP hr rfl pass0 (pa_cons (pv 0) pa_nil)) (pe_and (pe_callH GN hr rfl pass0 (pa_cons (pe_ix (r := rIxT K) ix_tup (pv 0) pe_int (fun _ _ => rfl)) pa_nil)) (pe_one (pe_callB call_isi (by rfl) T.n_isinstance bb_isinstance (pa_cons (pe_ix (r := rIxT K) ix_tup (pv 0) pe_int (fun _ _ => rfl)) (pa_cons (pe_bltn (v := .ty "bool") (by rfl) T.n_bool bb_bool rfl) pa_nil)))))))), ?_⟩
    have hv : Dp K H v (.tuple [.str p.1, .bool p.2]) := hv
    obtain ⟨a, xs, rfl, hq, hd⟩ := hv.tupInv
    obtain ⟨x, y, rfl, hx, hy⟩ := hd.two
    rw [hx.strInv, Dp.blInv hy] at hq
    refine ⟨_, rfl, a, _, rfl, hq, _, rfl, iteS rfl ?_⟩
    refine ⟨_, rfl, a, _, _, _, rfl, rfl, hq, rfl, _, rfl, .inl ⟨_, rfl, Nat.le_trans ok.2 (by decide), ?_⟩⟩
    rw [ok.1]
    refine ⟨_, rfl, iteS rfl ?_⟩
    refine ⟨_, rfl, a, _, _, _, rfl, rfl, hq, rfl, _, _, _, _, _, rfl, .ty _, .base (.bl _), kit_ty (r := true) (by decide +kernel), ?_⟩
    exact k _ (Same.refl _)
theorem ok_IsFun {n : Nat} {f : Addr} {fd : FuncData} (F : Fun K "is_function" "is_function" sIsFun f fd) (T : TxShape mg) (cD : ∃ u, mg "DEEPEST" = some u ∧ RelV (.int 30) u) (GN : Has P w K mg base CX0 1 "is_name" PIsName (spName K)) (GP : Has P w K mg base CX0 2 "is_param" PIsPar (spIsPar K)) (GB : Has P w K mg base CX0 (5 + 3 * n) "is_block" PIsBlk (spIsBlk K n)) : FnOk P w K mg base CX0 (5 + 3 * n + 1) f fd PIsFun (spIsFun K n) := by
  refine F.ok scIsFun (fun vs H Q E h => ?_) (fun cdv A outer s H vs Q E hr h => ?_)
  · obtain ⟨v, e, rfl, _⟩ := h
    rfl
  · obtain ⟨v, p, rfl, hv, ok, k⟩ := h
    have hr1 := hr.mono (j := 1) (by omega)
    have hr2 := hr.mono (j := 2) (by omega)
    refine ⟨_, (pss_cons (ps_if (PW.pt (pw_or (pt_not (pt_val (pe_callB call_isi (by rfl) T.n_isinstance bb_isinstance (pa_cons (pv 0) (pa_cons (pe_bltn (v := .ty "tuple") (by rfl) T.n_tuple bb_tuple rfl) pa_nil))))) (pw_or (pt_cmpR op_ne (pe_callB call_len_seq (by rfl) T.n_len bb_len (pa_cons (pv 0) pa_nil)) pe_int (nomark _)) (pw_or (pt_not (pt_val (pe_callH GN hr1 rfl pass0 (pa_cons (pe_ix (r := rIxT K) ix_tup (pv 0) pe_int (fun _ _ => rfl)) pa_nil)))) (pw_or1 (pt_not (pt_val (pe_callB call_isi (by rfl) T.n_isinstance bb_isinstance (pa_cons (pe_ix (r := rIxT K) ix_tup (pv 0) pe_int (fun _ _ => rfl)) (pa_cons (pe_bltn (v := .ty "tuple") (by rfl) T.n_tuple bb_tuple rfl) pa_nil))))))))))
  (pss_one (ps_ret pe_bl))
  pss_nil)
  (pss_one (ps_ret (pe_and (pe_callB (cr_all rfl) (by rfl) T.n_all bb_all (pa_cons (pe_lc (own := [("one", 1)]) (g := gName 1) (tt := tYes) rfl scIsFun.nd (pi_tup (pe_ix (r := rIxT K) ix_tup (pv 0) pe_int (fun _ _ => rfl))) (blkOk_by (own := [("one", 1)]) (N := NIsFun) (sc := (defScope sIsFun)) (by decide +kernel)) (fun _ _ _ _ _ => (pg_name (i := 1) scIsFun.nd rfl (Or.inl rfl))) (fun _ _ _ _ _ => pts_nil) (fun _ _ _ _ _ => (pe_callH GP hr2 rfl pass0 (pa_cons (pv 1) pa_nil)))) pa_nil)) (pe_one (pe_callH GB hr rfl pass0 (pa_cons (pe_ix (r := rIxT K) ix_tup (pv 0) pe_int (fun _ _ => rfl)) (pa_cons (pe_globE rfl cD) pa_nil)))))))), ?_⟩
    have hv : Dp K H v (.tuple [.str p.name, .tuple (p.ps.map prD), blD p.b]) := hv
    obtain ⟨a, xs, rfl, hq, hd⟩ := hv.tupInv
    obtain ⟨x, y, z, rfl, hx, hy, hz⟩ := hd.three
    obtain ⟨b, ys, rfl, hb, hyd⟩ := hy.tupInv
    have pt := DpAll.map hyd
    have ok1 : p.ps.length ≤ 900 := ok.2.1.1
    have ly : ys.length = p.ps.length := Paired.length pt
    rw [hx.strInv] at hq
    refine ⟨_, rfl, _, _, _, _, _, rfl, .ty _, ty_tup hq, kit_ty (r := true) (by decide +kernel), _, rfl, iteE rfl ?_⟩
    refine ⟨_, rfl, a, _, rfl, .inr hq, rfl, _, rfl, iteE rfl ?_⟩
    refine ⟨_, rfl, a, _, _, _, rfl, rfl, hq, rfl, _, rfl, .inl ⟨_, rfl, Nat.le_trans ok.1.2 (by decide), ?_⟩⟩
    rw [ok.1.1]
    refine ⟨_, rfl, iteE rfl ?_⟩
    refine ⟨_, rfl, a, _, _, _, rfl, rfl, hq, rfl, _, _, _, _, _, rfl, .ty _, ty_tup hb, kit_ty (r := true) (by decide +kernel), _, rfl, iteE rfl ?_⟩
    refine ⟨_, rfl, a, _, _, _, rfl, rfl, hq, rfl, b, rfl, ⟨_, hb⟩, fun D hD => ?_⟩
    refine lc_tup (K := K) (a := b) (xs := ys) (fun i H' => Same H H' ∧ H' D = some (.lst ((List.replicate i true).map V.bl))) ⟨same_new hD, upd_same⟩ (fun i H' _ h' => SqT.same h'.1 hb) ?_ ?_
    · rintro i v H1 hz ⟨s1, e1⟩
      obtain ⟨z, hza, hzd⟩ := Paired.at pt hz
      have hi : i < ys.length := (List.getElem?_eq_some_iff.mp hz).1
      refine ⟨rfl, _, rfl, v, z, rfl, hzd.same s1, ok.2.1.2 z (List.mem_of_getElem? hza), fun H2 s2 => ?_⟩
      refine ⟨_, s2 _ _ e1, small1000 (by rw [List.length_map, List.length_replicate]; omega), fun c o e => ?_, ?_⟩
      · rw [upd_ne (ne_of_none e hD)]
        exact s2 _ _ (s1 _ _ e)
      · rw [upd_same, List.replicate_succ', List.map_append]
        rfl
    · rintro H1 ⟨s1, e1⟩
      refine ⟨D, _, rfl, SqL.of e1, ?_⟩
      rw [show (List.replicate ys.length true).all id = true by rw [List.all_replicate]; split <;> rfl]
      refine ⟨_, rfl, iteS rfl ?_⟩
      exact ⟨_, rfl, a, _, _, _, rfl, rfl, SqT.same s1 hq, rfl, z, p.b, 30, rfl, hz.same s1, ok.2.2.2.1, ok.2.2.2.2, ok.2.2.1, fun H' s' => k _ (s1.trans s')⟩
theorem ok_IsTree {n : Nat} {f : Addr} {fd : FuncData} (F : Fun K "is_tree" "is_tree" sIsTree f fd) (T : TxShape mg) (GR : Has P w K mg base CX0 2 "is_row_of_names" PRowN (spRowN K)) (GE : Has P w K mg base CX0 2 "is_expression" PIsExp (spIsExp K)) (GF : Has P w K mg base CX0 (6 + 3 * n) "is_function" PIsFun (spIsFun K n)) : FnOk P w K mg base CX0 (6 + 3 * n + 1) f fd PIsTree (spIsTree K n) := by
  refine F.ok scIsTree (fun vs H Q E h => ?_) (fun cdv A outer s H vs Q E hr h => ?_)
  · obtain ⟨v, e, rfl, _⟩ := h
    rfl
  · obtain ⟨v, p, rfl, hv, ok, k⟩ := h
    have hr2 := hr.mono (j := 2) (by omega)
    refine ⟨_, (pss_cons (ps_if (PW.pt (pw_or (pt_not (pt_val (pe_callB call_isi (by rfl) T.n_isinstance bb_isinstance (pa_cons (pv 0) (pa_cons (pe_bltn (v := .ty "tuple") (by rfl) T.n_tuple bb_tuple rfl) pa_nil))))) (pw_or1 (pt_cmpR op_ne (pe_callB call_len_seq (by rfl) T.n_len bb_len (pa_cons (pv 0) pa_nil)) pe_int (nomark _)))))
  (pss_one (ps_ret pe_bl))
  pss_nil)
  (pss_cons (ps_asg (pv 0) (pg_tup (by rfl) (pgs_cons (pg_name (i := 1) scIsTree.nd rfl (Or.inl rfl)) (pgs_cons (pg_name (i := 2) scIsTree.nd rfl (Or.inl rfl)) (pgs_cons (pg_name (i := 3) scIsTree.nd rfl (Or.inl rfl)) (pgs_cons (pg_name (i := 4) scIsTree.nd rfl (Or.inl rfl)) pgs_nil))))))
  (pss_cons (ps_if (PW.pt (pw_or (pt_not (pt_val (pe_callH GR hr2 rfl pass0 (pa_cons (pv 1) pa_nil)))) (pw_or1 (pt_not (pt_val (pe_callH GR hr2 rfl pass0 (pa_cons (pv 2) pa_nil)))))))
  (pss_one (ps_ret pe_bl))
  pss_nil)
  (pss_cons (ps_if (PW.pt (pw_or (pt_not (pt_val (pe_callB call_isi (by rfl) T.n_isinstance bb_isinstance (pa_cons (pv 3) (pa_cons (pe_bltn (v := .ty "tuple") (by rfl) T.n_tuple bb_tuple rfl) pa_nil))))) (pw_or1 (pt_not (pt_val (pe_callB (cr_all rfl) (by rfl) T.n_all bb_all (pa_cons (pe_lc (own := [("one", 5)]) (g := gName 5) (tt := tYes) rfl scIsTree.nd (pi_tup (pv 3)) (blkOk_by (own := [("one", 5)]) (N := NIsTree) (sc := (defScope sIsTree)) (by decide +kernel)) (fun _ _ _ _ _ => (pg_name (i := 5) scIsTree.nd rfl (Or.inl rfl))) (fun _ _ _ _ _ => pts_nil) (fun _ _ _ _ _ => (pe_and (pe_callH GE hr2 rfl pass0 (pa_cons (pv 5) pa_nil)) (pe_one (pe_cmpR op_eq (pe_ix (r := rIxT K) ix_tup (pv 5) pe_int (fun _ _ => rfl)) pe_int (nomark _)))))) pa_nil)))))))
  (pss_one (ps_ret pe_bl))
  pss_nil)
  (pss_one (ps_ret (pe_and (pe_callB call_isi (by rfl) T.n_isinstance bb_isinstance (pa_cons (pv 4) (pa_cons (pe_bltn (v := .ty "tuple") (by rfl) T.n_tuple bb_tuple rfl) pa_nil))) (pe_one (pe_callB (cr_all rfl) (by rfl) T.n_all bb_all (pa_cons (pe_lc (own := [("one", 5)]) (g := gName 5) (tt := tYes) rfl scIsTree.nd (pi_tup (pv 4)) (blkOk_by (own := [("one", 5)]) (N := NIsTree) (sc := (defScope sIsTree)) (by decide +kernel)) (fun _ _ _ _ _ => (pg_name (i := 5) scIsTree.nd rfl (Or.inl rfl))) (fun _ _ _ _ _ => pts_nil) (fun _ _ _ _ _ => (pe_callH GF hr rfl pass0 (pa_cons (pv 5) pa_nil)))) pa_nil)))))))))), ?_⟩
    have hv : Dp K H v (.tuple [nmD p.names, nmD p.kinds, .tuple (p.keeps.map exD), .tuple (p.fns.map fnD)]) := hv
    obtain ⟨okn, okk, oke, lf, okf⟩ := ok
    obtain ⟨a, xs, rfl, hq, hd⟩ := hv.tupInv
    obtain ⟨x, y, z, u, rfl, hx, hy, hz, hu⟩ := hd.four
    obtain ⟨b, ys, rfl, hb, hyd⟩ := hz.tupInv
    obtain ⟨c, zs, rfl, hc, hzd⟩ := hu.tupInv
    have pt := DpAll.map hyd
    have pf := DpAll.map hzd
    have ly : ys.length = p.keeps.length := Paired.length pt
    have lz : zs.length = p.fns.length := Paired.length pf
    have ok1 := oke.1
    refine ⟨_, rfl, _, _, _, _, _, rfl, .ty _, ty_tup hq, kit_ty (r := true) (by decide +kernel), _, rfl, iteE rfl ?_⟩
    refine ⟨_, rfl, a, _, rfl, .inr hq, rfl, _, rfl, iteE rfl ?_⟩
    refine ⟨_, rfl, a, _, rfl, hq, rfl, _, _, rfl, _, _, rfl, _, _, rfl, _, _, rfl, rfl, ?_⟩
    refine ⟨_, rfl, x, _, rfl, hx, okn, fun H1 s1 => ?_⟩
    refine ⟨_, rfl, iteE rfl ?_⟩
    refine ⟨_, rfl, y, _, rfl, hy.same s1, okk, fun H2 s2 => ?_⟩
    have s3 := s1.trans s2
    refine ⟨_, rfl, iteE rfl ?_⟩
    refine ⟨_, rfl, _, _, _, _, _, rfl, .ty _, ty_tup (SqT.same s3 hb), kit_ty (r := true) (by decide +kernel), _, rfl, iteE rfl ?_⟩
    refine ⟨_, rfl, b, rfl, ⟨_, SqT.same s3 hb⟩, fun D hD => ?_⟩
    refine lc_tup (K := K) (a := b) (xs := ys) (fun i H' => Same H2 H' ∧ H' D = some (.lst ((List.replicate i true).map V.bl))) ⟨same_new hD, upd_same⟩ (fun i H' _ h' => SqT.same (s3.trans h'.1) hb) ?_ ?_
    · rintro i v H4 hz ⟨s5, e1⟩
      obtain ⟨e, hza, hzd⟩ := Paired.at pt hz
      have hi : i < ys.length := (List.getElem?_eq_some_iff.mp hz).1
      have oe := oke.2 e (List.mem_of_getElem? hza)
      refine ⟨rfl, _, rfl, v, e, rfl, hzd.same (s3.trans s5), oe.1, fun H5 s6 => ?_⟩
      refine ⟨_, rfl, iteS rfl ?_⟩
      obtain ⟨d, us, rfl, hd5, hdd⟩ := Dp.tupInv (hzd.same ((s3.trans s5).trans s6))
      obtain ⟨q, r, rfl, hq5, _⟩ := hdd.two
      rw [hq5.intInv, oe.2] at hd5
      refine ⟨_, rfl, d, _, _, _, rfl, rfl, hd5, rfl, rfl, ?_⟩
      refine ⟨_, s6 _ _ e1, small1000 (by rw [List.length_map, List.length_replicate]; omega), fun c o e => ?_, ?_⟩
      · rw [upd_ne (ne_of_none e hD)]
        exact s6 _ _ (s5 _ _ e)
      · rw [upd_same, List.replicate_succ', List.map_append]
        rfl
    · rintro H4 ⟨s5, e1⟩
      have s6 := s3.trans s5
      refine ⟨D, _, rfl, SqL.of e1, ?_⟩
      rw [show (List.replicate ys.length true).all id = true by rw [List.all_replicate]; split <;> rfl]
      refine ⟨_, rfl, iteE rfl ?_⟩
      refine ⟨_, rfl, _, _, _, _, _, rfl, .ty _, ty_tup (SqT.same s6 hc), kit_ty (r := true) (by decide +kernel), _, rfl, iteS rfl ?_⟩
      refine ⟨_, rfl, c, rfl, ⟨_, SqT.same s6 hc⟩, fun D hD => ?_⟩
      refine lc_tup (K := K) (a := c) (xs := zs) (fun i H' => Same H4 H' ∧ H' D = some (.lst ((List.replicate i true).map V.bl))) ⟨same_new hD, upd_same⟩ (fun i H' _ h' => SqT.same (s6.trans h'.1) hc) ?_ ?_
      · rintro i v H5 hz ⟨s7, e1⟩
        obtain ⟨z, hza, hzd⟩ := Paired.at pf hz
        have hi : i < zs.length := (List.getElem?_eq_some_iff.mp hz).1
        refine ⟨rfl, _, rfl, v, z, rfl, hzd.same (s6.trans s7), okf z (List.mem_of_getElem? hza), fun H6 s8 => ?_⟩
        refine ⟨_, s8 _ _ e1, small1000 (by rw [List.length_map, List.length_replicate]; omega), fun c o e => ?_, ?_⟩
        · rw [upd_ne (ne_of_none e hD)]
          exact s8 _ _ (s7 _ _ e)
        · rw [upd_same, List.replicate_succ', List.map_append]
          rfl
      · rintro H5 ⟨s7, e1⟩
        refine ⟨D, _, rfl, SqL.of e1, ?_⟩
        rw [show (List.replicate zs.length true).all id = true by rw [List.all_replicate]; split <;> rfl]
        exact k _ (s6.trans s7)
end

/-! ### assigned_names, own_names -/
abbrev sAsg : Stmt := topS 20
abbrev NAsg : List Str := ["block", "found", "number", "statement"]
abbrev PAsg : List Str := ["block"]
theorem scAsg : FnScope NAsg PAsg (defScope sAsg) := ⟨rfl, rfl, rfl, by decide +kernel, rfl, by decide +kernel, by decide +kernel⟩
def asgS : St → Option Str
  | .set t _ => some t
  | .input t => some t
  | .call t _ _ => t
  | _ => none
def asgB (b : List St) : List Str := (allB b 0).filterMap fun p => asgS p.2
def spAsg (K : PySem.W.Frag) (n : Nat) : Sp := fun vs H Q _ => ∃ (v : V) (b : List St), vs = [v] ∧ Dp K H v (blD b) ∧ dpB b ≤ n ∧ okB b ∧ szB b ≤ 900 ∧ ∀ (q : Addr) (H' : Hp), Same H H' → H q = none → H' q = some (.lst ((asgB b).map V.str)) → Q (.ref q) H'
theorem filterMap_snoc {α β : Type} {f : α → Option β} {l : List α} {j : Nat} {x : α} (h : l[j]? = some x) : (l.take (j + 1)).filterMap f = (l.take j).filterMap f ++ (f x).toList := by
  rw [take_snoc h, List.filterMap_append]
  congr 1
section
variable {P : Program} {w : World} {K : PySem.W.Frag} {mg : Str → Option Value} {base : Heap}
theorem ok_Asg {n : Nat} {f : Addr} {fd : FuncData} (F : Fun K "assigned_names" "assigned_names" sAsg f fd) (GA : Has P w K mg base CX0 (4 + n) "all_numbered" PAllN (spAllN K n)) : FnOk P w K mg base CX0 (4 + n + 1) f fd PAsg (spAsg K n) := by
  refine F.ok scAsg (fun vs H Q E h => ?_) (fun cdv A outer s H vs Q E hr h => ?_)
  · obtain ⟨v, e, rfl, _⟩ := h
    rfl
  · obtain ⟨v, b, rfl, hv, hn, ok, sz, k⟩ := h
    refine ⟨_, (pss_cons (ps_set (i := 1) scAsg.nd rfl (Or.inl rfl) (pe_lst pa_nil))
  (pss_cons (ps_for PassesOwn.never rfl (pi_list (pe_callH GA hr rfl pass0 (pa_cons (pv 0) (pa_cons pe_int pa_nil)))) (pg_tup (by rfl) (pgs_cons (pg_name (i := 2) scAsg.nd rfl (Or.inl rfl)) (pgs_cons (pg_name (i := 3) scAsg.nd rfl (Or.inl rfl)) pgs_nil)))
  (pss_one (ps_if (PW.pt (pw_and (pt_cmpR op_in_seq (pe_ix (r := rIxT K) ix_tup (pv 3) pe_int (fun _ _ => rfl)) (pe_tup (pa_cons pe_str (pa_cons pe_str (pa_cons pe_str pa_nil)))) (by rfl)) (pw_and1 (pt_cmpR op_notN (pe_ix (r := rIxT K) ix_tup (pv 3) pe_int (fun _ _ => rfl)) pe_non (nomark _)))))
  (pss_one (ps_expr (pe_bm PySem.F.plainAttrs_list PySem.F.slot_list_append PySem.F.type_list_append mt_append (pv 1) (pa_cons (pe_ix (r := rIxT K) ix_tup (pv 3) pe_int (fun _ _ => rfl)) pa_nil))))
  pss_nil)))
  (pss_one (ps_ret (pv 1))))), ?_⟩
    refine ⟨(by show 0 ≤ sizeLine; decide), fun q hq => ?_⟩
    have s1 := same_new (o := .lst []) hq
    refine ⟨_, rfl, v, b, 0, rfl, hv.same s1, hn, ok, sz, fun L xs H2 s2 fL eL pL => ?_⟩
    have t2 := s1.trans s2
    have qL : q ≠ L := ne_of_none upd_same fL
    have tot : (allB b 0).length ≤ 900 := by rw [allB_len]; exact sz
    refine ⟨L, rfl, ⟨_, SqL.of eL⟩, ?_⟩
    refine for_list (K := K) (a := L) (xs := xs) (fun j σ H' => ∃ x2 x3 : Option V, σ = [some v, some (.ref q), x2, x3] ∧ Same H H' ∧ Tps H2 H' ∧ H' L = some (.lst xs) ∧ H' q = some (.lst ((((allB b 0).take j).filterMap fun p => asgS p.2).map V.str))) ⟨_, _, rfl, t2, Tps.refl, eL, s2 _ _ upd_same⟩ (fun j σ H' _ h' => by obtain ⟨_, _, _, _, _, z, _⟩ := h'; exact SqL.of z) ?_ ?_
    · rintro j x σ H3 hx ⟨x2, x3, rfl, s3, t3, eL3, eq⟩
      obtain ⟨⟨num, st⟩, hp, hpd⟩ := Paired.at pL hx
      have hj : j < xs.length := (List.getElem?_eq_some_iff.mp hx).1
      obtain ⟨a, u, rfl, hqa, hd⟩ := hpd.tps t3
      obtain ⟨c, ys, rfl, hc, hcd⟩ := stInv hd
      refine ⟨a, _, rfl, hqa, rfl, _, _, rfl, _, _, rfl, rfl, ?_⟩
      refine ⟨_, rfl, c, _, _, _, rfl, rfl, hc, atI_nat (j := 0) rfl, (by show 3 ≤ sizeLine; decide), fun t ht => ?_⟩
      have s4 := same_new (o := .tup [.str "set", .str "input", .str "call"]) ht
      have hc4 := SqT.same s4 hc
      have eq4 := s4 _ _ eq
      have hcd4 := DpAll.same s4 hcd
      have hpre : ((allB b 0).take (j + 1)).filterMap (fun p => asgS p.2) = ((allB b 0).take j).filterMap (fun p => asgS p.2) ++ (asgS st).toList := filterMap_snoc (f := fun p : Nat × St => asgS p.2) hp
      have lq : ((((allB b 0).take j).filterMap fun p => asgS p.2).map V.str).length < 1000 := by
        rw [List.length_map]
        have l1 := List.length_filterMap_le (fun p : Nat × St => asgS p.2) ((allB b 0).take j)
        rw [List.length_take] at l1
        omega
      have finN : asgS st = none → Same H (upd H3 t (.tup [.str "set", .str "input", .str "call"])) ∧ Tps H2 (upd H3 t (.tup [.str "set", .str "input", .str "call"])) ∧ upd H3 t (.tup [.str "set", .str "input", .str "call"]) L = some (.lst xs) ∧ upd H3 t (.tup [.str "set", .str "input", .str "call"]) q = some (.lst ((((allB b 0).take (j + 1)).filterMap fun p => asgS p.2).map V.str)) := fun e => by
        rw [hpre, e]
        refine ⟨s3.trans s4, t3.trans (Tps.of s4), s4 _ _ eL3, ?_⟩
        rw [Option.toList_none, List.append_nil]
        exact eq4
      have et : upd H3 t (.tup [.str "set", .str "input", .str "call"]) t = some (.tup [.str "set", .str "input", .str "call"]) := upd_same
      generalize upd H3 t (.tup [.str "set", .str "input", .str "call"]) = H4 at *
      have fin : ∀ nm, asgS st = some nm → Same H (upd H4 q (.lst ((((allB b 0).take j).filterMap fun p => asgS p.2).map V.str ++ [.str nm]))) ∧ Tps H2 (upd H4 q (.lst ((((allB b 0).take j).filterMap fun p => asgS p.2).map V.str ++ [.str nm]))) ∧ (upd H4 q (.lst ((((allB b 0).take j).filterMap fun p => asgS p.2).map V.str ++ [.str nm]))) L = some (.lst xs) ∧ (upd H4 q (.lst ((((allB b 0).take j).filterMap fun p => asgS p.2).map V.str ++ [.str nm]))) q = some (.lst ((((allB b 0).take (j + 1)).filterMap fun p => asgS p.2).map V.str)) := fun nm e => by
        refine ⟨fun c o z => ?_, t3.trans ((Tps.of s4).trans (Tps.lst eq4)), ?_, ?_⟩
        · rw [upd_ne (ne_of_none z hq)]
          exact s4 _ _ (s3 _ _ z)
        · rw [upd_ne qL.symm]
          exact s4 _ _ eL3
        · rw [upd_same, hpre, e, List.map_append]
          rfl
      clear hpre hp hpd hd hc hcd hqa
      cases st <;> simp only [wordS] at hc4
      case set g e =>
        obtain ⟨x, y, rfl, h1, h2⟩ := hcd4.two
        rw [h1.strInv] at hc4
        refine ⟨t, _, rfl, .inr (SqT.of et), rfl, rfl, _, rfl, iteS (by simp only [wordS]; decide +kernel) ?_⟩
        refine ⟨_, rfl, c, _, _, _, rfl, rfl, hc4, atI_nat (j := 1) rfl, rfl, _, rfl, iteS (by rw [decide_eq_false (fun z => by cases z)]; rfl) ?_⟩
        refine ⟨_, rfl, .inl ⟨rfl, _, SqL.of eq4⟩, _, rfl, c, _, _, _, rfl, rfl, hc4, atI_nat (j := 1) rfl, q, _, _, rfl, rfl, eq4, small1000 (Nat.le_of_lt lq), ?_⟩
        exact ⟨_, _, rfl, fin g rfl⟩
      case input g =>
        obtain ⟨x, rfl, h1⟩ := hcd4.one
        rw [h1.strInv] at hc4
        refine ⟨t, _, rfl, .inr (SqT.of et), rfl, rfl, _, rfl, iteS (by simp only [wordS]; decide +kernel) ?_⟩
        refine ⟨_, rfl, c, _, _, _, rfl, rfl, hc4, atI_nat (j := 1) rfl, rfl, _, rfl, iteS (by rw [decide_eq_false (fun z => by cases z)]; rfl) ?_⟩
        refine ⟨_, rfl, .inl ⟨rfl, _, SqL.of eq4⟩, _, rfl, c, _, _, _, rfl, rfl, hc4, atI_nat (j := 1) rfl, q, _, _, rfl, rfl, eq4, small1000 (Nat.le_of_lt lq), ?_⟩
        exact ⟨_, _, rfl, fin g rfl⟩
      case call g gg as =>
        obtain ⟨x, y, z, rfl, h1, h2, h3⟩ := hcd4.three
        refine ⟨t, _, rfl, .inr (SqT.of et), rfl, rfl, _, rfl, iteS (by simp only [wordS]; decide +kernel) ?_⟩
        cases g with
        | none =>
          cases h1
          refine ⟨_, rfl, c, _, _, _, rfl, rfl, hc4, atI_nat (j := 1) rfl, rfl, _, rfl, iteE (by rw [decide_eq_true rfl]; rfl) ?_⟩
          exact ⟨_, _, rfl, finN rfl⟩
        | some g =>
          rw [show optD (some g) = .str g from rfl] at h1
          rw [h1.strInv] at hc4
          refine ⟨_, rfl, c, _, _, _, rfl, rfl, hc4, atI_nat (j := 1) rfl, rfl, _, rfl, iteS (by rw [decide_eq_false (fun z => by cases z)]; rfl) ?_⟩
          refine ⟨_, rfl, .inl ⟨rfl, _, SqL.of eq4⟩, _, rfl, c, _, _, _, rfl, rfl, hc4, atI_nat (j := 1) rfl, q, _, _, rfl, rfl, eq4, small1000 (Nat.le_of_lt lq), ?_⟩
          exact ⟨_, _, rfl, fin g rfl⟩
      all_goals
        refine ⟨t, _, rfl, .inr (SqT.of et), rfl, rfl, _, rfl, iteE (by simp only [wordS]; decide +kernel) ?_⟩
        exact ⟨_, _, rfl, finN rfl⟩
    · rintro σ H3 ⟨x2, x3, rfl, s3, t3, eL3, eq⟩
      rw [Paired.length pL, List.take_length] at eq
      exact ⟨_, rfl, k q H3 s3 hq eq⟩
end

/-! ### own_names -/
abbrev sOwn : Stmt := topS 51
abbrev NOwn : List Str := ["tree", "function", "name", "params", "block", "found", "one", "by_place", "size"]
abbrev POwn : List Str := ["tree", "function"]
theorem scOwn : FnScope NOwn POwn (defScope sOwn) := ⟨rfl, rfl, rfl, by decide +kernel, rfl, by decide +kernel, by decide +kernel⟩
theorem inV_mem {n : Str} {l : List Str} : inV (.str n) (l.map V.str) = decide (n ∈ l) := by
  rw [Bool.eq_iff_iff, decide_eq_true_eq]
  unfold inV
  rw [List.any_eq_true]
  constructor
  · rintro ⟨v, hv, e⟩
    obtain ⟨o, ho, rfl⟩ := List.mem_map.mp hv
    have e : o = n := by unfold eqV at e; simpa using e
    exact e ▸ ho
  · intro h
    exact ⟨.str n, List.mem_map.mpr ⟨n, h, rfl⟩, by unfold eqV; simp⟩
theorem dp_strs {K : PySem.W.Frag} {H : Hp} : ∀ {gs : List V} {l : List Str}, DpAll K H gs (l.map PyData.str) → gs = l.map V.str
  | _, [], h => DpAll.nilInv h
  | _, x :: r, h => by
    obtain ⟨v, vr, rfl, h1, h2⟩ := DpAll.consInv h
    rw [h1.strInv, dp_strs h2]
    rfl
theorem flat_strs (l : List Str) : (l.map V.str).all flatV = true := by
  rw [List.all_map, List.all_eq_true]
  intro x _
  rfl
theorem cut_take {xs : List V} {k : Nat} : cutV xs none (some (k : Int)) = xs.take k := by
  unfold cutV
  rw [HT.sIx_none, HT.sIx_nat, List.drop_zero]
  rw [Nat.sub_zero, List.take_eq_take_iff]
  omega
theorem cut_drop {xs : List V} {k : Nat} : cutV xs (some (k : Int)) none = xs.drop k := by
  unfold cutV
  rw [HT.sIx_none, HT.sIx_nat]
  rcases Nat.le_or_ge k xs.length with h | h
  · rw [Nat.min_eq_left h, List.take_of_length_le]
    rw [List.length_drop]
    exact Nat.le_refl _
  · rw [Nat.min_eq_right h, List.drop_of_length_le (Nat.le_refl _), List.drop_of_length_le h]
    simp
theorem none_same {H H' : Hp} {q : Addr} (s : Same H H') (h : H' q = none) : H q = none := by
  cases e : H q with
  | none => rfl
  | some o => rw [s _ _ e] at h; cases h
/-- a name joins those found -/
def stepO (gl acc : List Str) (x : Str) : List Str := if x ∈ acc ∨ x ∈ gl then acc else acc ++ [x]
def ownF (gl ps : List Str) (b : List St) : List Str := (asgB b).foldl (stepO gl) ps
theorem ownF_len {gl : List Str} : ∀ {l acc : List Str}, acc.length ≤ (l.foldl (stepO gl) acc).length ∧ (l.foldl (stepO gl) acc).length ≤ acc.length + l.length
  | [], acc => ⟨Nat.le_refl _, Nat.le_refl _⟩
  | x :: r, acc => by
    have ih := ownF_len (gl := gl) (l := r) (acc := stepO gl acc x)
    have e : (stepO gl acc x).length = acc.length ∨ (stepO gl acc x).length = acc.length + 1 := by
      unfold stepO
      split
      · exact .inl rfl
      · exact .inr (by rw [List.length_append]; rfl)
    rw [List.foldl_cons, List.length_cons]
    omega
theorem ownF_pre {gl : List Str} : ∀ {l acc : List Str}, (l.foldl (stepO gl) acc).take acc.length = acc
  | [], acc => List.take_length
  | x :: r, acc => by
    have ih := ownF_pre (gl := gl) (l := r) (acc := stepO gl acc x)
    rw [List.foldl_cons]
    have e : stepO gl acc x = acc ∨ stepO gl acc x = acc ++ [x] := by
      unfold stepO
      split
      · exact .inl rfl
      · exact .inr rfl
    rcases e with e | e
    · rw [e] at ih ⊢
      exact ih
    · rw [e] at ih ⊢
      have h2 := congrArg (List.take acc.length) ih
      rw [List.take_take, List.length_append, Nat.min_eq_left (Nat.le_add_right _ _)] at h2
      rw [h2, List.take_append_of_le_length (Nat.le_refl _), List.take_length]
def innerF (gl ps : List Str) (b : List St) : List Str := (ownF gl ps b).drop ps.length
def prs (f : Fn) : List Str := f.ps.map Prod.fst
def spOwn (K : PySem.W.Frag) (n : Nat) : Sp := fun vs H Q _ => ∃ (v u : V) (t : Tr) (f : Fn), vs = [v, u] ∧ Dp K H v (trD t) ∧ t.names.length ≤ 900 ∧ Dp K H u (fnD f) ∧ okFn n f ∧ szB f.b ≤ 900 ∧ f.ps.length ≤ 50 ∧ ∀ (r a c : Addr) (H' : Hp), Same H H' → H r = none → H a = none → H c = none → a ≠ c → H' r = some (.tup [.ref a, .ref c]) → H' a = some (.lst ((prs f).map V.str)) → H' c = some (.lst ((innerF t.names (prs f) f.b).map V.str)) → Q (.ref r) H'
section
variable {P : Program} {w : World} {K : PySem.W.Frag} {mg : Str → Option Value} {base : Heap}
theorem ok_Own {n : Nat} {f : Addr} {fd : FuncData} (F : Fun K "own_names" "own_names" sOwn f fd) (T : TxShape mg) (GA : Has P w K mg base CX0 (4 + n + 1) "assigned_names" PAsg (spAsg K n)) : FnOk P w K mg base CX0 (4 + n + 1 + 1) f fd POwn (spOwn K n) := by
  refine F.ok scOwn (fun vs H Q E h => ?_) (fun cdv A outer s H vs Q E hr h => ?_)
  · obtain ⟨v, u, t, e, rfl, _⟩ := h
    rfl
  · obtain ⟨v, u, t, e, rfl, hv, ln, hu, ok, sz, lps, k⟩ := h
    refine ⟨_, (pss_cons (ps_asg (pv 1) (pg_tup (by rfl) (pgs_cons (pg_name (i := 2) scOwn.nd rfl (Or.inl rfl)) (pgs_cons (pg_name (i := 3) scOwn.nd rfl (Or.inl rfl)) (pgs_cons (pg_name (i := 4) scOwn.nd rfl (Or.inl rfl)) pgs_nil)))))
  (pss_cons (ps_setLc (i := 5) (own := [("one", 6), ("by_place", 7)]) (g := gTup K 2 (gCons (gName 6) (gCons (gName 7) gNil))) (tt := tYes) rfl scOwn.nd rfl rfl (sw_true rfl rfl rfl (by decide +kernel)) (pi_tup (pv 3)) (blkOk_by (own := [("one", 6), ("by_place", 7)]) (N := NOwn) (sc := (defScope sOwn)) (by decide +kernel)) (fun _ _ _ _ _ => (pg_tup (by rfl) (pgs_cons (pg_name (i := 6) scOwn.nd rfl (Or.inl rfl)) (pgs_cons (pg_name (i := 7) scOwn.nd rfl (Or.inl rfl)) pgs_nil)))) (fun _ _ _ _ _ => pts_nil) (fun _ _ _ _ _ => (pv 6)))
  (pss_cons (ps_set (i := 8) scOwn.nd rfl (Or.inl rfl) (pe_callB call_len_seq (by rfl) T.n_len bb_len (pa_cons (pv 5) pa_nil)))
  (pss_cons (ps_for PassesOwn.never rfl (pi_list (pe_callH GA hr rfl pass0 (pa_cons (pv 4) pa_nil))) (pg_name (i := 6) scOwn.nd rfl (Or.inl rfl))
  (pss_one (ps_if (PW.pt (pw_and (pt_cmpR op_notIn_seq (pv 6) (pv 5) (by rfl)) (pw_and1 (pt_cmpR op_notIn_seq (pv 6) (pe_ix (r := rIxT K) ix_tup (pv 0) pe_int (fun _ _ => rfl)) (by rfl)))))
  (pss_one (ps_expr (pe_bm PySem.F.plainAttrs_list PySem.F.slot_list_append PySem.F.type_list_append mt_append (pv 5) (pa_cons (pv 6) pa_nil))))
  pss_nil)))
  (pss_one (ps_ret (pe_tup (pa_cons (pe_slice sl_list (pv 5) po_none (po_some (pv 8))) (pa_cons (pe_slice sl_list (pv 5) (po_some (pv 8)) po_none) pa_nil))))))))), ?_⟩
    have hv : Dp K H v (.tuple [nmD t.names, nmD t.kinds, .tuple (t.keeps.map exD), .tuple (t.fns.map fnD)]) := hv
    have hu : Dp K H u (.tuple [.str e.name, .tuple (e.ps.map prD), blD e.b]) := hu
    obtain ⟨a, xs, rfl, hq, hd⟩ := hv.tupInv
    obtain ⟨x, y, z, uu, rfl, hx, _, _, _⟩ := hd.four
    obtain ⟨g, gs, rfl, hg, hgd⟩ := hx.tupInv
    obtain ⟨c, ys, rfl, hc, hcd⟩ := hu.tupInv
    obtain ⟨x1, x2, x3, rfl, h1, h2, h3⟩ := hcd.three
    obtain ⟨p, ps, rfl, hp, hpd⟩ := h2.tupInv
    have pp := DpAll.map hpd
    have lp : ps.length = e.ps.length := Paired.length pp
    have egs : gs = t.names.map V.str := dp_strs hgd
    subst egs
    refine ⟨_, rfl, c, _, rfl, hc, rfl, _, _, rfl, _, _, rfl, _, _, rfl, rfl, ?_⟩
    refine ⟨_, rfl, p, rfl, ⟨_, hp⟩, fun D hD => ?_⟩
    refine lc_tup (K := K) (a := p) (xs := ps) (fun i H' => Same H H' ∧ H' D = some (.lst ((e.ps.take i).map fun p => V.str p.1))) ⟨same_new hD, upd_same⟩ (fun i H' _ h' => SqT.same h'.1 hp) ?_ ?_
    · rintro i z H2 hz ⟨s2, eD⟩
      obtain ⟨pr, ht, htd⟩ := Paired.at pp hz
      have htd : Dp K H z (.tuple [.str pr.1, .bool pr.2]) := htd
      obtain ⟨c, zs, rfl, hc, hcd⟩ := htd.tupInv
      obtain ⟨u, w, rfl, hu, hw⟩ := hcd.two
      rw [hu.strInv] at hc
      have hi : i < ps.length := (List.getElem?_eq_some_iff.mp hz).1
      refine ⟨c, _, rfl, SqT.same s2 hc, rfl, _, _, rfl, _, _, rfl, rfl, rfl, _, rfl, _, eD, small1000 (by rw [List.length_map, List.length_take]; omega), fun c o z => ?_, ?_⟩
      · rw [upd_ne (ne_of_none z hD)]
        exact s2 _ _ z
      · rw [upd_same, take_snoc ht, List.map_append]
        rfl
    · rintro H2 ⟨s2, eD⟩
      rw [lp, List.take_length] at eD
      have eD : H2 D = some (.lst ((prs e).map V.str)) := by rw [eD]; unfold prs; rw [List.map_map]; rfl
      refine ⟨_, rfl, D, _, rfl, .inl (SqL.of eD), ?_⟩
      refine ⟨_, rfl, x3, e.b, rfl, h3.same s2, ok.2.2.2.1, ok.2.2.1, sz, fun L H3 s3 fL eL => ?_⟩
      have DL : D ≠ L := ne_of_none eD fL
      have s4 := s2.trans s3
      have la : (asgB e.b).length ≤ 900 := by
        have l1 := List.length_filterMap_le (fun p : Nat × St => asgS p.2) (allB e.b 0)
        rw [allB_len] at l1
        exact Nat.le_trans l1 sz
      have lpr : (prs e).length = e.ps.length := by unfold prs; rw [List.length_map]
      refine ⟨L, rfl, ⟨_, SqL.of eL⟩, ?_⟩
      refine for_list (K := K) (a := L) (xs := (asgB e.b).map V.str) (fun j σ H' => ∃ x6 : Option V, σ = [some (.ref a), some (.ref c), some x1, some (.ref p), some x3, some (.ref D), x6, none, some (.int (((prs e).map V.str).length : Nat))] ∧ Same H H' ∧ H' L = some (.lst ((asgB e.b).map V.str)) ∧ H' D = some (.lst ((((asgB e.b).take j).foldl (stepO t.names) (prs e)).map V.str))) ⟨_, rfl, s4, eL, s3 _ _ eD⟩ (fun j σ H' _ h' => by obtain ⟨_, _, _, z, _⟩ := h'; exact SqL.of z) ?_ ?_
      · rintro j x σ H4 hx ⟨x6, rfl, s5, eL4, eD4⟩
        have hj : j < (asgB e.b).length := by
          have := (List.getElem?_eq_some_iff.mp hx).1
          rwa [List.length_map] at this
        obtain ⟨nm, hnm⟩ : ∃ nm, (asgB e.b)[j]? = some nm := ⟨_, List.getElem?_eq_getElem hj⟩
        rw [List.getElem?_map, hnm] at hx
        simp only [Option.map_some, Option.some.injEq] at hx
        subst hx
        have step : ((asgB e.b).take (j + 1)).foldl (stepO t.names) (prs e) = stepO t.names (((asgB e.b).take j).foldl (stepO t.names) (prs e)) nm := by
          rw [take_snoc hnm, List.foldl_append]
          rfl
        have lacc := (ownF_len (gl := t.names) (l := (asgB e.b).take j) (acc := prs e)).2
        rw [List.length_take, lpr] at lacc
        generalize ((asgB e.b).take j).foldl (stepO t.names) (prs e) = acc at *
        refine ⟨_, rfl, _, rfl, D, _, rfl, .inl (SqL.of eD4), rfl, flat_strs _, _, rfl, ?_⟩
        by_cases h1 : nm ∈ acc
        · refine iteE (by rw [if_pos rfl, inV_mem, decide_eq_true h1]; rfl) ?_
          exact ⟨_, rfl, s5, eL4, by rw [step]; unfold stepO; rw [if_pos (.inl h1)]; exact eD4⟩
        · refine iteS (by rw [if_pos rfl, inV_mem, decide_eq_false h1]; rfl) ?_
          refine ⟨_, rfl, _, rfl, a, _, _, _, rfl, rfl, SqT.same s5 hq, rfl, g, _, rfl, .inr (SqT.same s5 hg), rfl, flat_strs _, _, rfl, ?_⟩
          by_cases h2 : nm ∈ t.names
          · refine iteE (by rw [if_pos rfl, inV_mem, decide_eq_true h2]; rfl) ?_
            exact ⟨_, rfl, s5, eL4, by rw [step]; unfold stepO; rw [if_pos (.inr h2)]; exact eD4⟩
          · refine iteS (by rw [if_pos rfl, inV_mem, decide_eq_false h2]; rfl) ?_
            refine ⟨_, rfl, .inl ⟨rfl, _, SqL.of eD4⟩, _, rfl, D, _, _, rfl, rfl, eD4, small1000 (by rw [List.length_map]; omega), ?_⟩
            refine ⟨_, rfl, fun c o z => ?_, ?_, ?_⟩
            · rw [upd_ne (ne_of_none z hD)]
              exact s5 _ _ z
            · rw [upd_ne DL.symm]
              exact eL4
            · rw [upd_same, step]
              unfold stepO
              rw [if_neg (fun z => z.elim h1 h2), List.map_append]
              rfl
      · rintro σ H4 ⟨x6, rfl, s5, eL4, eD4⟩
        rw [List.length_map, List.take_length] at eD4
        refine ⟨_, rfl, _, rfl, _, rfl, D, _, rfl, SqL.of eD4, fun q1 h1 => ?_⟩
        rw [cut_take]
        have s6 := same_new (o := .lst ((((asgB e.b).foldl (stepO t.names) (prs e)).map V.str).take ((prs e).map V.str).length)) h1
        have eD5 := s6 _ _ eD4
        have e1 : (((asgB e.b).foldl (stepO t.names) (prs e)).map V.str).take ((prs e).map V.str).length = (prs e).map V.str := by rw [← List.map_take, List.length_map, ownF_pre]
        have eq1 : upd H4 q1 (.lst ((((asgB e.b).foldl (stepO t.names) (prs e)).map V.str).take ((prs e).map V.str).length)) q1 = some (.lst ((prs e).map V.str)) := by rw [upd_same, e1]
        have n1 : H q1 = none := none_same s5 h1
        have s7 := s5.trans s6
        clear s6
        generalize upd H4 q1 (.lst ((((asgB e.b).foldl (stepO t.names) (prs e)).map V.str).take ((prs e).map V.str).length)) = H5 at *
        refine ⟨_, rfl, _, rfl, _, rfl, D, _, rfl, SqL.of eD5, fun q2 h2 => ?_⟩
        rw [cut_drop]
        have s8 := same_new (o := .lst ((((asgB e.b).foldl (stepO t.names) (prs e)).map V.str).drop ((prs e).map V.str).length)) h2
        have eq2 : upd H5 q2 (.lst ((((asgB e.b).foldl (stepO t.names) (prs e)).map V.str).drop ((prs e).map V.str).length)) q2 = some (.lst ((innerF t.names (prs e) e.b).map V.str)) := by
          rw [upd_same, ← List.map_drop, List.length_map]
          rfl
        have eq18 := s8 _ _ eq1
        have n2 : H q2 = none := none_same s7 h2
        have ne : q1 ≠ q2 := ne_of_none eq1 h2
        have s9 := s7.trans s8
        clear s8
        generalize upd H5 q2 (.lst ((((asgB e.b).foldl (stepO t.names) (prs e)).map V.str).drop ((prs e).map V.str).length)) = H6 at *
        refine ⟨(by show 2 ≤ sizeLine; decide), fun r hr => ?_⟩
        have s10 := same_new (o := .tup [.ref q1, .ref q2]) hr
        exact k r q1 q2 _ (s9.trans s10) (none_same s9 hr) n1 n2 ne upd_same (s10 _ _ eq18) (s10 _ _ eq2)
end

/-! ### check_unlike, names_of_args, fits -/
abbrev sUnl : Stmt := topS 56
abbrev NUnl : List Str := ["names", "at", "one"]
abbrev PUnl : List Str := ["names"]
theorem scUnl : FnScope NUnl PUnl (defScope sUnl) := ⟨rfl, rfl, rfl, by decide +kernel, rfl, by decide +kernel, by decide +kernel⟩
def spUnl (K : PySem.W.Frag) : Sp := fun vs H Q _ => ∃ (q : Addr) (l : List Str), vs = [.ref q] ∧ SqL K H q (l.map V.str) ∧ l.Nodup ∧ ∀ H', Same H H' → Q .non H'
structure TxChk (mg : Str → Option Value) : Prop where
  n_enumerate : mg "enumerate" = none
  n_sum : mg "sum" = none
  n_max : mg "max" = none
  n_len : mg "len" = none
  n_any : mg "any" = none
  n_list : mg "list" = none
  n_abs : mg "abs" = none
theorem nodup_take : ∀ {l : List Str}, l.Nodup → ∀ {i : Nat} {x : Str}, l[i]? = some x → x ∉ l.take i
  | a :: r, h, 0, x, hx => by simp
  | a :: r, h, i + 1, x, hx => by
    have hx : r[i]? = some x := by simpa using hx
    rw [List.nodup_cons] at h
    rw [List.take_succ_cons, List.mem_cons]
    rintro (z | z)
    · exact h.1 (z ▸ List.mem_of_getElem? hx)
    · exact nodup_take h.2 hx z
section
variable {P : Program} {w : World} {K : PySem.W.Frag} {mg : Str → Option Value} {base : Heap}
theorem ok_Unl {f : Addr} {fd : FuncData} (F : Fun K "check_unlike" "check_unlike" sUnl f fd) (T : TxChk mg) : FnOk P w K mg base CX0 1 f fd PUnl (spUnl K) := by
  refine F.ok scUnl (fun vs H Q E h => ?_) (fun cdv A outer s H vs Q E hr h => ?_)
  · obtain ⟨q, l, rfl, _⟩ := h
    rfl
  · obtain ⟨q, l, rfl, hq, nd, k⟩ := h
    refine ⟨_, (pss_one (ps_for PassesOwn.never rfl (pi_enum (by rfl) T.n_enumerate (pa_cons (pv 0) pa_nil)) (pg_tup (by rfl) (pgs_cons (pg_name (i := 1) scUnl.nd rfl (Or.inl rfl)) (pgs_cons (pg_name (i := 2) scUnl.nd rfl (Or.inl rfl)) pgs_nil)))
  (pss_one (ps_if (pt_cmpR op_in_seq (pv 2) (pe_slice sl_list (pv 0) po_none (po_some (pv 1))) (by rfl))
  (pss_one ps_never)
  pss_nil)))), ?_⟩
    refine ⟨_, rfl, q, _, rfl, hq, ?_⟩
    refine for_it (walk_enum (K := K) (a := q) (xs := l.map V.str)) (fun j σ H' => ∃ x1 x2 : Option V, σ = [some (.ref q), x1, x2] ∧ Same H H') ⟨_, _, rfl, Same.refl _⟩ (fun j σ H' _ h' => by obtain ⟨_, _, _, s'⟩ := h'; exact s'.seq hq) ?_ ?_
    · rintro j x σ H1 H2 hj ⟨x1, x2, rfl, s1⟩ ⟨T, x, y, rfl, hT, rfl, gx, gy⟩
      have hj : j < l.length := by rwa [List.length_map] at hj
      obtain ⟨nm, hnm⟩ : ∃ nm, l[j]? = some nm := ⟨_, List.getElem?_eq_getElem hj⟩
      simp only at gx gy
      rw [List.getElem?_map, hnm] at gy
      simp only [Option.map_some, Option.some.injEq] at gx gy
      subst gx gy
      have s2 := s1.trans (same_new (o := .tup [V.int (j : Nat), V.str nm]) hT)
      refine ⟨T, _, rfl, SqT.of upd_same, rfl, _, _, rfl, _, _, rfl, rfl, ?_⟩
      refine ⟨_, rfl, _, rfl, _, rfl, _, rfl, q, _, rfl, s2.seq hq, fun p hp => ?_⟩
      rw [cut_take]
      have s3 := s2.trans (same_new (o := .lst ((l.map V.str).take j)) hp)
      refine ⟨p, _, rfl, .inl (SqL.of upd_same), rfl, by rw [← List.map_take]; exact flat_strs _, _, rfl, iteE (by rw [← List.map_take, inV_mem]; exact decide_eq_false (nodup_take nd hnm)) ?_⟩
      exact ⟨_, _, rfl, s3⟩
    · rintro σ H1 ⟨x1, x2, rfl, s1⟩
      exact k _ s1
end

/-! ### names_of_args -/
abbrev sNoA : Stmt := topS 57
abbrev NNoA : List Str := ["args", "found", "word", "one", "name", "factor"]
abbrev PNoA : List Str := ["args"]
theorem scNoA : FnScope NNoA PNoA (defScope sNoA) := ⟨rfl, rfl, rfl, by decide +kernel, rfl, by decide +kernel, by decide +kernel⟩
def argN : Arg → List Str
  | .place n => [n]
  | .value e => e.ts.map Prod.fst
def argsN (as : List Arg) : List Str := as.flatMap argN
def spNoA (K : PySem.W.Frag) : Sp := fun vs H Q _ => ∃ (v : V) (as : List Arg), vs = [v] ∧ Dp K H v (.tuple (as.map argD)) ∧ (argsN as).length ≤ 900 ∧ ∀ (q : Addr) (H' : Hp), Same H H' → H q = none → H' q = some (.lst ((argsN as).map V.str)) → Q (.ref q) H'
section
variable {P : Program} {w : World} {K : PySem.W.Frag} {mg : Str → Option Value} {base : Heap}
theorem ok_NoA {f : Addr} {fd : FuncData} (F : Fun K "names_of_args" "names_of_args" sNoA f fd) : FnOk P w K mg base CX0 1 f fd PNoA (spNoA K) := by
  refine F.ok scNoA (fun vs H Q E h => ?_) (fun cdv A outer s H vs Q E hr h => ?_)
  · obtain ⟨q, l, rfl, _⟩ := h
    rfl
  · obtain ⟨v, as, rfl, hv, tot, k⟩ := h
    refine ⟨_, (pss_cons (ps_set (i := 1) scNoA.nd rfl (Or.inl rfl) (pe_lst pa_nil))
  (pss_cons (ps_for PassesOwn.never rfl (pi_tup (pv 0)) (pg_tup (by rfl) (pgs_cons (pg_name (i := 2) scNoA.nd rfl (Or.inl rfl)) (pgs_cons (pg_name (i := 3) scNoA.nd rfl (Or.inl rfl)) pgs_nil)))
  (pss_one (ps_expr (pe_bm PySem.F.plainAttrs_list PySem.F.slot_list_extend PySem.F.type_list_extend mt_extend (pv 1) (pa_cons (pe_ifExp (pt_cmpR op_eq (pv 2) pe_str (nomark _)) (pe_lst (pa_cons (pv 3) pa_nil)) (pe_lc (own := [("name", 4), ("factor", 5)]) (g := gTup K 2 (gCons (gName 4) (gCons (gName 5) gNil))) (tt := tYes) rfl scNoA.nd (pi_tup (pe_ix (r := rIxT K) ix_tup (pv 3) pe_int (fun _ _ => rfl))) (blkOk_by (own := [("name", 4), ("factor", 5)]) (N := NNoA) (sc := (defScope sNoA)) (by decide +kernel)) (fun _ _ _ _ _ => (pg_tup (by rfl) (pgs_cons (pg_name (i := 4) scNoA.nd rfl (Or.inl rfl)) (pgs_cons (pg_name (i := 5) scNoA.nd rfl (Or.inl rfl)) pgs_nil)))) (fun _ _ _ _ _ => pts_nil) (fun _ _ _ _ _ => (pv 4)))) pa_nil)))))
  (pss_one (ps_ret (pv 1))))), ?_⟩
    obtain ⟨a, xs, rfl, hq, hd⟩ := hv.tupInv
    have pa := DpAll.map hd
    refine ⟨(by show 0 ≤ sizeLine; decide), fun q hq1 => ?_⟩
    have s1 := same_new (o := .lst []) hq1
    refine ⟨_, rfl, a, rfl, ⟨_, SqT.same s1 hq⟩, ?_⟩
    refine for_tup (K := K) (a := a) (xs := xs) (fun j σ H' => ∃ x2 x3 : Option V, σ = [some (.ref a), some (.ref q), x2, x3, none, none] ∧ Same H H' ∧ H' q = some (.lst (((as.take j).flatMap argN).map V.str))) ⟨_, _, rfl, s1, upd_same⟩ (fun j σ H' _ h' => by obtain ⟨_, _, _, z, _⟩ := h'; exact SqT.same z hq) ?_ ?_
    · rintro j x σ H3 hx ⟨x2, x3, rfl, s3, eq⟩
      obtain ⟨g, hg, hgd⟩ := Paired.at pa hx
      have lall := flat_len (f := argN) (l := as) (j + 1)
      have st := flat_snoc (f := argN) hg
      have lall : (((as.take (j + 1)).flatMap argN)).length ≤ 900 := Nat.le_trans lall tot
      rw [st, List.length_append] at lall
      have fin : ∀ H4 p, Same H3 H4 → H3 p = none → H4 p = some (.lst ((argN g).map V.str)) → p ≠ q ∧ H4 q = some (.lst (((as.take j).flatMap argN).map V.str)) ∧ (((as.take j).flatMap argN).map V.str ++ (argN g).map V.str).length < sizeLine ∧ Same H (upd H4 q (.lst (((as.take j).flatMap argN).map V.str ++ (argN g).map V.str))) ∧ upd H4 q (.lst (((as.take j).flatMap argN).map V.str ++ (argN g).map V.str)) q = some (.lst (((as.take (j + 1)).flatMap argN).map V.str)) := fun H4 p s4 hp e4 => by
        refine ⟨fun z => ?_, s4 _ _ eq, small1000 ?_, fun c o z => ?_, ?_⟩
        · rw [z, eq] at hp; cases hp
        · rw [List.length_append, List.length_map, List.length_map]; omega
        · rw [upd_ne (ne_of_none z hq1)]
          exact s4 _ _ (s3 _ _ z)
        · rw [upd_same, st, List.map_append]
      cases g with
      | place n =>
        have hgd : Dp K H x (.tuple [.str "place", .str n]) := hgd
        obtain ⟨c, ys, rfl, hc, hcd⟩ := hgd.tupInv
        obtain ⟨y, z, rfl, h1, h2⟩ := hcd.two
        rw [h1.strInv, h2.strInv] at hc
        refine ⟨c, _, rfl, SqT.same s3 hc, rfl, _, _, rfl, _, _, rfl, rfl, ?_⟩
        refine ⟨_, rfl, .inl ⟨rfl, _, SqL.of eq⟩, ?_⟩
        refine ⟨_, rfl, rfl, _, rfl, iteS rfl ⟨_, rfl, (by show 1 ≤ sizeLine; decide), fun p hp => ?_⟩⟩
        obtain ⟨f1, f2, f3, f4, f5⟩ := fin _ p (same_new (o := .lst [.str n]) hp) hp upd_same
        refine ⟨q, p, _, _, rfl, rfl, f2, upd_same, Nat.le_of_lt (by rw [List.length_append] at f3; exact f3), ?_⟩
        exact ⟨_, _, rfl, f4, f5⟩
      | value e =>
        have hgd : Dp K H x (.tuple [.str "value", exD e]) := hgd
        obtain ⟨c, ys, rfl, hc, hcd⟩ := hgd.tupInv
        obtain ⟨y, z, rfl, h1, h2⟩ := hcd.two
        rw [h1.strInv] at hc
        refine ⟨c, _, rfl, SqT.same s3 hc, rfl, _, _, rfl, _, _, rfl, rfl, ?_⟩
        refine ⟨_, rfl, .inl ⟨rfl, _, SqL.of eq⟩, ?_⟩
        refine ⟨_, rfl, rfl, _, rfl, iteE (by decide +kernel) ?_⟩
        obtain ⟨z1, zs, rfl, hz, hzd⟩ := h2.tupInv
        obtain ⟨w1, w2, rfl, h4, h5⟩ := hzd.two
        obtain ⟨b, ts, rfl, hb, hbd⟩ := h5.tupInv
        have pt := DpAll.map hbd
        have lt : ts.length = e.ts.length := Paired.length pt
        have le : e.ts.length ≤ 900 := by
          have : (argN (.value e)).length = e.ts.length := by show (e.ts.map Prod.fst).length = _; rw [List.length_map]
          omega
        refine ⟨_, rfl, z1, _, _, _, rfl, rfl, SqT.same s3 hz, rfl, b, rfl, ⟨_, SqT.same s3 hb⟩, fun D hD => ?_⟩
        refine lc_tup (K := K) (a := b) (xs := ts) (fun i H' => Same H3 H' ∧ H' D = some (.lst ((e.ts.take i).map fun p => V.str p.1))) ⟨same_new hD, upd_same⟩ (fun i H' _ h' => SqT.same (s3.trans h'.1) hb) ?_ ?_
        · rintro i z H2 hz ⟨s2, eD⟩
          obtain ⟨pr, ht, htd⟩ := Paired.at pt hz
          obtain ⟨c, zs, rfl, hc, hcd⟩ := htd.tupInv
          obtain ⟨u, w, rfl, hu, hw⟩ := hcd.two
          rw [hu.strInv] at hc
          have hi : i < ts.length := (List.getElem?_eq_some_iff.mp hz).1
          refine ⟨c, _, rfl, SqT.same (s3.trans s2) hc, rfl, _, _, rfl, _, _, rfl, rfl, rfl, _, rfl, _, eD, small1000 (by rw [List.length_map, List.length_take]; omega), fun c o z => ?_, ?_⟩
          · rw [upd_ne (ne_of_none z hD)]
            exact s2 _ _ z
          · rw [upd_same, take_snoc ht, List.map_append]
            rfl
        · rintro H2 ⟨s2, eD⟩
          rw [lt, List.take_length] at eD
          have eD : H2 D = some (.lst ((argN (.value e)).map V.str)) := by rw [eD]; show _ = some (HO.lst ((e.ts.map Prod.fst).map V.str)); rw [List.map_map]; rfl
          obtain ⟨f1, f2, f3, f4, f5⟩ := fin _ D s2 hD eD
          refine ⟨q, D, _, _, rfl, rfl, f2, eD, Nat.le_of_lt (by rw [List.length_append] at f3; exact f3), ?_⟩
          exact ⟨_, _, rfl, f4, f5⟩
    · rintro σ H3 ⟨x2, x3, rfl, s3, eq⟩
      rw [Paired.length pa, List.take_length] at eq
      exact ⟨_, rfl, k q H3 s3 hq1 eq⟩
end

/-! ### expressions_of -/
abbrev sExs : Stmt := topS 53
abbrev NExs : List Str := ["statement", "target", "expression", "name", "args", "word", "one", "enter", "leave", "kinds", "block"]
abbrev PExs : List Str := ["statement"]
theorem scExs : FnScope NExs PExs (defScope sExs) := ⟨rfl, rfl, rfl, by decide +kernel, rfl, by decide +kernel, by decide +kernel⟩
def valE : Arg → Option Ex
  | .value e => some e
  | _ => none
def exprS : St → List Ex
  | .set _ e => [e]
  | .ret e => [e]
  | .call _ _ as => as.filterMap valE
  | .with_ e l _ _ => (e.2 ++ l.2).filterMap valE
  | _ => []
def spExs (K : PySem.W.Frag) : Sp := fun vs H Q _ => ∃ (v : V) (s : St), vs = [v] ∧ Dp K H v (stD s) ∧ okS s ∧ ∀ (q : Addr) (xs : List V) (H' : Hp), Same H H' → H q = none → H' q = some (.lst xs) → Paired (fun x e => Dp K H' x (exD e)) xs (exprS s) → Q (.ref q) H'
section
variable {P : Program} {w : World} {K : PySem.W.Frag} {mg : Str → Option Value} {base : Heap}
theorem sizeBig {n : Nat} (h : n ≤ 5000) : n < sizeLine := Nat.lt_of_le_of_lt h (by decide)
/-- the reading of [one for word, one in args if word == 'value'] -/
theorem filterMap_snoc2 {α β : Type} {f : α → Option β} {l : List α} {j : Nat} {x : α} (h : l[j]? = some x) : (l.take (j + 1)).filterMap f = (l.take j).filterMap f ++ (f x).toList := filterMap_snoc h
theorem ok_Exs {f : Addr} {fd : FuncData} (F : Fun K "expressions_of" "expressions_of" sExs f fd) : FnOk P w K mg base CX0 1 f fd PExs (spExs K) := by
  refine F.ok scExs (fun vs H Q E h => ?_) (fun cdv A outer s H vs Q E hr h => ?_)
  · obtain ⟨q, l, rfl, _⟩ := h
    rfl
  · obtain ⟨v, st, rfl, hv, ok, k⟩ := h
    refine ⟨_, (pss_one (ps_match (pv 0) (pcs_cons scExs.nd (pm_seq rfl (pms_cons pm_str (pms_cons (pm_as (i := 1) rfl (Or.inl rfl)) (pms_cons (pm_as (i := 2) rfl (Or.inl rfl)) pms_nil))))
  (pss_one (ps_ret (pe_lst (pa_cons (pv 2) pa_nil))))
  (pcs_cons scExs.nd (pm_seq rfl (pms_cons pm_str (pms_cons (pm_as (i := 2) rfl (Or.inl rfl)) pms_nil)))
  (pss_one (ps_ret (pe_lst (pa_cons (pv 2) pa_nil))))
  (pcs_cons scExs.nd (pm_seq rfl (pms_cons pm_str (pms_cons (pm_as (i := 1) rfl (Or.inl rfl)) (pms_cons (pm_as (i := 3) rfl (Or.inl rfl)) (pms_cons (pm_as (i := 4) rfl (Or.inl rfl)) pms_nil)))))
  (pss_one (ps_ret (pe_lc (own := [("word", 5), ("one", 6)]) (g := gTup K 2 (gCons (gName 5) (gCons (gName 6) gNil))) rfl scExs.nd (pi_tup (pv 4)) (blkOk_by (own := [("word", 5), ("one", 6)]) (N := NExs) (sc := (defScope sExs)) (by decide +kernel)) (fun _ _ _ _ _ => (pg_tup (by rfl) (pgs_cons (pg_name (i := 5) scExs.nd rfl (Or.inl rfl)) (pgs_cons (pg_name (i := 6) scExs.nd rfl (Or.inl rfl)) pgs_nil)))) (fun _ _ _ _ _ => (pts_one (pt_cmpR op_eq (pv 5) pe_str (nomark _)))) (fun _ _ _ _ _ => (pv 6)))))
  (pcs_cons scExs.nd (pm_seq rfl (pms_cons pm_str (pms_cons (pm_as (i := 7) rfl (Or.inl rfl)) (pms_cons (pm_as (i := 8) rfl (Or.inl rfl)) (pms_cons (pm_as (i := 9) rfl (Or.inl rfl)) (pms_cons (pm_as (i := 10) rfl (Or.inl rfl)) pms_nil))))))
  (pss_one (ps_ret (pe_lc (own := [("word", 5), ("one", 6)]) (g := gTup K 2 (gCons (gName 5) (gCons (gName 6) gNil))) rfl scExs.nd (pi_tup (pe_op op_catA (pe_ix (r := rIxT K) ix_tup (pv 7) pe_int (fun _ _ => rfl)) (pe_ix (r := rIxT K) ix_tup (pv 8) pe_int (fun _ _ => rfl)))) (blkOk_by (own := [("word", 5), ("one", 6)]) (N := NExs) (sc := (defScope sExs)) (by decide +kernel)) (fun _ _ _ _ _ => (pg_tup (by rfl) (pgs_cons (pg_name (i := 5) scExs.nd rfl (Or.inl rfl)) (pgs_cons (pg_name (i := 6) scExs.nd rfl (Or.inl rfl)) pgs_nil)))) (fun _ _ _ _ _ => (pts_one (pt_cmpR op_eq (pv 5) pe_str (nomark _)))) (fun _ _ _ _ _ => (pv 6)))))
  (pcs_cons scExs.nd pm_wild
  (pss_one (ps_ret (pe_lst pa_nil)))
  pcs_nil))))))), ?_⟩
    obtain ⟨a, xs, rfl, hq, hd⟩ := stInv hv
    refine ⟨_, rfl, ?_⟩
    cases st <;> simp only [wordS] at hq
    case set t e =>
      obtain ⟨x, y, rfl, h1, h2⟩ := DpAll.two hd
      refine case_hit hq rfl ⟨_, _, rfl, _, _, rfl, ?_⟩
      refine ⟨_, rfl, (by show 1 ≤ sizeLine; decide), fun q hq1 => ?_⟩
      have s1 := same_new (o := .lst [y]) hq1
      exact k q _ _ s1 hq1 upd_same (.cons (h2.same s1) .nil)
    case ret e =>
      obtain ⟨y, rfl, h2⟩ := DpAll.one hd
      repeat (first | refine case_len hq (Nat.ne_of_beq_eq_false rfl) ?_ | refine case_word hq rfl (by decide +kernel) ?_)
      refine case_hit hq rfl ⟨_, _, rfl, ?_⟩
      refine ⟨_, rfl, (by show 1 ≤ sizeLine; decide), fun q hq1 => ?_⟩
      have s1 := same_new (o := .lst [y]) hq1
      exact k q _ _ s1 hq1 upd_same (.cons (h2.same s1) .nil)
    case call t g as =>
      have ok : (∀ x, t = some x → okN1 x) ∧ okN1 g ∧ okAs as := ok
      obtain ⟨x, y, z, rfl, h1, h2, h3⟩ := DpAll.three hd
      obtain ⟨b, ys, rfl, hb, hbd⟩ := h3.tupInv
      have pa := DpAll.map hbd
      have la : ys.length = as.length := Paired.length pa
      have l9 : as.length ≤ 900 := ok.2.2.1
      repeat (first | refine case_len hq (Nat.ne_of_beq_eq_false rfl) ?_ | refine case_word hq rfl (by decide +kernel) ?_)
      refine case_hit hq rfl ⟨_, _, rfl, _, _, rfl, _, _, rfl, ?_⟩
      refine ⟨_, rfl, b, rfl, ⟨_, hb⟩, fun D hD => ?_⟩
      refine lc_tup (K := K) (a := b) (xs := ys) (fun i H' => Same H H' ∧ ∃ us, H' D = some (.lst us) ∧ us.length ≤ i ∧ Paired (fun x e => Dp K H x (exD e)) us ((as.take i).filterMap valE)) ⟨same_new hD, [], upd_same, Nat.le_refl _, .nil⟩ (fun i H' _ h' => SqT.same h'.1 hb) ?_ ?_
      · rintro i z H2 hz ⟨s2, us, eD, lu, pu⟩
        obtain ⟨g2, hg, hgd⟩ := Paired.at pa hz
        have hi : i < ys.length := (List.getElem?_eq_some_iff.mp hz).1
        have fm := filterMap_snoc (f := valE) hg
        cases g2 with
        | place n =>
          have hgd : Dp K H z (.tuple [.str "place", .str n]) := hgd
          obtain ⟨c, zs, rfl, hc, hcd⟩ := hgd.tupInv
          obtain ⟨u, w, rfl, hu, hw⟩ := hcd.two
          rw [hu.strInv] at hc
          refine ⟨c, _, rfl, SqT.same s2 hc, rfl, _, _, rfl, _, _, rfl, rfl, rfl, ?_⟩
          refine ⟨_, rfl, rfl, _, rfl, iteE (by decide +kernel) ?_⟩
          exact ⟨s2, us, eD, by omega, by rw [fm]; show Paired _ us (_ ++ []); rw [List.append_nil]; exact pu⟩
        | value e =>
          have hgd : Dp K H z (.tuple [.str "value", exD e]) := hgd
          obtain ⟨c, zs, rfl, hc, hcd⟩ := hgd.tupInv
          obtain ⟨u, w, rfl, hu, hw⟩ := hcd.two
          rw [hu.strInv] at hc
          refine ⟨c, _, rfl, SqT.same s2 hc, rfl, _, _, rfl, _, _, rfl, rfl, rfl, ?_⟩
          refine ⟨_, rfl, rfl, _, rfl, iteS rfl ?_⟩
          refine ⟨_, rfl, _, eD, small1000 (by omega), fun c o z => ?_, _, upd_same, by rw [List.length_append]; show us.length + 1 ≤ _; omega, ?_⟩
          · rw [upd_ne (ne_of_none z hD)]
            exact s2 _ _ z
          · rw [fm]
            exact Paired.snoc pu hw
      · rintro H2 ⟨s2, us, eD, lu, pu⟩
        rw [la, List.take_length] at pu
        exact k D us H2 s2 hD eD (Paired.mapP pu fun _ _ z => z.same s2)
    case with_ e l ks p =>
      have ok : (okCal e ∧ okCal l ∧ okNs ks) ∧ (p.length ≤ 900 ∧ okL p) := ok
      obtain ⟨x, y, z, u, rfl, h1, h2, h3, h4⟩ := DpAll.four hd
      have h1 : Dp K H x (.tuple [.str e.1, .tuple (e.2.map argD)]) := h1
      have h2 : Dp K H y (.tuple [.str l.1, .tuple (l.2.map argD)]) := h2
      obtain ⟨x0, ex, rfl, hx0, hxd⟩ := h1.tupInv
      obtain ⟨e1, e2, rfl, _, he2⟩ := hxd.two
      obtain ⟨y0, ey, rfl, hy0, hyd⟩ := h2.tupInv
      obtain ⟨l1, l2, rfl, _, hl2⟩ := hyd.two
      obtain ⟨b1, ys1, rfl, hb1, hbd1⟩ := he2.tupInv
      obtain ⟨b2, ys2, rfl, hb2, hbd2⟩ := hl2.tupInv
      have pa1 := DpAll.map hbd1
      have pa2 := DpAll.map hbd2
      have m1 : ys1.length = e.2.length := Paired.length pa1
      have m2 : ys2.length = l.2.length := Paired.length pa2
      have n1 : e.2.length ≤ 900 := ok.1.1.2.1
      have n2 : l.2.length ≤ 900 := ok.1.2.1.2.1
      have pal := Paired.app pa1 pa2
      have ll : (ys1 ++ ys2).length = (e.2 ++ l.2).length := Paired.length pal
      have s0 := Same.refl H
      repeat (first | refine case_len hq (Nat.ne_of_beq_eq_false rfl) ?_ | refine case_word hq rfl (by decide +kernel) ?_)
      refine case_hit hq rfl ⟨_, _, rfl, _, _, rfl, _, _, rfl, _, _, rfl, ?_⟩
      refine ⟨_, rfl, x0, _, _, _, rfl, rfl, hx0, rfl, _, rfl, y0, _, _, _, rfl, rfl, hy0, rfl, ?_⟩
      refine ⟨b1, b2, ys1, ys2, rfl, rfl, hb1, hb2, Nat.le_of_lt (sizeBig (by omega)), fun en => ?_, fun _ en => ?_, fun _ _ q hq1 => ?_⟩
      · have hbb : SqT K H b2 (ys1 ++ ys2) := by rw [en]; exact hb2
        refine ⟨_, rfl, ⟨_, hbb⟩, fun D hD => ?_⟩
        refine lc_tup (K := K) (a := b2) (xs := ys1 ++ ys2) (fun i H' => Same H H' ∧ ∃ us, H' D = some (.lst us) ∧ us.length ≤ i ∧ Paired (fun x e => Dp K H x (exD e)) us (((e.2 ++ l.2).take i).filterMap valE)) ⟨same_new hD, [], upd_same, Nat.le_refl _, .nil⟩ (fun i H' _ h' => SqT.same h'.1 hbb) ?_ ?_
        · rintro i z H2 hz ⟨s2, us, eD, lu, pu⟩
          obtain ⟨g2, hg, hgd⟩ := Paired.at pal hz
          have hi : i < (ys1 ++ ys2).length := (List.getElem?_eq_some_iff.mp hz).1
          rw [List.length_append] at hi
          have fm := filterMap_snoc (f := valE) hg
          cases g2 with
          | place n =>
            have hgd : Dp K H z (.tuple [.str "place", .str n]) := hgd
            obtain ⟨c, zs, rfl, hc, hcd⟩ := hgd.tupInv
            obtain ⟨u, w, rfl, hu, hw⟩ := hcd.two
            rw [hu.strInv] at hc
            refine ⟨c, _, rfl, SqT.same (s0.trans s2) hc, rfl, _, _, rfl, _, _, rfl, rfl, rfl, ?_⟩
            refine ⟨_, rfl, rfl, _, rfl, iteE (by decide +kernel) ?_⟩
            exact ⟨s2, us, eD, by omega, by rw [fm]; show Paired _ us (_ ++ []); rw [List.append_nil]; exact pu⟩
          | value e =>
            have hgd : Dp K H z (.tuple [.str "value", exD e]) := hgd
            obtain ⟨c, zs, rfl, hc, hcd⟩ := hgd.tupInv
            obtain ⟨u, w, rfl, hu, hw⟩ := hcd.two
            rw [hu.strInv] at hc
            refine ⟨c, _, rfl, SqT.same (s0.trans s2) hc, rfl, _, _, rfl, _, _, rfl, rfl, rfl, ?_⟩
            refine ⟨_, rfl, rfl, _, rfl, iteS rfl ?_⟩
            refine ⟨_, rfl, _, eD, sizeBig (by omega), fun c o z => ?_, _, upd_same, by rw [List.length_append]; show us.length + 1 ≤ _; omega, ?_⟩
            · rw [upd_ne (ne_of_none z hD)]
              exact s2 _ _ z
            · rw [fm]
              exact Paired.snoc pu hw
        · rintro H2 ⟨s2, us, eD, lu, pu⟩
          rw [ll, List.take_length] at pu
          exact k D us H2 (s0.trans s2) (none_same s0 hD) eD (Paired.mapP pu fun _ _ z => z.same (s0.trans s2))
      · have hbb : SqT K H b1 (ys1 ++ ys2) := by rw [en, List.append_nil]; exact hb1
        refine ⟨_, rfl, ⟨_, hbb⟩, fun D hD => ?_⟩
        refine lc_tup (K := K) (a := b1) (xs := ys1 ++ ys2) (fun i H' => Same H H' ∧ ∃ us, H' D = some (.lst us) ∧ us.length ≤ i ∧ Paired (fun x e => Dp K H x (exD e)) us (((e.2 ++ l.2).take i).filterMap valE)) ⟨same_new hD, [], upd_same, Nat.le_refl _, .nil⟩ (fun i H' _ h' => SqT.same h'.1 hbb) ?_ ?_
        · rintro i z H2 hz ⟨s2, us, eD, lu, pu⟩
          obtain ⟨g2, hg, hgd⟩ := Paired.at pal hz
          have hi : i < (ys1 ++ ys2).length := (List.getElem?_eq_some_iff.mp hz).1
          rw [List.length_append] at hi
          have fm := filterMap_snoc (f := valE) hg
          cases g2 with
          | place n =>
            have hgd : Dp K H z (.tuple [.str "place", .str n]) := hgd
            obtain ⟨c, zs, rfl, hc, hcd⟩ := hgd.tupInv
            obtain ⟨u, w, rfl, hu, hw⟩ := hcd.two
            rw [hu.strInv] at hc
            refine ⟨c, _, rfl, SqT.same (s0.trans s2) hc, rfl, _, _, rfl, _, _, rfl, rfl, rfl, ?_⟩
            refine ⟨_, rfl, rfl, _, rfl, iteE (by decide +kernel) ?_⟩
            exact ⟨s2, us, eD, by omega, by rw [fm]; show Paired _ us (_ ++ []); rw [List.append_nil]; exact pu⟩
          | value e =>
            have hgd : Dp K H z (.tuple [.str "value", exD e]) := hgd
            obtain ⟨c, zs, rfl, hc, hcd⟩ := hgd.tupInv
            obtain ⟨u, w, rfl, hu, hw⟩ := hcd.two
            rw [hu.strInv] at hc
            refine ⟨c, _, rfl, SqT.same (s0.trans s2) hc, rfl, _, _, rfl, _, _, rfl, rfl, rfl, ?_⟩
            refine ⟨_, rfl, rfl, _, rfl, iteS rfl ?_⟩
            refine ⟨_, rfl, _, eD, sizeBig (by omega), fun c o z => ?_, _, upd_same, by rw [List.length_append]; show us.length + 1 ≤ _; omega, ?_⟩
            · rw [upd_ne (ne_of_none z hD)]
              exact s2 _ _ z
            · rw [fm]
              exact Paired.snoc pu hw
        · rintro H2 ⟨s2, us, eD, lu, pu⟩
          rw [ll, List.take_length] at pu
          exact k D us H2 (s0.trans s2) (none_same s0 hD) eD (Paired.mapP pu fun _ _ z => z.same (s0.trans s2))
      · have s1 := same_new (o := .tup (ys1 ++ ys2)) hq1
        have hbb : SqT K (upd H q (.tup (ys1 ++ ys2))) q (ys1 ++ ys2) := SqT.of upd_same
        refine ⟨_, rfl, ⟨_, hbb⟩, fun D hD => ?_⟩
        refine lc_tup (K := K) (a := q) (xs := ys1 ++ ys2) (fun i H' => Same (upd H q (.tup (ys1 ++ ys2))) H' ∧ ∃ us, H' D = some (.lst us) ∧ us.length ≤ i ∧ Paired (fun x e => Dp K H x (exD e)) us (((e.2 ++ l.2).take i).filterMap valE)) ⟨same_new hD, [], upd_same, Nat.le_refl _, .nil⟩ (fun i H' _ h' => SqT.same h'.1 hbb) ?_ ?_
        · rintro i z H2 hz ⟨s2, us, eD, lu, pu⟩
          obtain ⟨g2, hg, hgd⟩ := Paired.at pal hz
          have hi : i < (ys1 ++ ys2).length := (List.getElem?_eq_some_iff.mp hz).1
          rw [List.length_append] at hi
          have fm := filterMap_snoc (f := valE) hg
          cases g2 with
          | place n =>
            have hgd : Dp K H z (.tuple [.str "place", .str n]) := hgd
            obtain ⟨c, zs, rfl, hc, hcd⟩ := hgd.tupInv
            obtain ⟨u, w, rfl, hu, hw⟩ := hcd.two
            rw [hu.strInv] at hc
            refine ⟨c, _, rfl, SqT.same (s1.trans s2) hc, rfl, _, _, rfl, _, _, rfl, rfl, rfl, ?_⟩
            refine ⟨_, rfl, rfl, _, rfl, iteE (by decide +kernel) ?_⟩
            exact ⟨s2, us, eD, by omega, by rw [fm]; show Paired _ us (_ ++ []); rw [List.append_nil]; exact pu⟩
          | value e =>
            have hgd : Dp K H z (.tuple [.str "value", exD e]) := hgd
            obtain ⟨c, zs, rfl, hc, hcd⟩ := hgd.tupInv
            obtain ⟨u, w, rfl, hu, hw⟩ := hcd.two
            rw [hu.strInv] at hc
            refine ⟨c, _, rfl, SqT.same (s1.trans s2) hc, rfl, _, _, rfl, _, _, rfl, rfl, rfl, ?_⟩
            refine ⟨_, rfl, rfl, _, rfl, iteS rfl ?_⟩
            refine ⟨_, rfl, _, eD, sizeBig (by omega), fun c o z => ?_, _, upd_same, by rw [List.length_append]; show us.length + 1 ≤ _; omega, ?_⟩
            · rw [upd_ne (ne_of_none z hD)]
              exact s2 _ _ z
            · rw [fm]
              exact Paired.snoc pu hw
        · rintro H2 ⟨s2, us, eD, lu, pu⟩
          rw [ll, List.take_length] at pu
          exact k D us H2 (s1.trans s2) (none_same s1 hD) eD (Paired.mapP pu fun _ _ z => z.same (s1.trans s2))
    all_goals
      first
        | obtain ⟨_, rfl, _⟩ := DpAll.one hd
        | obtain ⟨_, _, rfl, _, _⟩ := DpAll.two hd
        | obtain ⟨_, _, _, rfl, _⟩ := DpAll.three hd
      repeat (first | refine case_len hq (Nat.ne_of_beq_eq_false rfl) ?_ | refine case_word hq rfl (by decide +kernel) ?_)
      refine ⟨(by show 0 ≤ sizeLine; decide), fun q hq1 => ?_⟩
      exact k q _ _ (same_new hq1) hq1 upd_same .nil
end

/-! ### fits -/
abbrev sFits : Stmt := topS 59
abbrev NFits : List Str := ["tree", "callee", "args", "name", "params", "block", "one", "by_place", "word"]
abbrev PFits : List Str := ["tree", "callee", "args"]
theorem scFits : FnScope NFits PFits (defScope sFits) := ⟨rfl, rfl, rfl, by decide +kernel, rfl, by decide +kernel, by decide +kernel⟩
def isPl : Arg → Bool
  | .place _ => true
  | _ => false
def Fit (t : Tr) (callee : Str) (as : List Arg) : Prop := (∃ f ∈ t.fns, f.name = callee) ∧ ∀ f ∈ t.fns, f.name = callee → f.ps.map Prod.snd = as.map isPl
def spFits (K : PySem.W.Frag) : Sp := fun vs H Q _ => ∃ (v u : V) (t : Tr) (c : Str) (as : List Arg), vs = [v, .str c, u] ∧ Dp K H v (trD t) ∧ Dp K H u (.tuple (as.map argD)) ∧ as.length ≤ 900 ∧ Fit t c as ∧ ∀ H', Same H H' → Q (.bl true) H'
theorem shaped_bools (l : List Bool) : SeqAt.shaped (.list (l.map PyData.bool)) = true := by
  have h1 : ∀ l : List Bool, PyData.canLayAll0 (l.map PyData.bool) = true := fun l => by
    induction l with
    | nil => simp [PyData.canLayAll0]
    | cons b r ih => simp only [List.map_cons, PyData.canLayAll0, PyData.canLay0, Bool.true_and]; exact ih
  have h2 : ∀ l : List Bool, PyData.depthAll (l.map PyData.bool) = 0 := fun l => by
    induction l with
    | nil => simp [PyData.depthAll]
    | cons b r ih => simp only [List.map_cons, PyData.depthAll, PyData.depth, ih]; rfl
  unfold SeqAt.shaped
  simp only [PyData.canLay0, PyData.depth, h1, h2, Bool.true_and]
  decide
theorem eqv_bools (l : List Bool) : PyData.eqv (.list (l.map PyData.bool)) (.list (l.map PyData.bool)) = true := SeqAt.eqv_refl _ (by
  have h := shaped_bools l
  unfold SeqAt.shaped at h
  rw [Bool.and_eq_true] at h
  exact h.1)
theorem dp_bools {K : PySem.W.Frag} {H : Hp} : ∀ l : List Bool, DpAll K H (l.map V.bl) (l.map PyData.bool)
  | [] => .nil
  | b :: r => .cons (.bl b) (dp_bools r)
section
variable {P : Program} {w : World} {K : PySem.W.Frag} {mg : Str → Option Value} {base : Heap}
theorem ok_Fits {f : Addr} {fd : FuncData} (F : Fun K "fits" "fits" sFits f fd) : FnOk P w K mg base CX0 1 f fd PFits (spFits K) := by
  refine F.ok scFits (fun vs H Q E h => ?_) (fun cdv A outer s H vs Q E hr h => ?_)
  · obtain ⟨q, l, _, _, _, rfl, _⟩ := h
    rfl
  · obtain ⟨v, u, t, cl, as, rfl, hv, hu, la, ⟨⟨g0, hg0, hg1⟩, uni⟩, k⟩ := h
    refine ⟨_, (pss_cons (ps_for PassesOwn.never rfl (pi_tup (pe_ix (r := rIxT K) ix_tup (pv 0) pe_int (fun _ _ => rfl))) (pg_tup (by rfl) (pgs_cons (pg_name (i := 3) scFits.nd rfl (Or.inl rfl)) (pgs_cons (pg_name (i := 4) scFits.nd rfl (Or.inl rfl)) (pgs_cons (pg_name (i := 5) scFits.nd rfl (Or.inl rfl)) pgs_nil))))
  (pss_one (ps_if (pt_cmpR op_eq (pv 3) (pv 1) (nomark _))
  (pss_one (ps_ret (pe_cmpR (op_eqD hr.units) (pe_lc (own := [("one", 6), ("by_place", 7)]) (g := gTup K 2 (gCons (gName 6) (gCons (gName 7) gNil))) (tt := tYes) rfl scFits.nd (pi_tup (pv 4)) (blkOk_by (own := [("one", 6), ("by_place", 7)]) (N := NFits) (sc := (defScope sFits)) (by decide +kernel)) (fun _ _ _ _ _ => (pg_tup (by rfl) (pgs_cons (pg_name (i := 6) scFits.nd rfl (Or.inl rfl)) (pgs_cons (pg_name (i := 7) scFits.nd rfl (Or.inl rfl)) pgs_nil)))) (fun _ _ _ _ _ => pts_nil) (fun _ _ _ _ _ => (pv 7))) (pe_lc (own := [("word", 8), ("one", 6)]) (g := gTup K 2 (gCons (gName 8) (gCons (gName 6) gNil))) (tt := tYes) rfl scFits.nd (pi_tup (pv 2)) (blkOk_by (own := [("word", 8), ("one", 6)]) (N := NFits) (sc := (defScope sFits)) (by decide +kernel)) (fun _ _ _ _ _ => (pg_tup (by rfl) (pgs_cons (pg_name (i := 8) scFits.nd rfl (Or.inl rfl)) (pgs_cons (pg_name (i := 6) scFits.nd rfl (Or.inl rfl)) pgs_nil)))) (fun _ _ _ _ _ => pts_nil) (fun _ _ _ _ _ => (pe_cmpR op_eq (pv 8) pe_str (nomark _)))) (nomark _))))
  pss_nil)))
  (pss_one (ps_ret pe_bl))), ?_⟩
    have hv : Dp K H v (.tuple [nmD t.names, nmD t.kinds, .tuple (t.keeps.map exD), .tuple (t.fns.map fnD)]) := hv
    obtain ⟨a, xs, rfl, hq, hd⟩ := hv.tupInv
    obtain ⟨x0, x1, x2, uu, rfl, _, _, _, hx⟩ := hd.four
    obtain ⟨g, gs, rfl, hg, hgd⟩ := hx.tupInv
    have pf := DpAll.map hgd
    obtain ⟨b, ys, rfl, hb, hbd⟩ := hu.tupInv
    have pa := DpAll.map hbd
    have ly : ys.length = as.length := Paired.length pa
    refine ⟨_, rfl, a, _, _, _, rfl, rfl, hq, rfl, g, rfl, ⟨_, hg⟩, ?_⟩
    refine for_tup (K := K) (a := g) (xs := gs) (fun j σ H' => (∃ i0, j ≤ i0 ∧ t.fns[i0]? = some g0) ∧ Same H H' ∧ ∃ x3 x4 x5 : Option V, σ = [some (.ref a), some (.str cl), some (.ref b), x3, x4, x5, none, none, none]) ⟨?_, Same.refl _, none, none, none, rfl⟩ (fun j σ H' _ h' => SqT.same h'.2.1 hg) ?_ ?_
    · obtain ⟨i0, hi0⟩ := List.mem_iff_getElem?.mp hg0
      exact ⟨i0, Nat.zero_le _, hi0⟩
    · rintro j x σ H1 hx ⟨⟨i0, hj, hi0⟩, s1, x3, x4, x5, rfl⟩
      obtain ⟨fn, hfn, hfd⟩ := Paired.at pf hx
      have hfd : Dp K H x (.tuple [.str fn.name, .tuple (fn.ps.map prD), blD fn.b]) := hfd
      obtain ⟨c, zs, rfl, hc, hcd⟩ := hfd.tupInv
      obtain ⟨u1, u2, u3, rfl, h1, h2, h3⟩ := hcd.three
      obtain ⟨p, ps, rfl, hp, hpd⟩ := h2.tupInv
      have pp := DpAll.map hpd
      have lp : ps.length = fn.ps.length := Paired.length pp
      rw [h1.strInv] at hc
      refine ⟨c, _, rfl, SqT.same s1 hc, rfl, _, _, rfl, _, _, rfl, _, _, rfl, rfl, ?_⟩
      refine ⟨_, rfl, _, rfl, rfl, _, rfl, ?_⟩
      by_cases e : fn.name = cl
      · refine iteS (decide_eq_true (by rw [e])) ?_
        have ef := uni fn (List.mem_of_getElem? hfn) e
        have lf : fn.ps.length = as.length := by
          have := congrArg List.length ef
          simpa using this
        refine ⟨_, rfl, p, rfl, ⟨_, SqT.same s1 hp⟩, fun D hD => ?_⟩
        refine lc_tup (K := K) (a := p) (xs := ps) (fun i H' => Same H1 H' ∧ H' D = some (.lst (((fn.ps.take i).map Prod.snd).map V.bl))) ⟨same_new hD, upd_same⟩ (fun i H' _ h' => SqT.same (s1.trans h'.1) hp) ?_ ?_
        · rintro i z H2 hz ⟨s2, eD⟩
          obtain ⟨pr, ht, htd⟩ := Paired.at pp hz
          have htd : Dp K H z (.tuple [.str pr.1, .bool pr.2]) := htd
          obtain ⟨d, zs, rfl, hd, hdd⟩ := htd.tupInv
          obtain ⟨u, w, rfl, hu, hw⟩ := hdd.two
          rw [hu.strInv, Dp.blInv hw] at hd
          have hi : i < ps.length := (List.getElem?_eq_some_iff.mp hz).1
          refine ⟨d, _, rfl, SqT.same (s1.trans s2) hd, rfl, _, _, rfl, _, _, rfl, rfl, rfl, _, rfl, _, eD, small1000 (by rw [List.length_map, List.length_map, List.length_take]; omega), fun c o z => ?_, ?_⟩
          · rw [upd_ne (ne_of_none z hD)]
            exact s2 _ _ z
          · rw [upd_same, take_snoc ht, List.map_append, List.map_append]
            rfl
        · rintro H2 ⟨s2, eD⟩
          rw [lp, List.take_length] at eD
          have s3 := s1.trans s2
          refine ⟨_, rfl, b, rfl, ⟨_, SqT.same s3 hb⟩, fun D2 hD2 => ?_⟩
          refine lc_tup (K := K) (a := b) (xs := ys) (fun i H' => Same H2 H' ∧ H' D2 = some (.lst (((as.take i).map isPl).map V.bl))) ⟨same_new hD2, upd_same⟩ (fun i H' _ h' => SqT.same (s3.trans h'.1) hb) ?_ ?_
          · rintro i z H4 hz ⟨s4, eD2⟩
            obtain ⟨g2, hg, hgd⟩ := Paired.at pa hz
            have hi : i < ys.length := (List.getElem?_eq_some_iff.mp hz).1
            have fin : (((as.take i).map isPl).map V.bl).length < sizeLine ∧ Same H2 (upd H4 D2 (.lst (((as.take i).map isPl).map V.bl ++ [.bl (isPl g2)]))) ∧ upd H4 D2 (.lst (((as.take i).map isPl).map V.bl ++ [.bl (isPl g2)])) D2 = some (.lst (((as.take (i + 1)).map isPl).map V.bl)) := by
              refine ⟨small1000 (by rw [List.length_map, List.length_map, List.length_take]; omega), fun c o z => ?_, ?_⟩
              · rw [upd_ne (ne_of_none z hD2)]
                exact s4 _ _ z
              · rw [upd_same, take_snoc hg, List.map_append, List.map_append]
                rfl
            cases g2 with
            | place n =>
              have hgd : Dp K H z (.tuple [.str "place", .str n]) := hgd
              obtain ⟨d, zs, rfl, hd, hdd⟩ := hgd.tupInv
              obtain ⟨u, w, rfl, hu, hw⟩ := hdd.two
              rw [hu.strInv] at hd
              refine ⟨d, _, rfl, SqT.same (s3.trans s4) hd, rfl, _, _, rfl, _, _, rfl, rfl, rfl, _, rfl, rfl, _, eD2, fin.1, ?_⟩
              rw [decide_eq_true rfl]
              exact fin.2
            | value n =>
              have hgd : Dp K H z (.tuple [.str "value", exD n]) := hgd
              obtain ⟨d, zs, rfl, hd, hdd⟩ := hgd.tupInv
              obtain ⟨u, w, rfl, hu, hw⟩ := hdd.two
              rw [hu.strInv] at hd
              refine ⟨d, _, rfl, SqT.same (s3.trans s4) hd, rfl, _, _, rfl, _, _, rfl, rfl, rfl, _, rfl, rfl, _, eD2, fin.1, ?_⟩
              rw [decide_eq_false (by decide +kernel)]
              exact fin.2
          · rintro H4 ⟨s4, eD2⟩
            rw [ly, List.take_length, ← ef] at eD2
            refine ⟨_, _, .lst (SqL.of (s4 _ _ eD)) (dp_bools _), .lst (SqL.of eD2) (dp_bools _), shaped_bools _, shaped_bools _, ?_⟩
            rw [eqv_bools]
            exact k _ (s3.trans s4)
      · refine iteE (decide_eq_false (fun z => e (by injection z))) ?_
        refine ⟨⟨i0, ?_, hi0⟩, s1, _, _, _, rfl⟩
        rcases Nat.lt_or_ge j i0 with z | z
        · exact z
        · exfalso
          have : j = i0 := by omega
          subst this
          rw [hi0] at hfn
          injection hfn with hfn
          exact e (by rw [← hfn]; exact hg1)
    · rintro σ H1 ⟨⟨i0, hj, hi0⟩, s1, x3, x4, x5, rfl⟩
      exfalso
      have := (List.getElem?_eq_some_iff.mp hi0).1
      have := Paired.length pf
      omega
end

/-! ### two `for`s in a comprehension -/
theorem walkB {K : PySem.W.Frag} {a : Addr} {xs : List V} {B : (Hp → Prop) → V → Hp → Prop} {H0 : Hp} {Qd : Hp → Prop} (Pv : Nat → Hp → Prop) (h0 : Pv 0 H0) (hl : ∀ i H, i ≤ xs.length → Pv i H → SqT K H a xs)
    (hs : ∀ i x H, xs[i]? = some x → Pv i H → B (Pv (i + 1)) x H) (hd : ∀ H, Pv xs.length H → Qd H) :
    ∃ W : Nat → Nat → Hp → Prop, (∃ m, W 0 m H0) ∧ ∀ i m H, W i m H →
      ((Itt K a).stop i H ∧ Qd H) ∨ ((Itt K a).go i H ∧ ∃ Nx : Hp → Prop, (∀ H', Nx H' → ∃ m', m' < m ∧ W (i + 1) m' H') ∧ ∀ x H', (Itt K a).yld i H x H' → B Nx x H') := by
  refine ⟨fun i m H => m = xs.length - i ∧ i ≤ xs.length ∧ Pv i H, ⟨xs.length, by simp, Nat.zero_le _, h0⟩, ?_⟩
  rintro i m H ⟨rfl, hi, p⟩
  have q := hl i H hi p
  by_cases hlt : i < xs.length
  · refine .inr ⟨⟨xs, xs[i], q, by simp [hlt]⟩, Pv (i + 1), fun H' p' => ⟨xs.length - (i + 1), by omega, rfl, hlt, p'⟩, fun x H' y => ?_⟩
    obtain ⟨e, y⟩ := y
    subst e
    exact hs i x _ (y xs q) p
  · have e : i = xs.length := by omega
    subst e
    exact .inl ⟨⟨xs, q, Nat.le_refl _⟩, hd H p⟩

/-! ### named_in -/
abbrev sNmI : Stmt := topS 58
abbrev NNmI : List Str := ["statement", "target", "expression", "name", "factor", "callee", "args", "kinds", "kind", "block", "handlers", "final", "words", "inner", "names", "enter", "leave", "found"]
abbrev PNmI : List Str := ["statement"]
theorem scNmI : FnScope NNmI PNmI (defScope sNmI) := ⟨rfl, rfl, rfl, by decide +kernel, rfl, by decide +kernel, by decide +kernel⟩
def wv : Str := "variable"
def wf : Str := "function"
def wk : Str := "kind"
def namedS : St → List (Str × Str)
  | .set _ e => e.ts.map fun p => (wv, p.1)
  | .ret e => e.ts.map fun p => (wv, p.1)
  | .call _ g as => (wf, g) :: (argsN as).map fun n => (wv, n)
  | .risk ks => ks.map fun n => (wk, n)
  | .raise k => [(wk, k)]
  | .try_ _ hs _ => hs.flatMap fun h => h.ks.map fun n => (wk, n)
  | .undo ns _ => ns.map fun n => (wv, n)
  | .with_ e l ks _ => (((wf, e.1) :: (argsN e.2).map fun n => (wv, n)) ++ ((wf, l.1) :: (argsN l.2).map fun n => (wv, n))) ++ ks.map fun n => (wk, n)
  | _ => []
def rkS : St → Nat
  | .with_ _ _ _ _ => 2
  | _ => 1
def PrAt (K : PySem.W.Frag) (H : Hp) (x : V) (p : Str × Str) : Prop := ∃ a, x = .ref a ∧ SqT K H a [.str p.1, .str p.2]
theorem PrAt.same {K : PySem.W.Frag} {H H' : Hp} (s : Same H H') {x : V} {p : Str × Str} (h : PrAt K H x p) : PrAt K H' x p := let ⟨a, e, q⟩ := h; ⟨a, e, SqT.same s q⟩
def spNmI (K : PySem.W.Frag) (n : Nat) : Sp := fun vs H Q _ => ∃ (v : V) (s : St), vs = [v] ∧ Dp K H v (stD s) ∧ okS s ∧ rkS s ≤ n ∧ (namedS s).length ≤ 900 ∧ ∀ (q : Addr) (xs : List V) (H' : Hp), Same H H' → H q = none → H' q = some (.lst xs) → Paired (PrAt K H') xs (namedS s) → Q (.ref q) H'
section
variable {P : Program} {w : World} {K : PySem.W.Frag} {mg : Str → Option Value} {base : Heap}
theorem ok_NmI {f : Addr} {fd : FuncData} (F : Fun K "named_in" "named_in" sNmI f fd) (GA : Has P w K mg base CX0 1 "names_of_args" PNoA (spNoA K)) (m : mg "named_in" = some (.ref f)) (kp : PySem.W.keepIn K (.ref f) = true) (bd : Binds K fd PNmI []) : ∀ n, FnOk P w K mg base CX0 (1 + n) f fd PNmI (spNmI K n) := by
  intro n
  induction n with
  | zero => exact ⟨fun vs H Q E h => by obtain ⟨_, s, _, _, _, h, _⟩ := h; cases s <;> exact absurd h (by simp [rkS]), fun _ _ _ _ _ _ _ _ _ _ _ _ _ h => by obtain ⟨_, s, _, _, _, h, _⟩ := h; cases s <;> exact absurd h (by simp [rkS])⟩
  | succ n ih =>
  have GS : Has P w K mg base CX0 (1 + n) "named_in" PNmI (spNmI K n) := ⟨f, fd, ih, m, kp, bd⟩
  refine F.ok scNmI (fun vs H Q E h => ?_) (fun cdv A outer s H vs Q E hr h => ?_)
  · obtain ⟨q, l, rfl, _⟩ := h
    rfl
  · obtain ⟨v, st, rfl, hv, ok, rk, tot, k⟩ := h
    have hr1 := hr.mono (j := 1) (show 1 ≤ 1 + n by omega)
    refine ⟨_, (pss_one (ps_match (pv 0) (pcs_cons scNmI.nd (pm_seq rfl (pms_cons pm_str (pms_cons (pm_as (i := 1) rfl (Or.inl rfl)) (pms_cons (pm_as (i := 2) rfl (Or.inl rfl)) pms_nil))))
  (pss_one (ps_ret (pe_lc (own := [("name", 3), ("factor", 4)]) (g := gTup K 2 (gCons (gName 3) (gCons (gName 4) gNil))) (tt := tYes) rfl scNmI.nd (pi_tup (pe_ix (r := rIxT K) ix_tup (pv 2) pe_int (fun _ _ => rfl))) (blkOk_by (own := [("name", 3), ("factor", 4)]) (N := NNmI) (sc := (defScope sNmI)) (by decide +kernel)) (fun _ _ _ _ _ => (pg_tup (by rfl) (pgs_cons (pg_name (i := 3) scNmI.nd rfl (Or.inl rfl)) (pgs_cons (pg_name (i := 4) scNmI.nd rfl (Or.inl rfl)) pgs_nil)))) (fun _ _ _ _ _ => pts_nil) (fun _ _ _ _ _ => (pe_tup (pa_cons pe_str (pa_cons (pv 3) pa_nil)))))))
  (pcs_cons scNmI.nd (pm_seq rfl (pms_cons pm_str (pms_cons (pm_as (i := 2) rfl (Or.inl rfl)) pms_nil)))
  (pss_one (ps_ret (pe_lc (own := [("name", 3), ("factor", 4)]) (g := gTup K 2 (gCons (gName 3) (gCons (gName 4) gNil))) (tt := tYes) rfl scNmI.nd (pi_tup (pe_ix (r := rIxT K) ix_tup (pv 2) pe_int (fun _ _ => rfl))) (blkOk_by (own := [("name", 3), ("factor", 4)]) (N := NNmI) (sc := (defScope sNmI)) (by decide +kernel)) (fun _ _ _ _ _ => (pg_tup (by rfl) (pgs_cons (pg_name (i := 3) scNmI.nd rfl (Or.inl rfl)) (pgs_cons (pg_name (i := 4) scNmI.nd rfl (Or.inl rfl)) pgs_nil)))) (fun _ _ _ _ _ => pts_nil) (fun _ _ _ _ _ => (pe_tup (pa_cons pe_str (pa_cons (pv 3) pa_nil)))))))
  (pcs_cons scNmI.nd (pm_seq rfl (pms_cons pm_str (pms_cons (pm_as (i := 1) rfl (Or.inl rfl)) (pms_cons (pm_as (i := 5) rfl (Or.inl rfl)) (pms_cons (pm_as (i := 6) rfl (Or.inl rfl)) pms_nil)))))
  (pss_one (ps_ret (pe_op op_cat (pe_lst (pa_cons (pe_tup (pa_cons pe_str (pa_cons (pv 5) pa_nil))) pa_nil)) (pe_lc (own := [("name", 3)]) (g := gName 3) (tt := tYes) rfl scNmI.nd (pi_list (pe_callH GA hr1 rfl pass0 (pa_cons (pv 6) pa_nil))) (blkOk_by (own := [("name", 3)]) (N := NNmI) (sc := (defScope sNmI)) (by decide +kernel)) (fun _ _ _ _ _ => (pg_name (i := 3) scNmI.nd rfl (Or.inl rfl))) (fun _ _ _ _ _ => pts_nil) (fun _ _ _ _ _ => (pe_tup (pa_cons pe_str (pa_cons (pv 3) pa_nil))))))))
  (pcs_cons scNmI.nd (pm_seq rfl (pms_cons pm_str (pms_cons (pm_as (i := 7) rfl (Or.inl rfl)) pms_nil)))
  (pss_one (ps_ret (pe_lc (own := [("name", 3)]) (g := gName 3) (tt := tYes) rfl scNmI.nd (pi_tup (pv 7)) (blkOk_by (own := [("name", 3)]) (N := NNmI) (sc := (defScope sNmI)) (by decide +kernel)) (fun _ _ _ _ _ => (pg_name (i := 3) scNmI.nd rfl (Or.inl rfl))) (fun _ _ _ _ _ => pts_nil) (fun _ _ _ _ _ => (pe_tup (pa_cons pe_str (pa_cons (pv 3) pa_nil)))))))
  (pcs_cons scNmI.nd (pm_seq rfl (pms_cons pm_str (pms_cons (pm_as (i := 8) rfl (Or.inl rfl)) pms_nil)))
  (pss_one (ps_ret (pe_lst (pa_cons (pe_tup (pa_cons pe_str (pa_cons (pv 8) pa_nil))) pa_nil))))
  (pcs_cons scNmI.nd (pm_seq rfl (pms_cons pm_str (pms_cons (pm_as (i := 9) rfl (Or.inl rfl)) (pms_cons (pm_as (i := 10) rfl (Or.inl rfl)) (pms_cons (pm_as (i := 11) rfl (Or.inl rfl)) pms_nil)))))
  (pss_one (ps_ret (pe_lc2 (own := [("words", 12), ("inner", 13), ("name", 3)]) (vs1 := [3]) (wi1 := iTup K (tVar 12)) (g := gTup K 2 (gCons (gName 12) (gCons (gName 13) gNil))) (g1 := gName 3) (tt := tYes) (tt1 := tYes) rfl scNmI.nd (pi_tup (pv 10)) (blkOk_by (own := [("words", 12), ("inner", 13), ("name", 3)]) (N := NNmI) (sc := (defScope sNmI)) (by decide +kernel)) (by decide) (fun _ _ _ _ _ => (pg_tup (by rfl) (pgs_cons (pg_name (i := 12) scNmI.nd rfl (Or.inl rfl)) (pgs_cons (pg_name (i := 13) scNmI.nd rfl (Or.inl rfl)) pgs_nil)))) (fun _ _ _ _ _ => pts_nil) (fun _ _ _ _ _ => (pi_tup (pv 12))) (fun _ _ _ _ _ => (pg_name (i := 3) scNmI.nd rfl (Or.inl rfl))) (fun _ _ _ _ _ => pts_nil) (fun _ _ _ _ _ => (pe_tup (pa_cons pe_str (pa_cons (pv 3) pa_nil)))))))
  (pcs_cons scNmI.nd (pm_seq rfl (pms_cons pm_str (pms_cons (pm_as (i := 14) rfl (Or.inl rfl)) (pms_cons (pm_as (i := 9) rfl (Or.inl rfl)) pms_nil))))
  (pss_one (ps_ret (pe_lc (own := [("name", 3)]) (g := gName 3) (tt := tYes) rfl scNmI.nd (pi_tup (pv 14)) (blkOk_by (own := [("name", 3)]) (N := NNmI) (sc := (defScope sNmI)) (by decide +kernel)) (fun _ _ _ _ _ => (pg_name (i := 3) scNmI.nd rfl (Or.inl rfl))) (fun _ _ _ _ _ => pts_nil) (fun _ _ _ _ _ => (pe_tup (pa_cons pe_str (pa_cons (pv 3) pa_nil)))))))
  (pcs_cons scNmI.nd (pm_seq rfl (pms_cons pm_str (pms_cons (pm_as (i := 15) rfl (Or.inl rfl)) (pms_cons (pm_as (i := 16) rfl (Or.inl rfl)) (pms_cons (pm_as (i := 7) rfl (Or.inl rfl)) (pms_cons (pm_as (i := 9) rfl (Or.inl rfl)) pms_nil))))))
  (pss_cons (ps_set (i := 17) scNmI.nd rfl (Or.inl rfl) (pe_op op_cat (pe_callH GS hr rfl pass0 (pa_cons (pe_tup (pa_cons pe_str (pa_cons pe_non (pa_cons (pe_ix (r := rIxT K) ix_tup (pv 15) pe_int (fun _ _ => rfl)) (pa_cons (pe_ix (r := rIxT K) ix_tup (pv 15) pe_int (fun _ _ => rfl)) pa_nil))))) pa_nil)) (pe_callH GS hr rfl pass0 (pa_cons (pe_tup (pa_cons pe_str (pa_cons pe_non (pa_cons (pe_ix (r := rIxT K) ix_tup (pv 16) pe_int (fun _ _ => rfl)) (pa_cons (pe_ix (r := rIxT K) ix_tup (pv 16) pe_int (fun _ _ => rfl)) pa_nil))))) pa_nil))))
  (pss_one (ps_ret (pe_op op_cat (pv 17) (pe_lc (own := [("name", 3)]) (g := gName 3) (tt := tYes) rfl scNmI.nd (pi_tup (pv 7)) (blkOk_by (own := [("name", 3)]) (N := NNmI) (sc := (defScope sNmI)) (by decide +kernel)) (fun _ _ _ _ _ => (pg_name (i := 3) scNmI.nd rfl (Or.inl rfl))) (fun _ _ _ _ _ => pts_nil) (fun _ _ _ _ _ => (pe_tup (pa_cons pe_str (pa_cons (pv 3) pa_nil)))))))))
  (pcs_cons scNmI.nd pm_wild
  (pss_one (ps_ret (pe_lst pa_nil)))
  pcs_nil))))))))))), ?_⟩
    obtain ⟨a, xs, rfl, hq, hd⟩ := stInv hv
    refine ⟨_, rfl, ?_⟩
    cases st <;> simp only [wordS] at hq
    case set g e =>
      obtain ⟨x, y, rfl, h1, h2⟩ := DpAll.two hd
      refine case_hit hq rfl ⟨_, _, rfl, _, _, rfl, ?_⟩
      have he : Dp K H y (.tuple [.int e.c, .tuple (e.ts.map fun p => .tuple [.str p.1, .int p.2])]) := h2
      obtain ⟨z1, zs, rfl, hz, hzd⟩ := he.tupInv
      obtain ⟨w1, w2, rfl, h4, h5⟩ := hzd.two
      obtain ⟨b, ts, rfl, hb, hbd⟩ := h5.tupInv
      have pt := DpAll.map hbd
      have lt : ts.length = e.ts.length := Paired.length pt
      have le : e.ts.length ≤ 900 := by rw [show namedS _ = e.ts.map fun p => (wv, p.1) from rfl, List.length_map] at tot; exact tot
      refine ⟨_, rfl, z1, _, _, _, rfl, rfl, hz, rfl, b, rfl, ⟨_, hb⟩, fun D hD => ?_⟩
      refine lc_tup (K := K) (a := b) (xs := ts) (fun i H' => Same H H' ∧ ∃ us, H' D = some (.lst us) ∧ us.length = i ∧ Paired (PrAt K H') us ((e.ts.take i).map fun p => (wv, p.1))) ⟨same_new hD, [], upd_same, rfl, .nil⟩ (fun i H' _ h' => SqT.same h'.1 hb) ?_ ?_
      · rintro i z H2 hz ⟨s2, us, eD, lu, pu⟩
        obtain ⟨pr, ht, htd⟩ := Paired.at pt hz
        obtain ⟨c, zs, rfl, hc, hcd⟩ := htd.tupInv
        obtain ⟨u, w, rfl, hu, hw⟩ := hcd.two
        rw [hu.strInv] at hc
        have hi : i < ts.length := (List.getElem?_eq_some_iff.mp hz).1
        refine ⟨c, _, rfl, SqT.same s2 hc, rfl, _, _, rfl, _, _, rfl, rfl, rfl, ?_⟩
        refine ⟨_, rfl, (by show 2 ≤ sizeLine; decide), fun t ht2 => ?_⟩
        have s3 := same_new (o := .tup [.str wv, .str pr.1]) ht2
        have eD3 := s3 _ _ eD
        refine ⟨_, eD3, small1000 (by omega), fun c o z => ?_, _, upd_same, by rw [List.length_append, lu]; rfl, ?_⟩
        · rw [upd_ne (ne_of_none z hD)]
          exact s3 _ _ (s2 _ _ z)
        · rw [take_snoc ht, List.map_append]
          have tp := (Tps.of s3).trans (Tps.lst (o := .lst (us ++ [.ref t])) eD3)
          exact Paired.snoc (Paired.mapP pu fun _ _ ⟨a, e, q⟩ => ⟨a, e, tp.sqt q⟩) ⟨t, rfl, (Tps.lst (o := .lst (us ++ [.ref t])) eD3).sqt (SqT.of upd_same)⟩
      · rintro H2 ⟨s2, us, eD, lu, pu⟩
        rw [lt, List.take_length] at pu
        exact k D us H2 s2 hD eD pu
    case ret e =>
      obtain ⟨y, rfl, h2⟩ := DpAll.one hd
      repeat (first | refine case_len hq (Nat.ne_of_beq_eq_false rfl) ?_ | refine case_word hq rfl (by decide +kernel) ?_)
      refine case_hit hq rfl ⟨_, _, rfl, ?_⟩
      have he : Dp K H y (.tuple [.int e.c, .tuple (e.ts.map fun p => .tuple [.str p.1, .int p.2])]) := h2
      obtain ⟨z1, zs, rfl, hz, hzd⟩ := he.tupInv
      obtain ⟨w1, w2, rfl, h4, h5⟩ := hzd.two
      obtain ⟨b, ts, rfl, hb, hbd⟩ := h5.tupInv
      have pt := DpAll.map hbd
      have lt : ts.length = e.ts.length := Paired.length pt
      have le : e.ts.length ≤ 900 := by rw [show namedS _ = e.ts.map fun p => (wv, p.1) from rfl, List.length_map] at tot; exact tot
      refine ⟨_, rfl, z1, _, _, _, rfl, rfl, hz, rfl, b, rfl, ⟨_, hb⟩, fun D hD => ?_⟩
      refine lc_tup (K := K) (a := b) (xs := ts) (fun i H' => Same H H' ∧ ∃ us, H' D = some (.lst us) ∧ us.length = i ∧ Paired (PrAt K H') us ((e.ts.take i).map fun p => (wv, p.1))) ⟨same_new hD, [], upd_same, rfl, .nil⟩ (fun i H' _ h' => SqT.same h'.1 hb) ?_ ?_
      · rintro i z H2 hz ⟨s2, us, eD, lu, pu⟩
        obtain ⟨pr, ht, htd⟩ := Paired.at pt hz
        obtain ⟨c, zs, rfl, hc, hcd⟩ := htd.tupInv
        obtain ⟨u, w, rfl, hu, hw⟩ := hcd.two
        rw [hu.strInv] at hc
        have hi : i < ts.length := (List.getElem?_eq_some_iff.mp hz).1
        refine ⟨c, _, rfl, SqT.same s2 hc, rfl, _, _, rfl, _, _, rfl, rfl, rfl, ?_⟩
        refine ⟨_, rfl, (by show 2 ≤ sizeLine; decide), fun t ht2 => ?_⟩
        have s3 := same_new (o := .tup [.str wv, .str pr.1]) ht2
        have eD3 := s3 _ _ eD
        refine ⟨_, eD3, small1000 (by omega), fun c o z => ?_, _, upd_same, by rw [List.length_append, lu]; rfl, ?_⟩
        · rw [upd_ne (ne_of_none z hD)]
          exact s3 _ _ (s2 _ _ z)
        · rw [take_snoc ht, List.map_append]
          have tp := (Tps.of s3).trans (Tps.lst (o := .lst (us ++ [.ref t])) eD3)
          exact Paired.snoc (Paired.mapP pu fun _ _ ⟨a, e, q⟩ => ⟨a, e, tp.sqt q⟩) ⟨t, rfl, (Tps.lst (o := .lst (us ++ [.ref t])) eD3).sqt (SqT.of upd_same)⟩
      · rintro H2 ⟨s2, us, eD, lu, pu⟩
        rw [lt, List.take_length] at pu
        exact k D us H2 s2 hD eD pu
    case risk ks =>
      obtain ⟨y, rfl, h2⟩ := DpAll.one hd
      repeat (first | refine case_len hq (Nat.ne_of_beq_eq_false rfl) ?_ | refine case_word hq rfl (by decide +kernel) ?_)
      refine case_hit hq rfl ⟨_, _, rfl, ?_⟩
      obtain ⟨b, ts, rfl, hb, hbd⟩ := (h2).tupInv
      have pt := DpAll.map hbd
      have lt : ts.length = ks.length := Paired.length pt
      have le : ks.length ≤ 900 := by rw [show namedS _ = ks.map fun n => (wk, n) from rfl, List.length_map] at tot; exact tot
      refine ⟨_, rfl, b, rfl, ⟨_, hb⟩, fun D hD => ?_⟩
      refine lc_tup (K := K) (a := b) (xs := ts) (fun i H' => Same H H' ∧ ∃ us, H' D = some (.lst us) ∧ us.length = i ∧ Paired (PrAt K H') us ((ks.take i).map fun n => (wk, n))) ⟨same_new hD, [], upd_same, rfl, .nil⟩ (fun i H' _ h' => SqT.same h'.1 hb) ?_ ?_
      · rintro i z H2 hz ⟨s2, us, eD, lu, pu⟩
        obtain ⟨nm, ht, htd⟩ := Paired.at pt hz
        rw [htd.strInv]
        have hi : i < ts.length := (List.getElem?_eq_some_iff.mp hz).1
        refine ⟨rfl, _, rfl, (by show 2 ≤ sizeLine; decide), fun t ht2 => ?_⟩
        have s3 := same_new (o := .tup [.str wk, .str nm]) ht2
        have eD3 := s3 _ _ eD
        refine ⟨_, eD3, small1000 (by omega), fun c o z => ?_, _, upd_same, by rw [List.length_append, lu]; rfl, ?_⟩
        · rw [upd_ne (ne_of_none z hD)]
          exact s3 _ _ (s2 _ _ z)
        · rw [take_snoc ht, List.map_append]
          have tp := (Tps.of s3).trans (Tps.lst (o := .lst (us ++ [.ref t])) eD3)
          exact Paired.snoc (Paired.mapP pu fun _ _ ⟨a, e, q⟩ => ⟨a, e, tp.sqt q⟩) ⟨t, rfl, (Tps.lst (o := .lst (us ++ [.ref t])) eD3).sqt (SqT.of upd_same)⟩
      · rintro H2 ⟨s2, us, eD, lu, pu⟩
        rw [lt, List.take_length] at pu
        exact k D us H2 s2 hD eD pu
    case undo ns p =>
      obtain ⟨y, y2, rfl, h2, _⟩ := DpAll.two hd
      repeat (first | refine case_len hq (Nat.ne_of_beq_eq_false rfl) ?_ | refine case_word hq rfl (by decide +kernel) ?_)
      refine case_hit hq rfl ⟨_, _, rfl, _, _, rfl, ?_⟩
      obtain ⟨b, ts, rfl, hb, hbd⟩ := (h2).tupInv
      have pt := DpAll.map hbd
      have lt : ts.length = ns.length := Paired.length pt
      have le : ns.length ≤ 900 := by rw [show namedS _ = ns.map fun n => (wv, n) from rfl, List.length_map] at tot; exact tot
      refine ⟨_, rfl, b, rfl, ⟨_, hb⟩, fun D hD => ?_⟩
      refine lc_tup (K := K) (a := b) (xs := ts) (fun i H' => Same H H' ∧ ∃ us, H' D = some (.lst us) ∧ us.length = i ∧ Paired (PrAt K H') us ((ns.take i).map fun n => (wv, n))) ⟨same_new hD, [], upd_same, rfl, .nil⟩ (fun i H' _ h' => SqT.same h'.1 hb) ?_ ?_
      · rintro i z H2 hz ⟨s2, us, eD, lu, pu⟩
        obtain ⟨nm, ht, htd⟩ := Paired.at pt hz
        rw [htd.strInv]
        have hi : i < ts.length := (List.getElem?_eq_some_iff.mp hz).1
        refine ⟨rfl, _, rfl, (by show 2 ≤ sizeLine; decide), fun t ht2 => ?_⟩
        have s3 := same_new (o := .tup [.str wv, .str nm]) ht2
        have eD3 := s3 _ _ eD
        refine ⟨_, eD3, small1000 (by omega), fun c o z => ?_, _, upd_same, by rw [List.length_append, lu]; rfl, ?_⟩
        · rw [upd_ne (ne_of_none z hD)]
          exact s3 _ _ (s2 _ _ z)
        · rw [take_snoc ht, List.map_append]
          have tp := (Tps.of s3).trans (Tps.lst (o := .lst (us ++ [.ref t])) eD3)
          exact Paired.snoc (Paired.mapP pu fun _ _ ⟨a, e, q⟩ => ⟨a, e, tp.sqt q⟩) ⟨t, rfl, (Tps.lst (o := .lst (us ++ [.ref t])) eD3).sqt (SqT.of upd_same)⟩
      · rintro H2 ⟨s2, us, eD, lu, pu⟩
        rw [lt, List.take_length] at pu
        exact k D us H2 s2 hD eD pu
    case raise g =>
      obtain ⟨y, rfl, h2⟩ := DpAll.one hd
      rw [h2.strInv] at hq
      repeat (first | refine case_len hq (Nat.ne_of_beq_eq_false rfl) ?_ | refine case_word hq rfl (by decide +kernel) ?_)
      refine case_hit hq rfl ⟨_, _, rfl, ?_⟩
      refine ⟨_, rfl, (by show 2 ≤ sizeLine; decide), fun t ht => ?_⟩
      have s1 := same_new (o := .tup [.str wk, .str g]) ht
      refine ⟨(by show 1 ≤ sizeLine; decide), fun q hq1 => ?_⟩
      have s2 := same_new (o := .lst [.ref t]) hq1
      exact k q _ _ (s1.trans s2) (none_same s1 hq1) upd_same (.cons ⟨t, rfl, SqT.of (s2 _ _ upd_same)⟩ .nil)
    case call g gg as =>
      obtain ⟨x, y, z, rfl, h1, h2, h3⟩ := DpAll.three hd
      rw [h2.strInv] at hq
      repeat (first | refine case_len hq (Nat.ne_of_beq_eq_false rfl) ?_ | refine case_word hq rfl (by decide +kernel) ?_)
      refine case_hit hq rfl ⟨_, _, rfl, _, _, rfl, _, _, rfl, ?_⟩
      have tot2 : (argsN as).length + 1 ≤ 900 := by rw [show namedS _ = (wf, gg) :: (argsN as).map fun n => (wv, n) from rfl, List.length_cons, List.length_map] at tot; exact tot
      refine ⟨_, rfl, (by show 2 ≤ sizeLine; decide), fun t ht => ?_⟩
      have s1 := same_new (o := .tup [.str wf, .str gg]) ht
      have et : upd H t (.tup [.str wf, .str gg]) t = some (.tup [.str wf, .str gg]) := upd_same
      refine ⟨(by show 1 ≤ sizeLine; decide), fun q hq1 => ?_⟩
      have s2 := same_new (o := .lst [.ref t]) hq1
      have eq0 : upd (upd H t (.tup [.str wf, .str gg])) q (.lst [.ref t]) q = some (.lst [.ref t]) := upd_same
      have s3 := s1.trans s2
      have et2 := s2 _ _ et
      refine ⟨_, rfl, z, as, rfl, h3.same s3, by omega, fun L H2 s4 nL eL => ?_⟩
      have s5 := s3.trans s4
      refine ⟨L, rfl, ⟨_, SqL.of eL⟩, fun D hD => ?_⟩
      refine lc_it (walk_list (K := K) (a := L) (xs := (argsN as).map V.str)) (fun i H' => Same H2 H' ∧ ∃ us, H' D = some (.lst us) ∧ us.length = i ∧ Paired (PrAt K H') us (((argsN as).take i).map fun n => (wv, n))) ⟨same_new hD, [], upd_same, rfl, .nil⟩ (fun i H' _ h' => SqL.of (h'.1 _ _ eL)) ?_ ?_
      · rintro i z H4 H5 hi ⟨s6, us, eD, lu, pu⟩ ⟨rfl, hz⟩
        have hi : i < (argsN as).length := by rwa [List.length_map] at hi
        obtain ⟨nm, hnm⟩ : ∃ nm, (argsN as)[i]? = some nm := ⟨_, List.getElem?_eq_getElem hi⟩
        rw [List.getElem?_map, hnm] at hz
        simp only [Option.map_some, Option.some.injEq] at hz
        subst hz
        refine ⟨rfl, _, rfl, (by show 2 ≤ sizeLine; decide), fun t ht2 => ?_⟩
        have s3 := same_new (o := .tup [.str wv, .str nm]) ht2
        have eD3 := s3 _ _ eD
        refine ⟨_, eD3, small1000 (by omega), fun c o z => ?_, _, upd_same, by rw [List.length_append, lu]; rfl, ?_⟩
        · rw [upd_ne (ne_of_none z hD)]
          exact s3 _ _ (s6 _ _ z)
        · rw [take_snoc hnm, List.map_append]
          have tp := (Tps.of s3).trans (Tps.lst (o := .lst (us ++ [.ref t])) eD3)
          exact Paired.snoc (Paired.mapP pu fun _ _ ⟨a, e, q⟩ => ⟨a, e, tp.sqt q⟩) ⟨t, rfl, (Tps.lst (o := .lst (us ++ [.ref t])) eD3).sqt (SqT.of upd_same)⟩
      · rintro H3 ⟨s6, us, eD, lu, pu⟩
        rw [List.length_map, List.take_length] at pu
        rw [List.length_map] at lu
        have s7 := s4.trans s6
        refine ⟨q, D, _, _, rfl, rfl, s7 _ _ eq0, eD, Nat.le_of_lt (sizeBig (by rw [lu]; show 1 + _ ≤ _; omega)), fun r hr => ?_⟩
        have s8 := same_new (o := .lst ([.ref t] ++ us)) hr
        exact k r _ _ (((s3.trans s7)).trans s8) (none_same (s3.trans s7) hr) upd_same (.cons ⟨t, rfl, SqT.of (s8 _ _ (s7 _ _ et2))⟩ (Paired.mapP pu fun _ _ z => z.same s8))
    case try_ p hs q =>
      obtain ⟨x, y, z, rfl, _, h2, _⟩ := DpAll.three hd
      repeat (first | refine case_len hq (Nat.ne_of_beq_eq_false rfl) ?_ | refine case_word hq rfl (by decide +kernel) ?_)
      refine case_hit hq rfl ⟨_, _, rfl, _, _, rfl, _, _, rfl, ?_⟩
      obtain ⟨b, ys, rfl, hb, hdb⟩ := h2.tupInv
      rw [hdsD_map] at hdb
      have ph := hdb.map
      have lh : ys.length = hs.length := Paired.length ph
      refine ⟨_, rfl, b, rfl, ⟨_, hb⟩, fun D hD => ?_⟩
      refine walkB (K := K) (a := b) (xs := ys) (fun i H' => Same H H' ∧ ∃ us, H' D = some (.lst us) ∧ Paired (PrAt K H') us ((hs.take i).flatMap fun h => h.ks.map fun n => (wk, n))) ⟨same_new hD, [], upd_same, .nil⟩ (fun i H' _ h' => SqT.same h'.1 hb) ?_ ?_
      · rintro i z H2 hz ⟨s2, us, eD, pu⟩
        obtain ⟨hdl, hh, hdp⟩ := Paired.at ph hz
        cases hdl with
        | mk ks bb =>
          have hdp : Dp K H z (.tuple [nmD ks, blD bb]) := hdp
          obtain ⟨c, zs, rfl, hc, hcd⟩ := hdp.tupInv
          obtain ⟨u, w, rfl, hu, hw⟩ := hcd.two
          obtain ⟨d, ws, rfl, hd1, hdd⟩ := hu.tupInv
          have pt := DpAll.map hdd
          have lt : ws.length = ks.length := Paired.length pt
          refine ⟨c, _, rfl, SqT.same s2 hc, rfl, _, _, rfl, _, _, rfl, rfl, rfl, ?_⟩
          refine ⟨_, rfl, d, rfl, ⟨_, SqT.same s2 hd1⟩, ?_⟩
          have efl : (hs.take (i + 1)).flatMap (fun h => h.ks.map fun n => (wk, n)) = ((hs.take i).flatMap fun h => h.ks.map fun n => (wk, n)) ++ ks.map fun n => (wk, n) := flat_snoc (f := fun h : Hd => h.ks.map fun n => (wk, n)) hh
          have lfl := flat_len (f := fun h : Hd => h.ks.map fun n => (wk, n)) (l := hs) (i + 1)
          rw [efl, List.length_append, List.length_map, ← Paired.length pu] at lfl
          have tot2 : (hs.flatMap fun h => h.ks.map fun n => (wk, n)).length ≤ 900 := tot
          refine walkB (K := K) (a := d) (xs := ws) (fun j H' => Same H H' ∧ ∃ vs, H' D = some (.lst vs) ∧ vs.length = us.length + j ∧ Paired (PrAt K H') vs (((hs.take i).flatMap fun h => h.ks.map fun n => (wk, n)) ++ (ks.take j).map fun n => (wk, n))) ⟨s2, us, eD, rfl, by rw [List.take_zero, List.map_nil, List.append_nil]; exact pu⟩ (fun i H' _ h' => SqT.same h'.1 hd1) ?_ ?_
          · rintro j y H3 hy ⟨s3, vs, eD3, lv, pv⟩
            obtain ⟨nm, hnm, hnd⟩ := Paired.at pt hy
            rw [hnd.strInv]
            have hj : j < ws.length := (List.getElem?_eq_some_iff.mp hy).1
            refine ⟨rfl, _, rfl, (by show 2 ≤ sizeLine; decide), fun t ht2 => ?_⟩
            have s4 := same_new (o := .tup [.str wk, .str nm]) ht2
            have eD4 := s4 _ _ eD3
            refine ⟨_, eD4, small1000 (by omega), fun c o z => ?_, _, upd_same, by rw [List.length_append, lv]; rfl, ?_⟩
            · rw [upd_ne (ne_of_none z hD)]
              exact s4 _ _ (s3 _ _ z)
            · rw [take_snoc hnm, List.map_append, ← List.append_assoc]
              have tp := (Tps.of s4).trans (Tps.lst (o := .lst (vs ++ [.ref t])) eD4)
              exact Paired.snoc (Paired.mapP pv fun _ _ ⟨a, e, q⟩ => ⟨a, e, tp.sqt q⟩) ⟨t, rfl, (Tps.lst (o := .lst (vs ++ [.ref t])) eD4).sqt (SqT.of upd_same)⟩
          · rintro H3 ⟨s3, vs, eD3, lv, pv⟩
            rw [lt, List.take_length, ← efl] at pv
            exact ⟨s3, vs, eD3, pv⟩
      · rintro H2 ⟨s2, us, eD, pu⟩
        rw [lh, List.take_length] at pu
        exact k D us H2 s2 hD eD pu
    case with_ e l ks p =>
      have ok : (okCal e ∧ okCal l ∧ okNs ks) ∧ (p.length ≤ 900 ∧ okL p) := ok
      have rk : 2 ≤ n + 1 := rk
      have tot : ((namedS (.call none e.1 e.2) ++ namedS (.call none l.1 l.2)) ++ ks.map fun n => (wk, n)).length ≤ 900 := tot
      rw [List.length_append, List.length_append, List.length_map] at tot
      obtain ⟨x, y, z, u, rfl, h1, h2, h3, h4⟩ := DpAll.four hd
      have h1 : Dp K H x (.tuple [.str e.1, .tuple (e.2.map argD)]) := h1
      have h2 : Dp K H y (.tuple [.str l.1, .tuple (l.2.map argD)]) := h2
      obtain ⟨x0, ex, rfl, hx0, hxd⟩ := h1.tupInv
      obtain ⟨e1, e2, rfl, he1, he2⟩ := hxd.two
      obtain ⟨y0, ey, rfl, hy0, hyd⟩ := h2.tupInv
      obtain ⟨l1, l2, rfl, hl1, hl2⟩ := hyd.two
      obtain ⟨b, ts, rfl, hb, hbd⟩ := h3.tupInv
      have pt := DpAll.map hbd
      have lt : ts.length = ks.length := Paired.length pt
      repeat (first | refine case_len hq (Nat.ne_of_beq_eq_false rfl) ?_ | refine case_word hq rfl (by decide +kernel) ?_)
      refine case_hit hq rfl ⟨_, _, rfl, _, _, rfl, _, _, rfl, _, _, rfl, ?_⟩
      refine ⟨_, rfl, x0, _, _, _, rfl, rfl, hx0, rfl, _, rfl, x0, _, _, _, rfl, rfl, hx0, rfl, (by show 4 ≤ sizeLine; decide), fun t1 ht1 => ?_⟩
      have s1 := same_new (o := .tup [.str "call", .non, e1, e2]) ht1
      refine ⟨_, .call none e.1 e.2, rfl, .tup (SqT.of upd_same) (.cons (.str _) (.cons .non (.cons (he1.same s1) (.cons (he2.same s1) .nil)))), ⟨fun _ z => (by cases z), ok.1.1.1, ok.1.1.2⟩, (by show 1 ≤ n; omega), by omega, fun q1 xs1 H1 s2 n1 eq1 p1 => ?_⟩
      have s3 := s1.trans s2
      refine ⟨_, rfl, y0, _, _, _, rfl, rfl, SqT.same s3 hy0, rfl, _, rfl, y0, _, _, _, rfl, rfl, SqT.same s3 hy0, rfl, (by show 4 ≤ sizeLine; decide), fun t2 ht2 => ?_⟩
      have s4 := same_new (o := .tup [.str "call", .non, l1, l2]) ht2
      have s5 := s3.trans s4
      refine ⟨_, .call none l.1 l.2, rfl, .tup (SqT.of upd_same) (.cons (.str _) (.cons .non (.cons (hl1.same s5) (.cons (hl2.same s5) .nil)))), ⟨fun _ z => (by cases z), ok.1.2.1.1, ok.1.2.1.2⟩, (by show 1 ≤ n; omega), by omega, fun q2 xs2 H2 s6 n2 eq2 p2 => ?_⟩
      have s7 := s5.trans s6
      have m1 := Paired.length p1
      have m2 := Paired.length p2
      refine ⟨q1, q2, _, _, rfl, rfl, (s4.trans s6) _ _ eq1, eq2, Nat.le_of_lt (sizeBig (by omega)), fun q3 hq3 => ?_⟩
      have s8 := same_new (o := .lst (xs1 ++ xs2)) hq3
      have s9 := s7.trans s8
      refine ⟨_, rfl, _, rfl, b, rfl, ⟨_, SqT.same s9 hb⟩, fun D hD => ?_⟩
      refine lc_tup (K := K) (a := b) (xs := ts) (fun i H' => Same (upd H2 q3 (.lst (xs1 ++ xs2))) H' ∧ ∃ us, H' D = some (.lst us) ∧ us.length = i ∧ Paired (PrAt K H') us ((ks.take i).map fun n => (wk, n))) ⟨same_new hD, [], upd_same, rfl, .nil⟩ (fun i H' _ h' => SqT.same (s9.trans h'.1) hb) ?_ ?_
      · rintro i z H4 hz ⟨s10, us, eD, lu, pu⟩
        obtain ⟨nm, ht, htd⟩ := Paired.at pt hz
        rw [htd.strInv]
        have hi : i < ts.length := (List.getElem?_eq_some_iff.mp hz).1
        refine ⟨rfl, _, rfl, (by show 2 ≤ sizeLine; decide), fun t ht2 => ?_⟩
        have s3 := same_new (o := .tup [.str wk, .str nm]) ht2
        have eD3 := s3 _ _ eD
        refine ⟨_, eD3, small1000 (by omega), fun c o z => ?_, _, upd_same, by rw [List.length_append, lu]; rfl, ?_⟩
        · rw [upd_ne (ne_of_none z hD)]
          exact s3 _ _ (s10 _ _ z)
        · rw [take_snoc ht, List.map_append]
          have tp := (Tps.of s3).trans (Tps.lst (o := .lst (us ++ [.ref t])) eD3)
          exact Paired.snoc (Paired.mapP pu fun _ _ ⟨a, e, q⟩ => ⟨a, e, tp.sqt q⟩) ⟨t, rfl, (Tps.lst (o := .lst (us ++ [.ref t])) eD3).sqt (SqT.of upd_same)⟩
      · rintro H4 ⟨s10, us, eD, lu, pu⟩
        rw [lt, List.take_length] at pu
        have ea : H4 q3 = some (.lst (xs1 ++ xs2)) := s10 _ _ upd_same
        refine ⟨q3, D, _, _, rfl, rfl, ea, eD, Nat.le_of_lt (sizeBig (by rw [List.length_append, lu]; omega)), fun r hr => ?_⟩
        have s11 := same_new (o := .lst ((xs1 ++ xs2) ++ us)) hr
        have s12 := s9.trans s10
        have s13 := (((s4.trans s6).trans s8).trans s10).trans s11
        have s14 := (s8.trans s10).trans s11
        exact k r _ _ (s12.trans s11) (none_same s12 hr) upd_same (Paired.app (Paired.app (Paired.mapP p1 fun _ _ z => z.same s13) (Paired.mapP p2 fun _ _ z => z.same s14)) (Paired.mapP pu fun _ _ z => z.same s11))
    all_goals
      first
        | obtain ⟨_, rfl, _⟩ := DpAll.one hd
        | obtain ⟨_, _, rfl, _, _⟩ := DpAll.two hd
      repeat (first | refine case_len hq (Nat.ne_of_beq_eq_false rfl) ?_ | refine case_word hq rfl (by decide +kernel) ?_)
      refine ⟨(by show 0 ≤ sizeLine; decide), fun q hq1 => ?_⟩
      exact k q _ _ (same_new hq1) hq1 upd_same .nil
end

/-! ### every statement within a good block is good -/
mutual
theorem ok_allS : ∀ (s : St) (n : Nat), okS s → ∀ p ∈ allS s n, okS p.2
  | .ite a b, n, h, p, hp => by
    have h : (a.length ≤ 900 ∧ okL a) ∧ (b.length ≤ 900 ∧ okL b) := h
    rcases List.mem_append.mp (show p ∈ allB a n ++ allB b (n + szB a) from hp) with z | z
    · exact ok_allB a _ h.1.2 p z
    · exact ok_allB b _ h.2.2 p z
  | .whl b, n, h, p, hp => ok_allB b n (show b.length ≤ 900 ∧ okL b from h).2 p hp
  | .try_ b hs f, n, h, p, hp => by
    have h : (b.length ≤ 900 ∧ okL b) ∧ (hs.length ≤ 900 ∧ okHs hs) ∧ (f.length ≤ 900 ∧ okL f) := h
    rcases List.mem_append.mp (show p ∈ allB b n ++ (allHs hs (n + szB b) ++ allB f (n + szB b + szHs hs)) from hp) with z | z
    · exact ok_allB b _ h.1.2 p z
    · rcases List.mem_append.mp z with z | z
      · exact ok_allHs hs _ h.2.1.2 p z
      · exact ok_allB f _ h.2.2.2 p z
  | .undo ns b, n, h, p, hp => ok_allB b n (show (ns ≠ [] ∧ okNs ns) ∧ (b.length ≤ 900 ∧ okL b) from h).2.2 p hp
  | .with_ e l ks b, n, h, p, hp => ok_allB b n (show (okCal e ∧ okCal l ∧ okNs ks) ∧ (b.length ≤ 900 ∧ okL b) from h).2.2 p hp
  | .set _ _, _, _, p, hp => nomatch hp
  | .input _, _, _, p, hp => nomatch hp
  | .call _ _ _, _, _, p, hp => nomatch hp
  | .risk _, _, _, p, hp => nomatch hp
  | .raise _, _, _, p, hp => nomatch hp
  | .ret _, _, _, p, hp => nomatch hp
theorem ok_allB : ∀ (b : List St) (n : Nat), okL b → ∀ p ∈ allB b n, okS p.2
  | [], _, _, p, hp => nomatch hp
  | s :: r, n, h, p, hp => by
    have h : okS s ∧ okL r := h
    rcases List.mem_cons.mp (show p ∈ (n, s) :: (allS s (n + 1) ++ allB r (n + 1 + szS s)) from hp) with z | z
    · rw [z]; exact h.1
    · rcases List.mem_append.mp z with z | z
      · exact ok_allS s _ h.1 p z
      · exact ok_allB r _ h.2 p z
theorem ok_allH : ∀ (x : Hd) (n : Nat), okH x → ∀ p ∈ allH x n, okS p.2
  | .mk ks b, n, h, p, hp => ok_allB b n (show (ks ≠ [] ∧ okNs ks) ∧ (b.length ≤ 900 ∧ okL b) from h).2.2 p hp
theorem ok_allHs : ∀ (hs : List Hd) (n : Nat), okHs hs → ∀ p ∈ allHs hs n, okS p.2
  | [], _, _, p, hp => nomatch hp
  | x :: r, n, h, p, hp => by
    have h : okH x ∧ okHs r := h
    rcases List.mem_append.mp (show p ∈ allH x n ++ allHs r (n + szH x) from hp) with z | z
    · exact ok_allH x _ h.1 p z
    · exact ok_allHs r _ h.2 p z
end

/-! ### has_great_number -/
abbrev sGrt : Stmt := topS 54
abbrev NGrt : List Str := ["tree", "found", "name", "params", "block", "place", "statement", "constant", "terms", "word", "factor"]
abbrev PGrt : List Str := ["tree"]
theorem scGrt : FnScope NGrt PGrt (defScope sGrt) := ⟨rfl, rfl, rfl, by decide +kernel, rfl, by decide +kernel, by decide +kernel⟩
def LIM : Int := 1000000000000
def exsF (f : Fn) : List Ex := (allB f.b 0).flatMap fun p => exprS p.2
def exsT (t : Tr) : List Ex := t.keeps ++ t.fns.flatMap exsF
def smallE (e : Ex) : Prop := (e.c.natAbs : Int) < LIM ∧ ∀ p ∈ e.ts, (p.2.natAbs : Int) < LIM
def spGrt (K : PySem.W.Frag) (n : Nat) : Sp := fun vs H Q _ => ∃ (v : V) (t : Tr), vs = [v] ∧ Dp K H v (trD t) ∧ okTr n t ∧ (∀ f ∈ t.fns, szB f.b ≤ 900) ∧ (exsT t).length ≤ 900 ∧ (∀ e ∈ exsT t, smallE e ∧ e.ts.length ≤ 900) ∧ ∀ H', Same H H' → Q (.bl false) H'
section
variable {P : Program} {w : World} {K : PySem.W.Frag} {mg : Str → Option Value} {base : Heap}
def ab (x : Int) : Int := if x < 0 then -x else x
theorem ab_lt {x : Int} (h : (x.natAbs : Int) < LIM) : ab x < LIM := by
  unfold ab
  split <;> omega
theorem bb_max : bootBuiltins "max" = some (.builtin "max") := by decide +kernel
theorem bb_abs : bootBuiltins "abs" = some (.builtin "abs") := by decide +kernel
theorem ok_Grt {n : Nat} {f : Addr} {fd : FuncData} (F : Fun K "has_great_number" "has_great_number" sGrt f fd) (T : TxChk mg) (cL : ∃ u, mg "LIMIT" = some u ∧ RelV (.int LIM) u) (GA : Has P w K mg base CX0 (4 + n) "all_numbered" PAllN (spAllN K n)) (GE : Has P w K mg base CX0 1 "expressions_of" PExs (spExs K)) : FnOk P w K mg base CX0 (4 + n + 1) f fd PGrt (spGrt K n) := by
  refine F.ok scGrt (fun vs H Q E h => ?_) (fun cdv A outer s H vs Q E hr h => ?_)
  · obtain ⟨q, l, rfl, _⟩ := h
    rfl
  · obtain ⟨v, t, rfl, hv, ok, sz, tot, sm, k⟩ := h
    have hr1 := hr.mono (j := 1) (show 1 ≤ 4 + n by omega)
    refine ⟨_, (pss_cons (ps_set (i := 1) scGrt.nd rfl (Or.inl rfl) (pe_callTy call_list_of (by rfl) T.n_list bb_list (pa_cons (pe_ix (r := rIxT K) ix_tup (pv 0) pe_int (fun _ _ => rfl)) pa_nil)))
  (pss_cons (ps_for PassesOwn.never rfl (pi_tup (pe_ix (r := rIxT K) ix_tup (pv 0) pe_int (fun _ _ => rfl))) (pg_tup (by rfl) (pgs_cons (pg_name (i := 2) scGrt.nd rfl (Or.inl rfl)) (pgs_cons (pg_name (i := 3) scGrt.nd rfl (Or.inl rfl)) (pgs_cons (pg_name (i := 4) scGrt.nd rfl (Or.inl rfl)) pgs_nil))))
  (pss_one (ps_for PassesOwn.never rfl (pi_list (pe_callH GA hr rfl pass0 (pa_cons (pv 4) (pa_cons pe_int pa_nil)))) (pg_tup (by rfl) (pgs_cons (pg_name (i := 5) scGrt.nd rfl (Or.inl rfl)) (pgs_cons (pg_name (i := 6) scGrt.nd rfl (Or.inl rfl)) pgs_nil)))
  (pss_one (ps_expr (pe_bm PySem.F.plainAttrs_list PySem.F.slot_list_extend PySem.F.type_list_extend mt_extend (pv 1) (pa_cons (pe_callH GE hr1 rfl pass0 (pa_cons (pv 6) pa_nil)) pa_nil)))))))
  (pss_cons (ps_for PassesOwn.never rfl (pi_list (pv 1)) (pg_tup (by rfl) (pgs_cons (pg_name (i := 7) scGrt.nd rfl (Or.inl rfl)) (pgs_cons (pg_name (i := 8) scGrt.nd rfl (Or.inl rfl)) pgs_nil)))
  (pss_one (ps_if (pt_cmpR op_ge (pe_callB (cr_max rfl) (by rfl) T.n_max bb_max (pa_cons (pe_op op_cat (pe_lst (pa_cons (pe_callB call_abs (by rfl) T.n_abs bb_abs (pa_cons (pv 7) pa_nil)) pa_nil)) (pe_lc (own := [("word", 9), ("factor", 10)]) (g := gTup K 2 (gCons (gName 9) (gCons (gName 10) gNil))) (tt := tYes) rfl scGrt.nd (pi_tup (pv 8)) (blkOk_by (own := [("word", 9), ("factor", 10)]) (N := NGrt) (sc := (defScope sGrt)) (by decide +kernel)) (fun _ _ _ _ _ => (pg_tup (by rfl) (pgs_cons (pg_name (i := 9) scGrt.nd rfl (Or.inl rfl)) (pgs_cons (pg_name (i := 10) scGrt.nd rfl (Or.inl rfl)) pgs_nil)))) (fun _ _ _ _ _ => pts_nil) (fun _ _ _ _ _ => (pe_callB call_abs (by rfl) T.n_abs bb_abs (pa_cons (pv 10) pa_nil))))) pa_nil)) (pe_globE rfl cL) (nomark _))
  (pss_one (ps_ret pe_bl))
  pss_nil)))
  (pss_one (ps_ret pe_bl))))), ?_⟩
    obtain ⟨okn, okk, oke, lf, okf⟩ := ok
    have hv : Dp K H v (.tuple [nmD t.names, nmD t.kinds, .tuple (t.keeps.map exD), .tuple (t.fns.map fnD)]) := hv
    obtain ⟨a, xs, rfl, hq, hd⟩ := hv.tupInv
    obtain ⟨x0, x1, x2, x3, rfl, _, _, h2, h3⟩ := hd.four
    obtain ⟨b, ys, rfl, hb, hbd⟩ := h2.tupInv
    obtain ⟨c, zs, rfl, hc, hcd⟩ := h3.tupInv
    have pk := DpAll.map hbd
    have pf := DpAll.map hcd
    refine ⟨_, rfl, a, _, _, _, rfl, rfl, hq, rfl, b, _, rfl, .inr hb, fun q hq1 => ?_⟩
    have s1 := same_new (o := .lst ys) hq1
    refine ⟨_, rfl, a, _, _, _, rfl, rfl, SqT.same s1 hq, rfl, c, rfl, ⟨_, SqT.same s1 hc⟩, ?_⟩
    refine for_tup (K := K) (a := c) (xs := zs) (fun j σ H' => (∃ x2 x3 x4 x5 x6 x7 : Option V, σ = [some (.ref a), some (.ref q), x2, x3, x4, x5, x6, x7, none, none, none]) ∧ Same H H' ∧ ∃ us, H' q = some (.lst us) ∧ Paired (fun x e => Dp K H' x (exD e)) us (t.keeps ++ (t.fns.take j).flatMap exsF)) ⟨⟨_, _, _, _, _, _, rfl⟩, s1, ys, upd_same, by rw [List.take_zero, List.flatMap_nil, List.append_nil]; exact Paired.mapP pk fun _ _ z => z.same s1⟩ (fun j σ H' _ h' => SqT.same h'.2.1 hc) ?_ ?_
    · rintro j x σ H1 hx ⟨⟨x2, x3, x4, x5, x6, x7, rfl⟩, s2, us, eq, pu⟩
      obtain ⟨fn, hfn, hfd⟩ := Paired.at pf hx
      have mf := List.mem_of_getElem? hfn
      have okn := okf fn mf
      have hfd : Dp K H x (.tuple [.str fn.name, .tuple (fn.ps.map prD), blD fn.b]) := hfd
      obtain ⟨d, ds, rfl, hd1, hdd⟩ := hfd.tupInv
      obtain ⟨u1, u2, u3, rfl, g1, g2, g3⟩ := hdd.three
      refine ⟨d, _, rfl, SqT.same s2 hd1, rfl, _, _, rfl, _, _, rfl, _, _, rfl, rfl, ?_⟩
      refine ⟨_, rfl, u3, fn.b, 0, rfl, g3.same s2, okn.2.2.2.1, okn.2.2.1, sz fn mf, fun L ls H2 s3 nL eL pL => ?_⟩
      have qL : q ≠ L := ne_of_none eq nL
      have efl : (t.fns.take (j + 1)).flatMap exsF = (t.fns.take j).flatMap exsF ++ exsF fn := flat_snoc (f := exsF) hfn
      have lfl := flat_len (f := exsF) (l := t.fns) (j + 1)
      rw [efl, List.length_append] at lfl
      have tot2 : t.keeps.length + (t.fns.flatMap exsF).length ≤ 900 := by rw [← List.length_append]; exact tot
      refine ⟨L, rfl, ⟨_, SqL.of eL⟩, ?_⟩
      refine for_list (K := K) (a := L) (xs := ls) (fun i σ H' => (∃ x5 x6 x7 : Option V, σ = [some (.ref a), some (.ref q), some u1, some u2, some u3, x5, x6, x7, none, none, none]) ∧ Same H H' ∧ H' L = some (.lst ls) ∧ Tps H2 H' ∧ ∃ us, H' q = some (.lst us) ∧ Paired (fun x e => Dp K H' x (exD e)) us ((t.keeps ++ (t.fns.take j).flatMap exsF) ++ ((allB fn.b 0).take i).flatMap fun p => exprS p.2)) ⟨⟨_, _, _, rfl⟩, s2.trans s3, eL, Tps.refl, us, s3 _ _ eq, by rw [List.take_zero, List.flatMap_nil, List.append_nil]; exact Paired.mapP pu fun _ _ z => z.same s3⟩ (fun j σ H' _ h' => SqL.of h'.2.2.1) ?_ ?_
      · rintro i y σ H3 hy ⟨⟨x5, x6, x7, rfl⟩, s4, eL3, t3, ws, eq3, pw⟩
        obtain ⟨⟨num, st⟩, hp, hpd⟩ := Paired.at pL hy
        obtain ⟨e, u, rfl, hqe, hde⟩ := hpd.tps t3
        have oks := ok_allB fn.b 0 okn.2.2.1.2 _ (List.mem_of_getElem? hp)
        refine ⟨e, _, rfl, hqe, rfl, _, _, rfl, _, _, rfl, rfl, ?_⟩
        refine ⟨_, rfl, .inl ⟨rfl, _, SqL.of eq3⟩, _, rfl, u, st, rfl, hde, oks, fun M ms H4 s5 nM eM pM => ?_⟩
        have e2 : ((allB fn.b 0).take (i + 1)).flatMap (fun p => exprS p.2) = (((allB fn.b 0).take i).flatMap fun p => exprS p.2) ++ exprS st := flat_snoc (f := fun p : Nat × St => exprS p.2) hp
        have l2 := flat_len (f := fun p : Nat × St => exprS p.2) (l := allB fn.b 0) (i + 1)
        rw [e2, List.length_append, ← Paired.length pM] at l2
        have lw := Paired.length pw
        rw [List.length_append, List.length_append] at lw
        have l3 : (exsF fn).length = ((allB fn.b 0).flatMap fun p => exprS p.2).length := rfl
        have eq4 := s5 _ _ eq3
        refine ⟨q, M, _, _, rfl, rfl, eq4, eM, Nat.le_of_lt (sizeBig (by omega)), ?_⟩
        have t5 : Tps H4 (upd H4 q (.lst (ws ++ ms))) := Tps.lst eq4
        have t6 := (Tps.of s5).trans t5
        refine ⟨⟨_, _, _, rfl⟩, fun c o z => ?_, ?_, t3.trans t6, _, upd_same, ?_⟩
        · rw [upd_ne (ne_of_none z hq1)]
          exact s5 _ _ (s4 _ _ z)
        · rw [upd_ne qL.symm]
          exact s5 _ _ eL3
        · rw [e2, ← List.append_assoc]
          exact Paired.app (Paired.mapP pw fun _ e z => z.tps t6 (noL_ex e)) (Paired.mapP pM fun _ e z => z.tps t5 (noL_ex e))
      · rintro σ H3 ⟨⟨x5, x6, x7, rfl⟩, s4, eL3, t3, ws, eq3, pw⟩
        rw [Paired.length pL, List.take_length] at pw
        refine ⟨⟨_, _, _, _, _, _, rfl⟩, s4, ws, eq3, ?_⟩
        rw [efl, ← List.append_assoc]
        exact pw
    · rintro σ H1 ⟨⟨x2, x3, x4, x5, x6, x7, rfl⟩, s2, us, eq, pu⟩
      rw [Paired.length pf, List.take_length] at pu
      have pu : Paired (fun x e => Dp K H1 x (exD e)) us (exsT t) := pu
      refine ⟨_, rfl, q, rfl, ⟨_, SqL.of eq⟩, ?_⟩
      refine for_list (K := K) (a := q) (xs := us) (fun i σ H' => (∃ x7 x8 : Option V, σ = [some (.ref a), some (.ref q), x2, x3, x4, x5, x6, x7, x8, none, none]) ∧ Same H1 H') ⟨⟨_, _, rfl⟩, Same.refl _⟩ (fun j σ H' _ h' => SqL.of (h'.2 _ _ eq)) ?_ ?_
      · rintro j x σ H2 hx ⟨⟨x7, x8, rfl⟩, s3⟩
        obtain ⟨e, he, hed⟩ := Paired.at pu hx
        have ⟨sme, le⟩ := sm e (List.mem_of_getElem? he)
        have hed : Dp K H1 x (.tuple [.int e.c, .tuple (e.ts.map fun p => .tuple [.str p.1, .int p.2])]) := hed
        obtain ⟨d, ds, rfl, hd1, hdd⟩ := hed.tupInv
        obtain ⟨u1, u2, rfl, g1, g2⟩ := hdd.two
        rw [g1.intInv] at hd1
        obtain ⟨b2, ts, rfl, hb2, hbd2⟩ := g2.tupInv
        have pt := DpAll.map hbd2
        have lt : ts.length = e.ts.length := Paired.length pt
        refine ⟨d, _, rfl, SqT.same s3 hd1, rfl, _, _, rfl, _, _, rfl, rfl, ?_⟩
        refine ⟨_, rfl, _, rfl, (by show 1 ≤ sizeLine; decide), fun p hp => ?_⟩
        have s4 := same_new (o := .lst [V.int (ab e.c)]) hp
        have ep : upd H2 p (.lst [V.int (ab e.c)]) p = some (.lst [V.int (ab e.c)]) := upd_same
        have s5 := s3.trans s4
        refine ⟨_, rfl, b2, rfl, ⟨_, SqT.same s5 hb2⟩, fun D hD => ?_⟩
        refine lc_tup (K := K) (a := b2) (xs := ts) (fun i H' => Same (upd H2 p (.lst [V.int (ab e.c)])) H' ∧ H' D = some (.lst (((e.ts.take i).map fun p => ab p.2).map V.int))) ⟨same_new hD, upd_same⟩ (fun i H' _ h' => SqT.same (s5.trans h'.1) hb2) ?_ ?_
        · rintro i z H4 hz ⟨s6, eD⟩
          obtain ⟨pr, ht, htd⟩ := Paired.at pt hz
          obtain ⟨c3, zs3, rfl, hc3, hcd3⟩ := htd.tupInv
          obtain ⟨u, w, rfl, hu, hw⟩ := hcd3.two
          rw [hu.strInv, hw.intInv] at hc3
          have hi : i < ts.length := (List.getElem?_eq_some_iff.mp hz).1
          refine ⟨c3, _, rfl, SqT.same (s5.trans s6) hc3, rfl, _, _, rfl, _, _, rfl, rfl, rfl, ?_⟩
          refine ⟨_, rfl, _, rfl, _, eD, small1000 (by rw [List.length_map, List.length_map, List.length_take]; omega), fun c o z => ?_, ?_⟩
          · rw [upd_ne (ne_of_none z hD)]
            exact s6 _ _ z
          · rw [upd_same, take_snoc ht, List.map_append, List.map_append]
            rfl
        · rintro H4 ⟨s6, eD⟩
          rw [lt, List.take_length] at eD
          refine ⟨p, D, _, _, rfl, rfl, s6 _ _ ep, eD, Nat.le_of_lt (sizeBig (by rw [List.length_map, List.length_map]; show 1 + _ ≤ _; omega)), fun r hr => ?_⟩
          have s7 := same_new (o := .lst ([V.int (ab e.c)] ++ (e.ts.map fun p => ab p.2).map V.int)) hr
          refine ⟨r, ab e.c :: e.ts.map fun p => ab p.2, rfl, SqL.of upd_same, Nat.succ_pos _, fun m hm _ => ?_⟩
          have hl : m < LIM := by
            rcases List.mem_cons.mp hm with z | z
            · rw [z]; exact ab_lt sme.1
            · obtain ⟨y, hy, rfl⟩ := List.mem_map.mp z
              exact ab_lt (sme.2 y hy)
          refine ⟨_, _, rfl, rfl, _, rfl, iteE (decide_eq_false (by omega)) ?_⟩
          exact ⟨⟨_, _, rfl⟩, (s5.trans s6).trans s7⟩
      · rintro σ H2 ⟨_, s3⟩
        exact k _ (s2.trans s3)
end

/-! ### max(list of ints, default=d) -/
section
variable {prog : Program} {w : World} {A : Around} {R : Result → Shared → Prop} {I : Addr} {fp wr : List Addr} {n : Nat} {P : Nat → Value → Prop} {Sx : Nat → Heap → Prop} {kw : List (Str × Value)}
theorem mxd_step (W : Walks prog w A.in1 I fp wr n P Sx) (bt : Nat → Nat → Bool) (cm : CmpOf prog w A.in1 .Gt P bt) (T : Addr) (nT : T ∉ fp) :
    ∀ (k j : Nat) (s : Shared) (best : Value) (c : Nat), n - (j + 1) = k → j + 1 ≤ n → Sx (j + 1) s.heap → P (argBest bt j) best →
      s.heap.get? T = some { cls := .type "list", dict := none, data := .seq #[best, best] c, slots := #[] } →
      (∀ v h2 tk, P (argBest bt (n - 1)) v → (∀ b o, b ∉ wr → b ≠ T → s.heap.get? b = some o → h2.get? b = some o) → R (.ok (.ret v)) { s with heap := h2, toks := tk }) →
      codeAny (model prog w) A (.builtin "max.loop" ⟨[.ref I, .none, .ref T], kw⟩) R s := by
  have wT : T ∉ wr := fun z => nT (W.sub _ z)
  have nm : (toString "max" ++ toString ".loop" : String) = "max.loop" := by decide
  intro k
  induction k with
  | zero =>
    intro j s best c ek hj st hp hT hR
    have ej : j + 1 = n := by omega
    refine codeAny_builtin PySem.F.entry_max_loop ?_
    rw [Around.under_plainId PySem.F.plain_max_loop]
    show wpAny _ A.in1 (seqItems? (.ref T) >>= _) _ _ _
    refine wpAny_bind (wpAny_seqItems hT rfl ?_)
    show wpAny _ A.in1 (tryCatch (pyNext (.ref I)) _ >>= _) _ _ _
    refine wpAny_bind (wpAny_tryCatch (W.done s _ _ (ej ▸ st) fun h2 tk kp => ?_))
    have hT2 := kp T _ wT hT
    show wpAny _ A.in1 (updateSeq T (fun _ => #[]) >>= _) _ _ _
    refine wpAny_bind (wpAny_updateSeq hT2 rfl (wpAny_bind (wpAny_letGo (wpAny_pure ?_))))
    exact hR best _ tk (by rw [← ej]; exact hp) fun b o hb hbT e => (Heap.get?_update_other _ _ (Ne.symm hbT)).trans (kp b o hb e)
  | succ k ih =>
    intro j s best c ek hj st hp hT hR
    have lt : j + 1 < n := by omega
    refine codeAny_builtin PySem.F.entry_max_loop ?_
    rw [Around.under_plainId PySem.F.plain_max_loop]
    show wpAny _ A.in1 (seqItems? (.ref T) >>= _) _ _ _
    refine wpAny_bind (wpAny_seqItems hT rfl ?_)
    show wpAny _ A.in1 (tryCatch (pyNext (.ref I)) _ >>= _) _ _ _
    refine wpAny_bind (wpAny_tryCatch (W.item (j + 1) s _ _ lt st fun v h2 tk hv st2 kp => ?_))
    have hT2 := kp T _ wT hT
    show wpAny _ A.in1 (tryCatch (holding [v, v] (richCompare .Gt v best >>= _)) _ >>= _) _ _ _
    refine wpAny_bind (wpAny_tryCatch (wpAny_holding (wpAny_bind (cm (j + 1) (argBest bt j) v best _ _ _ hv hp ?_))))
    refine wpAny_bind (wpAny_holding (wpAny_truthy_bool ?_))
    refine wpAny_bind (wpAny_letGo (wpAny_pure ?_))
    cases hb : bt (j + 1) (argBest bt j) with
    | true =>
      simp only [if_true]
      refine wpAny_bind (wpAny_updateSeq hT2 rfl (wpAny_bind (wpAny_letGo ?_)))
      rw [nm]
      have sf : Sx (j + 1 + 1) (h2.update T (Obj.mapSeq fun _ => #[v, v])) := W.frame _ _ _ st2 fun b hbf o e => (Heap.get?_update_other _ _ (fun z : T = b => nT (by rw [z]; exact hbf))).trans e
      refine wpAny_pure ⟨plainId_quiet PySem.F.plain_max_loop _, ih (j + 1) _ v _ (by omega) lt sf (by simp only [argBest, hb, if_true]; exact hv) (Heap.get?_update_self _ hT2 rfl) fun v3 h3 tk3 hp3 kp3 => ?_⟩
      exact hR v3 h3 tk3 hp3 fun b o q1 q2 e => kp3 b o q1 q2 ((Heap.get?_update_other _ _ (Ne.symm q2)).trans (kp b o q1 e))
    | false =>
      simp only [Bool.false_eq_true, if_false]
      refine wpAny_bind (wpAny_letGo ?_)
      rw [nm]
      refine wpAny_pure ⟨plainId_quiet PySem.F.plain_max_loop _, ih (j + 1) _ best c (by omega) lt st2 (by simp only [argBest, hb, Bool.false_eq_true, if_false]; exact hp) hT2 fun v3 h3 tk3 hp3 kp3 => ?_⟩
      exact hR v3 h3 tk3 hp3 fun b o q1 q2 e => kp3 b o q1 q2 (kp b o q1 e)
theorem mxd_first (W : Walks prog w A.in1 I fp wr n P Sx) (bt : Nat → Nat → Bool) (cm : CmpOf prog w A.in1 .Gt P bt) (T : Addr) (nT : T ∉ fp) (hn : 0 < n) {s : Shared} {c : Nat} (st : Sx 0 s.heap)
    (hT : s.heap.get? T = some { cls := .type "list", dict := none, data := .seq #[] c, slots := #[] })
    (hR : ∀ v h2 tk, P (argBest bt (n - 1)) v → (∀ b o, b ∉ wr → b ≠ T → s.heap.get? b = some o → h2.get? b = some o) → R (.ok (.ret v)) { s with heap := h2, toks := tk }) :
    codeAny (model prog w) A (.builtin "max.loop" ⟨[.ref I, .none, .ref T], kw⟩) R s := by
  have wT : T ∉ wr := fun z => nT (W.sub _ z)
  have nm : (toString "max" ++ toString ".loop" : String) = "max.loop" := by decide
  refine codeAny_builtin PySem.F.entry_max_loop ?_
  rw [Around.under_plainId PySem.F.plain_max_loop]
  show wpAny _ A.in1 (seqItems? (.ref T) >>= _) _ _ _
  refine wpAny_bind (wpAny_seqItems hT rfl ?_)
  show wpAny _ A.in1 (tryCatch (pyNext (.ref I)) _ >>= _) _ _ _
  refine wpAny_bind (wpAny_tryCatch (W.item 0 s _ _ hn st fun v h2 tk hv st2 kp => ?_))
  have hT2 := kp T _ wT hT
  show wpAny _ A.in1 (updateSeq T (fun _ => #[v, v]) >>= _) _ _ _
  refine wpAny_bind (wpAny_updateSeq hT2 rfl ?_)
  rw [nm]
  have sf : Sx (0 + 1) (h2.update T (Obj.mapSeq fun _ => #[v, v])) := W.frame _ _ _ st2 fun b hbf o e => (Heap.get?_update_other _ _ (fun z : T = b => nT (by rw [z]; exact hbf))).trans e
  refine wpAny_pure ⟨plainId_quiet PySem.F.plain_max_loop _, mxd_step W bt cm T nT _ 0 _ v _ rfl hn sf hv (Heap.get?_update_self _ hT2 rfl) fun v3 h3 tk3 hp3 kp3 => ?_⟩
  exact hR v3 h3 tk3 hp3 fun b o q1 q2 e => kp3 b o q1 q2 ((Heap.get?_update_other _ _ (Ne.symm q2)).trans (kp b o q1 e))
theorem mxd_none {d : Value} {x : Str} (W : Walks prog w A.in1 I fp wr 0 P Sx) (T : Addr) (nT : T ∉ fp) {s : Shared} {c : Nat} (st : Sx 0 s.heap)
    (hT : s.heap.get? T = some { cls := .type "list", dict := none, data := .seq #[] c, slots := #[] })
    (hR : ∀ h2 tk, (∀ b o, b ∉ wr → b ≠ T → s.heap.get? b = some o → h2.get? b = some o) → R (.ok (.ret d)) { s with heap := h2, toks := tk }) :
    codeAny (model prog w) A (.builtin "max.loop" ⟨[.ref I, .none, .ref T], [(x, d)]⟩) R s := by
  refine codeAny_builtin PySem.F.entry_max_loop ?_
  rw [Around.under_plainId PySem.F.plain_max_loop]
  show wpAny _ A.in1 (seqItems? (.ref T) >>= _) _ _ _
  refine wpAny_bind (wpAny_seqItems hT rfl ?_)
  show wpAny _ A.in1 (tryCatch (pyNext (.ref I)) _ >>= _) _ _ _
  refine wpAny_bind (wpAny_tryCatch (W.done s _ _ st fun h2 tk kp => ?_))
  show wpAny _ A.in1 (rule _ >>= _) _ _ _
  refine wpAny_bind (wpAny_rule (wpAny_pure ?_))
  exact hR h2 tk fun b o q1 _ e => kp b o q1 e
end
section
variable {prog : Program} {w : World} {A : Around} {E : Value → Shared → Prop} {s : Shared}
theorem mxd_args (a d : Value) : argsOk "max" ⟨[a], [(Str.ofString "default", d)]⟩ := by unfold argsOk; kernel_rfl
theorem mxd_call {x d : Value} {Q : Value → Shared → Prop}
    (h : wpAny (model prog w) A.in1 (pyIter x) (fun it s₂ => ∃ I fp wr n P Sx bt, it = .ref I ∧ Walks prog w A.in1 I fp wr n P Sx ∧ Sx 0 s₂.heap ∧ (∀ b ∈ fp, b < s₂.heap.objs.size) ∧ CmpOf prog w A.in1 .Gt P bt ∧
      (n = 0 → ∀ h2 tk, (∀ b o, b ∉ wr → s₂.heap.get? b = some o → h2.get? b = some o) → Q d { s₂ with heap := h2, toks := tk }) ∧
      (0 < n → ∀ v h2 tk, P (argBest bt (n - 1)) v → (∀ b o, b ∉ wr → s₂.heap.get? b = some o → h2.get? b = some o) → Q v { s₂ with heap := h2, toks := tk })) E s) :
    wpAny (model prog w) A (call (.builtin "max") [x] [(Str.ofString "default", d)]) Q E s := by
  have nm : (toString "max" ++ toString ".loop" : String) = "max.loop" := by decide
  refine PyProof.Rows.kmk_tree PySem.F.kind_max PySem.F.plain_max PySem.F.entry_max (mxd_args _ _) ?_
  show wpAny _ A.in1 (Builtin.Builtins.bindParams "max" ["key", "default"] 0 ⟨[], [(Str.ofString "default", d)]⟩ >>= _) _ _ s
  refine wpAny_bind (wpAny_of_eq (show Builtin.Builtins.bindParams "max" ["key", "default"] 0 ⟨[], [(Str.ofString "default", d)]⟩ = pure [none, some d] from rfl) ?_)
  refine wpAny_bind (wpAny_pure ?_)
  refine wpAny_bind (wpAny_mono h (fun it s₂ h₂ => ?_) fun _ _ e => e)
  obtain ⟨I, fp, wr, n, P, Sx, bt, rfl, W, st, hfp, cm, h0, h1⟩ := h₂
  refine wpAny_bind (wpAny_newObj_type ?_)
  have nS : s₂.heap.objs.size ∉ fp := fun hm => Nat.lt_irrefl _ (hfp _ hm)
  have sf : Sx 0 (s₂.heap.push { cls := .type "list", data := .seq #[] 0 }) := W.frame _ _ _ st fun b _ o e => Heap.get?_push_of_some _ e
  rw [nm]
  by_cases hn : n = 0
  · subst hn
    refine wpAny_pure ⟨plainId_quiet PySem.F.plain_max_loop _, mxd_none W s₂.heap.objs.size nS sf (Heap.get?_push_size _ rfl) fun h2 tk kp => ?_⟩
    exact h0 rfl h2 tk fun b o q e => kp b o q (Nat.ne_of_lt (Heap.lt_size e)) (Heap.get?_push_of_some _ e)
  · refine wpAny_pure ⟨plainId_quiet PySem.F.plain_max_loop _, mxd_first W bt cm s₂.heap.objs.size nS (by omega) sf (Heap.get?_push_size _ rfl) fun v h2 tk hp kp => ?_⟩
    exact h1 (by omega) v h2 tk hp fun b o q e => kp b o q (Nat.ne_of_lt (Heap.lt_size e)) (Heap.get?_push_of_some _ e)
end
/-- m is the greatest of ns, or d if there is none -/
def MaxIs (d : Int) (ns : List Int) (m : Int) : Prop := (ns = [] ∧ m = d) ∨ (m ∈ ns ∧ ∀ y ∈ ns, y ≤ m)
def rMaxDf (K : PySem.W.Frag) : List V → List V → Hp → VK → Prop := fun vs zs H Q => ∃ (a : Addr) (ns : List Int) (d : Int), vs = [.ref a] ∧ zs = [.int d] ∧ SqL K H a (ns.map V.int) ∧ ∀ m, MaxIs d ns m → Q (.int m) H
theorem cr_maxDf {X : Cx} (hc : X.calm = true) : CallRK X (.builtin "max") [Str.ofString "default"] (rMaxDf X.K) := by
  intro pins s σ H vs zs us ws Q I r rz h
  obtain ⟨a, ns, d, rfl, rfl, hs, q⟩ := h
  obtain ⟨its, rv, hl, _⟩ := I.list hs
  rw [Vals.ref1 r]
  obtain ⟨w1, rfl, ⟨td, rfl⟩⟩ := vals1 rz
  have hl := hl.isList
  have hi := rv.ints
  obtain ⟨xs, e⟩ := hi.allInts.items
  have hn : numsOf (intItems xs).toList = ns := by rw [← e]; exact hi.numsOf
  rw [nums_intItems] at hn
  subst hn
  rw [e] at hl
  refine mxd_call (iter_intList hl fun s₂ e st hfp hlI => ?_)
  subst e
  refine ⟨_, _, _, _, _, _, _, rfl, Walks.list (A := X.A.in1) (I.ok.hd hc) _ a hlI (intItems xs), st, hfp, CmpOf.ints_gt (numAt xs) (fun _ _ => intItems_at), fun h0 h2 tk kp => ?_, fun h0 v h2 tk hp kp => ?_⟩
  · have h0 : xs.size = 0 := by simpa [intItems] using h0
    exact ⟨.int d, H, I.kept (old_kept kp), ⟨_, rfl⟩, q _ (.inl ⟨by rw [List.map_eq_nil_iff, ← List.length_eq_zero_iff, Array.length_toList]; exact h0, rfl⟩)⟩
  · have h0 : 0 < xs.size := by simpa [intItems] using h0
    have hp : (intItems xs)[argBest (fun i j => decide (numAt xs i > numAt xs j)) (xs.size - 1)]? = some v := by simpa [intItems] using hp
    obtain ⟨t, rfl⟩ := intItems_at hp
    obtain ⟨h1, h3⟩ := argBest_gt (numAt xs) (xs.size - 1)
    refine ⟨.int _, H, I.kept (old_kept kp), ⟨_, rfl⟩, q _ (.inr ⟨?_, fun y hy => ?_⟩)⟩
    · rw [numAt_eq]; exact PySem.getD_mem (by rw [List.length_map, Array.length_toList]; omega)
    · obtain ⟨j, hj, rfl⟩ := mem_getD hy
      rw [List.length_map, Array.length_toList] at hj
      rw [← numAt_eq]; exact h3 j (by omega)

/-! ### depth_of -/
abbrev sDep : Stmt := topS 52
abbrev NDep : List Str := ["block", "statement", "part"]
abbrev PDep : List Str := ["block"]
theorem scDep : FnScope NDep PDep (defScope sDep) := ⟨rfl, rfl, rfl, by decide +kernel, rfl, by decide +kernel, by decide +kernel⟩
theorem dp_ex_hs : ∀ hs : List Hd, hs = [] ∨ ∃ p ∈ hs.map Hd.b, dpB p = dpHs hs
  | [] => .inl rfl
  | .mk ks b :: r => by
    refine .inr ?_
    show ∃ p ∈ b :: r.map Hd.b, dpB p = max (dpB b) (dpHs r)
    rcases dp_ex_hs r with e | ⟨p, hp, e⟩
    · subst e
      exact ⟨b, List.mem_cons_self, (Nat.max_eq_left (Nat.zero_le _)).symm⟩
    · rcases Nat.le_total (dpB b) (dpHs r) with h | h
      · exact ⟨p, List.mem_cons_of_mem _ hp, by rw [e, Nat.max_eq_right h]⟩
      · exact ⟨b, List.mem_cons_self, by rw [Nat.max_eq_left h]⟩
theorem dp_max2 {a b m : Nat} {A B : Prop} (ha : A → a = m) (hb : B → b = m) (h : A ∨ B) : a = m ∨ b = m := h.elim (fun x => .inl (ha x)) fun x => .inr (hb x)
theorem dp_ex_s (s : St) : parts s = [] ∨ ∃ p ∈ parts s, dpB p = dpS s := by
  cases s with
  | ite a b =>
    refine .inr ?_
    show ∃ p ∈ [a, b], dpB p = max (dpB a) (dpB b)
    rcases Nat.le_total (dpB a) (dpB b) with h | h
    · exact ⟨b, by simp, by rw [Nat.max_eq_right h]⟩
    · exact ⟨a, by simp, by rw [Nat.max_eq_left h]⟩
  | whl b => exact .inr ⟨b, List.mem_cons_self, rfl⟩
  | undo _ b => exact .inr ⟨b, List.mem_cons_self, rfl⟩
  | with_ _ _ _ b => exact .inr ⟨b, List.mem_cons_self, rfl⟩
  | try_ b hs f =>
    refine .inr ?_
    show ∃ p ∈ b :: (hs.map Hd.b ++ [f]), dpB p = max (dpB b) (max (dpHs hs) (dpB f))
    have inner : ∃ p ∈ hs.map Hd.b ++ [f], dpB p = max (dpHs hs) (dpB f) := by
      rcases dp_ex_hs hs with e | ⟨p, hp, e⟩
      · subst e
        exact ⟨f, by simp, (Nat.max_eq_right (Nat.zero_le _)).symm⟩
      · rcases Nat.le_total (dpHs hs) (dpB f) with h | h
        · exact ⟨f, by simp, by rw [Nat.max_eq_right h]⟩
        · exact ⟨p, List.mem_append_left _ hp, by rw [Nat.max_eq_left h, e]⟩
    obtain ⟨p, hp, e⟩ := inner
    rcases Nat.le_total (dpB b) (max (dpHs hs) (dpB f)) with h | h
    · exact ⟨p, List.mem_cons_of_mem _ hp, by rw [Nat.max_eq_right h, e]⟩
    · exact ⟨b, List.mem_cons_self, by rw [Nat.max_eq_left h]⟩
  | _ => exact .inl rfl
theorem dp_none {s : St} (h : parts s = []) : dpS s = 0 := by
  cases s with
  | try_ _ _ _ => cases h
  | ite _ _ => cases h
  | whl _ => cases h
  | undo _ _ => cases h
  | with_ _ _ _ _ => cases h
  | _ => rfl
theorem dp_ex : ∀ b : List St, dpIn b = 0 ∨ ∃ p ∈ b.flatMap parts, dpB p = dpIn b
  | [] => .inl rfl
  | s :: r => by
    have hs : dpS s = 0 ∨ ∃ p ∈ parts s, dpB p = dpS s := (dp_ex_s s).imp_left dp_none
    have e : dpIn (s :: r) = max (dpS s) (dpIn r) := rfl
    rw [e, List.flatMap_cons]
    rcases Nat.le_total (dpS s) (dpIn r) with h | h
    · rw [Nat.max_eq_right h]
      exact (dp_ex r).imp_right fun ⟨p, hp, q⟩ => ⟨p, List.mem_append_right _ hp, q⟩
    · rw [Nat.max_eq_left h]
      exact hs.imp_right fun ⟨p, hp, q⟩ => ⟨p, List.mem_append_left _ hp, q⟩
theorem dp_flatp {b : List St} {p : List St} (h : p ∈ b.flatMap parts) : dpB p ≤ dpIn b := by
  obtain ⟨s, hs, hp⟩ := List.mem_flatMap.mp h
  exact Nat.le_trans (dp_part hp) (dp_mem hs)
theorem dp_max {b : List St} {m : Int} (h : MaxIs 0 ((b.flatMap parts).map fun p => ((dpB p : Nat) : Int)) m) : m = ((dpIn b : Nat) : Int) := by
  rcases h with ⟨e, rfl⟩ | ⟨hm, hle⟩
  · rw [List.map_eq_nil_iff] at e
    rcases dp_ex b with z | ⟨p, hp, _⟩
    · rw [z]; rfl
    · rw [e] at hp; cases hp
  · obtain ⟨p, hp, rfl⟩ := List.mem_map.mp hm
    have l1 := dp_flatp hp
    rcases dp_ex b with z | ⟨p2, hp2, e2⟩
    · have := dpB_eq p; omega
    · have := hle _ (List.mem_map.mpr ⟨p2, hp2, rfl⟩)
      have l2 : ((dpB p2 : Nat) : Int) ≤ ((dpB p : Nat) : Int) := this
      omega
theorem flat_small {b : List St} (ok : okL b) : (b.flatMap parts).length ≤ 902 * b.length := by
  induction b with
  | nil => simp
  | cons s r ih =>
    have ok : okS s ∧ okL r := ok
    have l1 := parts_len ok.1
    have l2 := ih ok.2
    rw [List.flatMap_cons, List.length_append, List.length_cons]
    omega
def spDep (K : PySem.W.Frag) (n : Nat) : Sp := fun vs H Q _ => ∃ (v : V) (b : List St), vs = [v] ∧ Dp K H v (blD b) ∧ dpB b ≤ n ∧ okB b ∧ ∀ H', Same H H' → Q (.int (dpB b : Int)) H'
theorem sizeHuge {n : Nat} (h : n ≤ 1000000) : n < sizeLine := Nat.lt_of_le_of_lt h (by decide)
section
variable {P : Program} {w : World} {K : PySem.W.Frag} {mg : Str → Option Value} {base : Heap}
theorem ok_Dep {f : Addr} {fd : FuncData} (F : Fun K "depth_of" "depth_of" sDep f fd) (T : TxChk mg) (GP : Has P w K mg base CX0 1 "parts_of" PParts (spParts K)) (m : mg "depth_of" = some (.ref f)) (kp : PySem.W.keepIn K (.ref f) = true) (bd : Binds K fd PDep []) : ∀ n, FnOk P w K mg base CX0 (2 + n) f fd PDep (spDep K n) := by
  intro n
  induction n with
  | zero => exact ⟨fun vs H Q E h => by obtain ⟨_, _, _, _, h, _⟩ := h; exact (no_dp h).elim, fun _ _ _ _ _ _ _ _ _ _ _ _ _ h => by obtain ⟨_, _, _, _, h, _⟩ := h; exact (no_dp h).elim⟩
  | succ n ih =>
    have GS : Has P w K mg base CX0 (2 + n) "depth_of" PDep (spDep K n) := ⟨f, fd, ih, m, kp, bd⟩
    refine F.ok scDep (fun vs H Q E h => ?_) (fun cdv A outer s H vs Q E hr h => ?_)
    · obtain ⟨v, b, rfl, _⟩ := h
      rfl
    · obtain ⟨v, b, rfl, hv, hn, ok, k⟩ := h
      have hr1 := hr.mono (j := 1) (show 1 ≤ 2 + n by omega)
      refine ⟨_, (pss_one (ps_ret (pe_op op_add pe_int (pe_callBK (cr_maxDf rfl) (by rfl) T.n_max bb_max (pa_cons (pe_lc2 (own := [("statement", 1), ("part", 2)]) (vs1 := [2]) (wi1 := iTup K (tCall (spParts K) [] E0 (tCons (tVar 1) tNil))) (g := gName 1) (g1 := gName 2) (tt := tYes) (tt1 := tYes) rfl scDep.nd (pi_tup (pv 0)) (blkOk_by (own := [("statement", 1), ("part", 2)]) (N := NDep) (sc := (defScope sDep)) (by decide +kernel)) (by decide) (fun _ _ _ _ _ => (pg_name (i := 1) scDep.nd rfl (Or.inl rfl))) (fun _ _ _ _ _ => pts_nil) (fun _ _ _ _ _ => (pi_tup (pe_callH GP hr1 rfl pass0 (pa_cons (pv 1) pa_nil)))) (fun _ _ _ _ _ => (pg_name (i := 2) scDep.nd rfl (Or.inl rfl))) (fun _ _ _ _ _ => pts_nil) (fun _ _ _ _ _ => (pe_callH GS hr rfl pass0 (pa_cons (pv 2) pa_nil)))) pa_nil) (pk_cons pe_int pk_nil))))), ?_⟩
      obtain ⟨a, xs, rfl, hq, hd⟩ := hv.tupInv
      rw [stsD_map] at hd
      have pb := hd.map
      have lx : xs.length = b.length := Paired.length pb
      have l9 : b.length ≤ 900 := ok.1
      have lf := flat_small ok.2
      refine ⟨_, rfl, a, rfl, ⟨_, hq⟩, fun D hD => ?_⟩
      refine walkB (K := K) (a := a) (xs := xs) (fun i H' => Same H H' ∧ H' D = some (.lst (((b.take i).flatMap parts).map fun p => V.int (dpB p : Int)))) ⟨same_new hD, upd_same⟩ (fun i H' _ h' => SqT.same h'.1 hq) ?_ ?_
      · rintro i x H1 hx ⟨s1, eD⟩
        obtain ⟨st, hst, hsd⟩ := Paired.at pb hx
        have ms := List.mem_of_getElem? hst
        have oks := okL_mem ok.2 ms
        have fl : (b.take (i + 1)).flatMap parts = (b.take i).flatMap parts ++ parts st := flat_snoc (f := parts) hst
        have ll := flat_len (f := parts) (l := b) (i + 1)
        rw [fl, List.length_append] at ll
        refine ⟨rfl, _, rfl, x, st, rfl, hsd.same s1, okS_few oks, fun t ts H2 s2 e2 p2 => ?_⟩
        refine ⟨t, rfl, ⟨_, SqT.of e2⟩, ?_⟩
        have lt : ts.length = (parts st).length := Paired.length p2
        refine walkB (K := K) (a := t) (xs := ts) (fun j H' => Same H H' ∧ Tps H2 H' ∧ H' D = some (.lst (((b.take i).flatMap parts ++ (parts st).take j).map fun p => V.int (dpB p : Int)))) ⟨s1.trans s2, Tps.refl, by rw [List.take_zero, List.append_nil]; exact s2 _ _ eD⟩ (fun j H' _ h' => h'.2.1.sqt (SqT.of e2)) ?_ ?_
        · rintro j y H3 hy ⟨s3, t3, eD3⟩
          obtain ⟨p, hp, hpd⟩ := Paired.at p2 hy
          have hj : j < ts.length := (List.getElem?_eq_some_iff.mp hy).1
          have mp := List.mem_of_getElem? hp
          have hdp := dp_lt ms mp
          refine ⟨rfl, _, rfl, y, p, rfl, hpd.tps t3 (noL_bl p), by omega, okS_parts oks mp, fun H4 s4 => ?_⟩
          refine ⟨_, s4 _ _ eD3, sizeHuge (by rw [List.length_map, List.length_append, List.length_take]; omega), fun c o z => ?_, t3.trans ((Tps.of s4).trans (Tps.lst (s4 _ _ eD3))), ?_⟩
          · rw [upd_ne (ne_of_none z hD)]
            exact s4 _ _ (s3 _ _ z)
          · rw [upd_same, take_snoc hp, ← List.append_assoc, List.map_append (l₂ := [p])]
            rfl
        · rintro H3 ⟨s3, t3, eD3⟩
          rw [lt, List.take_length, ← fl] at eD3
          exact ⟨s3, eD3⟩
      · rintro H1 ⟨s1, eD⟩
        rw [lx, List.take_length] at eD
        refine ⟨D, (b.flatMap parts).map fun p => ((dpB p : Nat) : Int), 0, rfl, rfl, SqL.of (by rw [eD, List.map_map]; rfl), fun m hm => ?_⟩
        rw [dp_max hm]
        have e : (1 : Int) + ((dpIn b : Nat) : Int) = ((dpB b : Nat) : Int) := by rw [dpB_eq]; omega
        refine ⟨_, _, rfl, rfl, ?_⟩
        show Q (V.int (1 + ((dpIn b : Nat) : Int))) H1
        rw [e]
        exact k _ s1
end

/-! ### wiped slots, without looking at the others -/
theorem wipe_hit {σ : L2.St} {i : Nat} : ∀ {vs : List Nat}, i ∈ vs → (wipe σ vs)[i]? = σ[i]?.map fun _ => none
  | v :: vs, h => by
    show ((wipe σ vs).set v none)[i]? = _
    rw [List.getElem?_set]
    by_cases e : v = i
    · subst e
      rw [if_pos rfl, wipe_length]
      by_cases hl : v < σ.length
      · rw [if_pos hl, List.getElem?_eq_getElem hl]; rfl
      · rw [if_neg hl, List.getElem?_eq_none (Nat.le_of_not_lt hl)]; rfl
    · rw [if_neg e]
      exact wipe_hit ((List.mem_cons.mp h).resolve_left fun z => e z.symm)
theorem wipe_in {σ : L2.St} {i : Nat} {x : Option V} {vs : List Nat} (h : i ∈ vs) : wipe (List.set σ i x) vs = wipe σ vs := by
  refine List.ext_getElem? fun j => ?_
  by_cases hj : j ∈ vs
  · rw [wipe_hit hj, wipe_hit hj, List.getElem?_set]
    by_cases e : i = j
    · subst e
      rw [if_pos rfl]
      by_cases hl : i < σ.length
      · rw [if_pos hl, List.getElem?_eq_getElem hl]; rfl
      · rw [if_neg hl, List.getElem?_eq_none (Nat.le_of_not_lt hl)]
    · rw [if_neg e]
  · rw [wipe_out hj, wipe_out hj, List.getElem?_set, if_neg (fun z : i = j => hj (by rw [← z]; exact h))]
theorem wipe_id {σ : L2.St} {vs : List Nat} : wipe (wipe σ vs) vs = wipe σ vs := by
  refine List.ext_getElem? fun j => ?_
  by_cases hj : j ∈ vs
  · rw [wipe_hit hj, wipe_hit hj]
    cases σ[j]? <;> rfl
  · rw [wipe_out hj]
theorem wipe1 {σ : L2.St} {i : Nat} {x : Option V} {vs : List Nat} (h : i ∈ vs) : wipe (List.set (wipe σ vs) i x) vs = wipe σ vs := (wipe_in h).trans wipe_id
theorem wipe2 {σ : L2.St} {i j : Nat} {x y : Option V} {vs : List Nat} (h : i ∈ vs) (h2 : j ∈ vs) : wipe (List.set (List.set (wipe σ vs) i x) j y) vs = wipe σ vs := (wipe_in h2).trans (wipe1 h)
theorem wipe3 {σ : L2.St} {i j k : Nat} {x y z : Option V} {vs : List Nat} (h : i ∈ vs) (h2 : j ∈ vs) (h3 : k ∈ vs) : wipe (List.set (List.set (List.set (wipe σ vs) i x) j y) k z) vs = wipe σ vs := (wipe_in h3).trans (wipe2 h h2)

/-! ### check_sizes -/
abbrev sChS : Stmt := topS 55
abbrev NChS : List Str := ["tree", "names", "kinds", "keeps", "functions", "own", "one", "places", "by_place", "name", "params", "block", "sizes", "other", "word", "size", "most"]
abbrev PChS : List Str := ["tree"]
theorem scChS : FnScope NChS PChS (defScope sChS) := ⟨rfl, rfl, rfl, by decide +kernel, rfl, by decide +kernel, by decide +kernel⟩
def rListOf (K : PySem.W.Frag) : List V → Hp → VK → Prop := fun xs H Q => ∃ p ys, xs = [.ref p] ∧ (SqL K H p ys ∨ SqT K H p ys) ∧ ∀ l, H l = none → Q (.ref l) (upd H l (.lst ys))
def rTupOf (K : PySem.W.Frag) : List V → Hp → VK → Prop := fun xs H Q => ∃ p ys, xs = [.ref p] ∧ ((SqL K H p ys ∧ ∀ l, H l = none → Q (.ref l) (upd H l (.tup ys))) ∨ (SqT K H p ys ∧ Q (.ref p) H))
def rLenS (K : PySem.W.Frag) : List V → Hp → VK → Prop := fun xs H Q => ∃ p ys, xs = [.ref p] ∧ (SqL K H p ys ∨ SqT K H p ys) ∧ Q (.int (ys.length : Nat)) H
def plN (f : Fn) : List Str := (f.ps.filter fun p => p.2).map Prod.fst
structure SmallT (t : Tr) : Prop where
  names : t.names.length ≤ 4
  kinds : t.kinds.length ≤ 3
  keeps : t.keeps.length ≤ 4
  fns : t.fns.length ≤ 6
  ps : ∀ f ∈ t.fns, f.ps.length ≤ 3
  pl : ∀ f ∈ t.fns, (plN f).length ≤ 2
  inn : ∀ f ∈ t.fns, (innerF t.names (prs f) f.b).length ≤ 3
  sz : (t.fns.map fun f => szB f.b).sum ≤ 60
  dp : ∀ f ∈ t.fns, dpB f.b ≤ 6
  num : (exsT t).length ≤ 900 ∧ ∀ e ∈ exsT t, smallE e ∧ e.ts.length ≤ 900
theorem sum_mem {α : Type} {f : α → Nat} {l : List α} {x : α} (h : x ∈ l) : f x ≤ (l.map f).sum := by
  induction l with
  | nil => cases h
  | cons y r ih =>
    rw [List.map_cons, List.sum_cons]
    rcases List.mem_cons.mp h with z | z
    · rw [z]; omega
    · have := ih z; omega
theorem SmallT.sz1 {t : Tr} (s : SmallT t) {f : Fn} (h : f ∈ t.fns) : szB f.b ≤ 60 := Nat.le_trans (sum_mem (f := fun f : Fn => szB f.b) h) s.sz
/-- what own_names gives -/
def OwnAt (D : Addr) (t : Tr) (H : Hp) (x : V) (f : Fn) : Prop := ∃ r a c, x = .ref r ∧ a ≠ D ∧ c ≠ D ∧ H r = some (.tup [.ref a, .ref c]) ∧ H a = some (.lst ((prs f).map V.str)) ∧ H c = some (.lst ((innerF t.names (prs f) f.b).map V.str))
theorem OwnAt.same {D : Addr} {H H' : Hp} (s : Same H H') {t : Tr} {x : V} {f : Fn} (h : OwnAt D t H x f) : OwnAt D t H' x f := let ⟨r, a, c, e, n1, n2, h1, h2, h3⟩ := h; ⟨r, a, c, e, n1, n2, s _ _ h1, s _ _ h2, s _ _ h3⟩
theorem OwnAt.upd {D : Addr} {H : Hp} {us zs : List V} (hD : H D = some (.lst us)) {t : Tr} {x : V} {f : Fn} (h : OwnAt D t H x f) : OwnAt D t (upd H D (.lst zs)) x f := by
  obtain ⟨r, a, c, e, n1, n2, h1, h2, h3⟩ := h
  refine ⟨r, a, c, e, n1, n2, ?_, ?_, ?_⟩
  · rw [upd_ne (ne_of h1 hD (by intro z; cases z))]; exact h1
  · rw [upd_ne n1]; exact h2
  · rw [upd_ne n2]; exact h3
/-- an entry of sizes -/
def SzAt (H : Hp) (x : V) : Prop := ∃ a w i m, x = .ref a ∧ H a = some (.tup [.str w, .int i, .int m]) ∧ i ≤ m
theorem SzAt.tps {H H' : Hp} (s : Tps H H') {x : V} (h : SzAt H x) : SzAt H' x := let ⟨a, w, i, m, e, q, l⟩ := h; ⟨a, w, i, m, e, s.1 _ _ q, l⟩
def Szs (HB : Hp) (q : Addr) (n : Nat) (H : Hp) : Prop := Same HB H ∧ ∃ us, H q = some (.lst us) ∧ us.length = n ∧ ∀ x ∈ us, SzAt H x
theorem Szs.grow {HB H H' : Hp} {q : Addr} {n : Nat} (h : Szs HB q n H) (s : Same H H') : Szs HB q n H' :=
  let ⟨s0, us, e, l, a⟩ := h
  ⟨s0.trans s, us, s _ _ e, l, fun x hx => (a x hx).tps (Tps.of s)⟩
theorem Szs.push {HB H : Hp} {q t : Addr} {n : Nat} {w : Str} {i m : Int} (h : Szs HB q n H) (hq : HB q = none) (ht : H t = none) (le : i ≤ m) : ∃ us, upd H t (.tup [.str w, .int i, .int m]) q = some (.lst us) ∧ us.length = n ∧ Szs HB q (n + 1) (upd (upd H t (.tup [.str w, .int i, .int m])) q (.lst (us ++ [.ref t]))) := by
  have s1 := same_new (o := .tup [.str w, .int i, .int m]) ht
  obtain ⟨s0, us, e, l, a⟩ := h.grow s1
  refine ⟨us, e, l, fun c o z => ?_, us ++ [.ref t], upd_same, by rw [List.length_append, l]; rfl, fun x hx => ?_⟩
  · rw [upd_ne (ne_of_none z hq)]
    exact s0 _ _ z
  · have tp : Tps (upd H t (.tup [.str w, .int i, .int m])) (upd (upd H t (.tup [.str w, .int i, .int m])) q (.lst (us ++ [.ref t]))) := Tps.lst e
    rcases List.mem_append.mp hx with z | z
    · exact (a x z).tps tp
    · rw [List.mem_singleton.mp z]
      exact ⟨t, w, i, m, rfl, tp.1 _ _ upd_same, le⟩
structure TxSz (mg : Str → Option Value) : Prop extends TxChk mg where
  n_int : mg "int" = none
theorem MaxIs.le {d m b : Int} {ns : List Int} (h : MaxIs d ns m) (hd : d ≤ b) (hn : ∀ y ∈ ns, y ≤ b) : m ≤ b := by
  rcases h with ⟨_, rfl⟩ | ⟨hm, _⟩
  · exact hd
  · exact hn m hm
def spChS (K : PySem.W.Frag) (n : Nat) : Sp := fun vs H Q _ => ∃ (v : V) (t : Tr), vs = [v] ∧ Dp K H v (trD t) ∧ okTr n t ∧ SmallT t ∧ ∀ H', Same H H' → Q .non H'
section
variable {P : Program} {w : World} {K : PySem.W.Frag} {mg : Str → Option Value} {base : Heap}
theorem ok_ChS {n : Nat} {f : Addr} {fd : FuncData} (F : Fun K "check_sizes" "check_sizes" sChS f fd) (T : TxChk mg) (n_int : mg "int" = none) (GO : Has P w K mg base CX0 (4 + n + 1 + 1) "own_names" POwn (spOwn K n)) (GS : Has P w K mg base CX0 (2 + n) "size_of" PSize (spSize K n)) (GD : Has P w K mg base CX0 (2 + n) "depth_of" PDep (spDep K n)) (GG : Has P w K mg base CX0 (4 + n + 1) "has_great_number" PGrt (spGrt K n)) : FnOk P w K mg base CX0 (4 + n + 1 + 1 + 1) f fd PChS (spChS K n) := by
  refine F.ok scChS (fun vs H Q E h => ?_) (fun cdv A outer s H vs Q E hr h => ?_)
  · obtain ⟨v, e, rfl, _⟩ := h
    rfl
  · obtain ⟨v, t, rfl, hv, ok, sm, k⟩ := h
    have n_int := n_int
    have T : TxSz mg := ⟨T, n_int⟩
    have hr2 := hr.mono (j := 2 + n) (by omega)
    have hr5 := hr.mono (j := 4 + n + 1) (by omega)
    refine ⟨_, (pss_cons (ps_asg (pv 0) (pg_tup (by rfl) (pgs_cons (pg_name (i := 1) scChS.nd rfl (Or.inl rfl)) (pgs_cons (pg_name (i := 2) scChS.nd rfl (Or.inl rfl)) (pgs_cons (pg_name (i := 3) scChS.nd rfl (Or.inl rfl)) (pgs_cons (pg_name (i := 4) scChS.nd rfl (Or.inl rfl)) pgs_nil))))))
  (pss_cons (ps_setLc (i := 5) (own := [("one", 6)]) (g := gName 6) (tt := tYes) rfl scChS.nd rfl rfl (sw_true rfl rfl rfl (by decide +kernel)) (pi_tup (pv 4)) (blkOk_by (own := [("one", 6)]) (N := NChS) (sc := (defScope sChS)) (by decide +kernel)) (fun _ _ _ _ _ => (pg_name (i := 6) scChS.nd rfl (Or.inl rfl))) (fun _ _ _ _ _ => pts_nil) (fun _ _ _ _ _ => (pe_callH GO hr rfl pass0 (pa_cons (pv 0) (pa_cons (pv 6) pa_nil)))))
  (pss_cons (ps_setLc (i := 7) (own := [("name", 9), ("params", 10), ("block", 11)]) (g := gTup K 3 (gCons (gName 9) (gCons (gName 10) (gCons (gName 11) gNil)))) (tt := tYes) rfl scChS.nd rfl rfl (sw_true rfl rfl rfl (by decide +kernel)) (pi_tup (pv 4)) (blkOk_by (own := [("name", 9), ("params", 10), ("block", 11)]) (N := NChS) (sc := (defScope sChS)) (by decide +kernel)) (fun _ _ _ _ _ => (pg_tup (by rfl) (pgs_cons (pg_name (i := 9) scChS.nd rfl (Or.inl rfl)) (pgs_cons (pg_name (i := 10) scChS.nd rfl (Or.inl rfl)) (pgs_cons (pg_name (i := 11) scChS.nd rfl (Or.inl rfl)) pgs_nil))))) (fun _ _ _ _ _ => pts_nil) (fun _ _ _ _ _ => (pe_callB (r := rLenS K) call_len_seq (by rfl) T.n_len bb_len (pa_cons (pe_lc (own := [("one", 6), ("by_place", 8)]) (wi := iTup K (tVar 10)) (g := gTup K 2 (gCons (gName 6) (gCons (gName 8) gNil))) rfl scChS.nd (pi_tup (pv 10)) (blkOk_by (own := [("one", 6), ("by_place", 8)]) (N := NChS) (sc := { kind := .function, names := [(".0", .local), ("name", .local), ("params", .local), ("block", .local), ("len", .globalImplicit)], isGenerator := false, isCoroutine := false }) (by decide +kernel)) (fun _ _ _ _ _ => (pg_tup (by rfl) (pgs_cons (pg_name (i := 6) scChS.nd rfl (Or.inl rfl)) (pgs_cons (pg_name (i := 8) scChS.nd rfl (Or.inl rfl)) pgs_nil)))) (fun _ _ _ _ _ => (pts_one (pt_val (pv 8)))) (fun _ _ _ _ _ => (pv 6))) pa_nil))))
  (pss_cons (ps_set (i := 12) scChS.nd rfl (Or.inl rfl) (pe_lst (pa_cons (pe_tup (pa_cons pe_str (pa_cons (pe_callB call_len_seq (by rfl) T.n_len bb_len (pa_cons (pv 1) pa_nil)) (pa_cons pe_int pa_nil)))) (pa_cons (pe_tup (pa_cons pe_str (pa_cons (pe_callB call_len_seq (by rfl) T.n_len bb_len (pa_cons (pv 2) pa_nil)) (pa_cons pe_int pa_nil)))) (pa_cons (pe_tup (pa_cons pe_str (pa_cons (pe_callB call_len_seq (by rfl) T.n_len bb_len (pa_cons (pv 3) pa_nil)) (pa_cons pe_int pa_nil)))) pa_nil)))))
  (pss_cons (ps_expr (pe_bm PySem.F.plainAttrs_list PySem.F.slot_list_append PySem.F.type_list_append mt_append (pv 12) (pa_cons (pe_tup (pa_cons pe_str (pa_cons (pe_callB call_len_seq (by rfl) T.n_len bb_len (pa_cons (pv 4) pa_nil)) (pa_cons pe_int pa_nil)))) pa_nil)))
  (pss_cons (ps_expr (pe_bm PySem.F.plainAttrs_list PySem.F.slot_list_append PySem.F.type_list_append mt_append (pv 12) (pa_cons (pe_tup (pa_cons pe_str (pa_cons (pe_callBK (cr_maxDf rfl) (by rfl) T.n_max bb_max (pa_cons (pe_lc (own := [("one", 6), ("other", 13)]) (g := gTup K 2 (gCons (gName 6) (gCons (gName 13) gNil))) (tt := tYes) rfl scChS.nd (pi_list (pv 5)) (blkOk_by (own := [("one", 6), ("other", 13)]) (N := NChS) (sc := (defScope sChS)) (by decide +kernel)) (fun _ _ _ _ _ => (pg_tup (by rfl) (pgs_cons (pg_name (i := 6) scChS.nd rfl (Or.inl rfl)) (pgs_cons (pg_name (i := 13) scChS.nd rfl (Or.inl rfl)) pgs_nil)))) (fun _ _ _ _ _ => pts_nil) (fun _ _ _ _ _ => (pe_callB (r := rLenS K) call_len_seq (by rfl) T.n_len bb_len (pa_cons (pv 6) pa_nil)))) pa_nil) (pk_cons pe_int pk_nil)) (pa_cons pe_int pa_nil)))) pa_nil)))
  (pss_cons (ps_expr (pe_bm PySem.F.plainAttrs_list PySem.F.slot_list_append PySem.F.type_list_append mt_append (pv 12) (pa_cons (pe_tup (pa_cons pe_str (pa_cons (pe_callBK (cr_maxDf rfl) (by rfl) T.n_max bb_max (pa_cons (pv 7) pa_nil) (pk_cons pe_int pk_nil)) (pa_cons pe_int pa_nil)))) pa_nil)))
  (pss_cons (ps_expr (pe_bm PySem.F.plainAttrs_list PySem.F.slot_list_append PySem.F.type_list_append mt_append (pv 12) (pa_cons (pe_tup (pa_cons pe_str (pa_cons (pe_callBK (cr_maxDf rfl) (by rfl) T.n_max bb_max (pa_cons (pe_lc (own := [("one", 6), ("other", 13)]) (g := gTup K 2 (gCons (gName 6) (gCons (gName 13) gNil))) (tt := tYes) rfl scChS.nd (pi_list (pv 5)) (blkOk_by (own := [("one", 6), ("other", 13)]) (N := NChS) (sc := (defScope sChS)) (by decide +kernel)) (fun _ _ _ _ _ => (pg_tup (by rfl) (pgs_cons (pg_name (i := 6) scChS.nd rfl (Or.inl rfl)) (pgs_cons (pg_name (i := 13) scChS.nd rfl (Or.inl rfl)) pgs_nil)))) (fun _ _ _ _ _ => pts_nil) (fun _ _ _ _ _ => (pe_callB (r := rLenS K) call_len_seq (by rfl) T.n_len bb_len (pa_cons (pv 13) pa_nil)))) pa_nil) (pk_cons pe_int pk_nil)) (pa_cons pe_int pa_nil)))) pa_nil)))
  (pss_cons (ps_expr (pe_bm PySem.F.plainAttrs_list PySem.F.slot_list_append PySem.F.type_list_append mt_append (pv 12) (pa_cons (pe_tup (pa_cons pe_str (pa_cons (pe_callB (cr_sum rfl) (by rfl) T.n_sum bb_sum (pa_cons (pe_lc (own := [("name", 9), ("params", 10), ("block", 11)]) (g := gTup K 3 (gCons (gName 9) (gCons (gName 10) (gCons (gName 11) gNil)))) (tt := tYes) rfl scChS.nd (pi_tup (pv 4)) (blkOk_by (own := [("name", 9), ("params", 10), ("block", 11)]) (N := NChS) (sc := (defScope sChS)) (by decide +kernel)) (fun _ _ _ _ _ => (pg_tup (by rfl) (pgs_cons (pg_name (i := 9) scChS.nd rfl (Or.inl rfl)) (pgs_cons (pg_name (i := 10) scChS.nd rfl (Or.inl rfl)) (pgs_cons (pg_name (i := 11) scChS.nd rfl (Or.inl rfl)) pgs_nil))))) (fun _ _ _ _ _ => pts_nil) (fun _ _ _ _ _ => (pe_callH GS hr2 rfl pass0 (pa_cons (pv 11) pa_nil)))) pa_nil)) (pa_cons pe_int pa_nil)))) pa_nil)))
  (pss_cons (ps_expr (pe_bm PySem.F.plainAttrs_list PySem.F.slot_list_append PySem.F.type_list_append mt_append (pv 12) (pa_cons (pe_tup (pa_cons pe_str (pa_cons (pe_callBK (cr_maxDf rfl) (by rfl) T.n_max bb_max (pa_cons (pe_lc (own := [("name", 9), ("params", 10), ("block", 11)]) (g := gTup K 3 (gCons (gName 9) (gCons (gName 10) (gCons (gName 11) gNil)))) (tt := tYes) rfl scChS.nd (pi_tup (pv 4)) (blkOk_by (own := [("name", 9), ("params", 10), ("block", 11)]) (N := NChS) (sc := (defScope sChS)) (by decide +kernel)) (fun _ _ _ _ _ => (pg_tup (by rfl) (pgs_cons (pg_name (i := 9) scChS.nd rfl (Or.inl rfl)) (pgs_cons (pg_name (i := 10) scChS.nd rfl (Or.inl rfl)) (pgs_cons (pg_name (i := 11) scChS.nd rfl (Or.inl rfl)) pgs_nil))))) (fun _ _ _ _ _ => pts_nil) (fun _ _ _ _ _ => (pe_callH GD hr2 rfl pass0 (pa_cons (pv 11) pa_nil)))) pa_nil) (pk_cons pe_int pk_nil)) (pa_cons pe_int pa_nil)))) pa_nil)))
  (pss_cons (ps_expr (pe_bm PySem.F.plainAttrs_list PySem.F.slot_list_append PySem.F.type_list_append mt_append (pv 12) (pa_cons (pe_tup (pa_cons pe_str (pa_cons (pe_callTy call_int1 (by rfl) T.n_int bb_int (pa_cons (pe_callH GG hr5 rfl pass0 (pa_cons (pv 0) pa_nil)) pa_nil)) (pa_cons pe_int pa_nil)))) pa_nil)))
  (pss_one (ps_for PassesOwn.never rfl (pi_list (pv 12)) (pg_tup (by rfl) (pgs_cons (pg_name (i := 14) scChS.nd rfl (Or.inl rfl)) (pgs_cons (pg_name (i := 15) scChS.nd rfl (Or.inl rfl)) (pgs_cons (pg_name (i := 16) scChS.nd rfl (Or.inl rfl)) pgs_nil))))
  (pss_one (ps_if (pt_cmpR op_gt (pv 15) (pv 16) (nomark _))
  (pss_one ps_never)
  pss_nil))))))))))))))), ?_⟩
    obtain ⟨okn, okk, oke, lf, okf⟩ := ok
    have hv0 := hv
    have hv : Dp K H v (.tuple [nmD t.names, nmD t.kinds, .tuple (t.keeps.map exD), .tuple (t.fns.map fnD)]) := hv
    obtain ⟨a, xs, rfl, hq, hd⟩ := hv.tupInv
    obtain ⟨x, y, z, u, rfl, hx, hy, hz, hu⟩ := hd.four
    obtain ⟨b1, ys1, rfl, hb1, hd1⟩ := hx.tupInv
    obtain ⟨b2, ys2, rfl, hb2, hd2⟩ := hy.tupInv
    obtain ⟨b3, ys3, rfl, hb3, hd3⟩ := hz.tupInv
    obtain ⟨c, zs, rfl, hc, hzd⟩ := hu.tupInv
    have pf := DpAll.map hzd
    have l1 : ys1.length = t.names.length := Paired.length (DpAll.map hd1)
    have l2 : ys2.length = t.kinds.length := Paired.length (DpAll.map hd2)
    have l3 : ys3.length = t.keeps.length := Paired.length (DpAll.map hd3)
    have lz : zs.length = t.fns.length := Paired.length pf
    have lF := sm.fns
    refine ⟨_, rfl, a, _, rfl, hq, rfl, _, _, rfl, _, _, rfl, _, _, rfl, _, _, rfl, rfl, ?_⟩
    refine ⟨_, rfl, c, rfl, ⟨_, hc⟩, fun D hD => ?_⟩
    refine lc_tup (K := K) (a := c) (xs := zs) (fun i H' => Same H H' ∧ ∃ us, H' D = some (.lst us) ∧ us.length = i ∧ Paired (OwnAt D t H') us (t.fns.take i)) ⟨same_new hD, [], upd_same, rfl, .nil⟩ (fun i H' _ h' => SqT.same h'.1 hc) ?_ ?_
    · rintro i x H1 hx ⟨s1, us, eD, lu, pu⟩
      obtain ⟨fn, hfn, hfd⟩ := Paired.at pf hx
      have hi : i < zs.length := (List.getElem?_eq_some_iff.mp hx).1
      have mf := List.mem_of_getElem? hfn
      have sz1 := sm.sz1 mf
      have ps1 := sm.ps fn mf
      refine ⟨rfl, _, rfl, _, rfl, _, x, t, fn, rfl, hv0.same s1, okn.1, hfd.same s1, okf fn mf, by omega, by omega, fun r a' c' H2 s2 f1 f2 f3 ne e1 e2 e3 => ?_⟩
      have eD2 := s2 _ _ eD
      have nD : ∀ {z : Addr}, H1 z = none → z ≠ D := fun h z => by rw [z, eD] at h; cases h
      refine ⟨_, eD2, small1000 (by omega), fun c o z => ?_, us ++ [.ref r], upd_same, by rw [List.length_append, lu]; rfl, ?_⟩
      · rw [upd_ne (ne_of_none z hD)]
        exact s2 _ _ (s1 _ _ z)
      · rw [take_snoc hfn]
        exact Paired.snoc (Paired.mapP pu fun _ _ z => (z.same s2).upd eD2) (OwnAt.upd eD2 ⟨r, a', c', rfl, nD f2, nD f3, e1, e2, e3⟩)
    · rintro H1 ⟨s1, us, eO, lu, pu⟩
      rw [lz, List.take_length] at pu
      refine ⟨_, rfl, c, rfl, ⟨_, SqT.same s1 hc⟩, fun D2 hD2 => ?_⟩
      refine lc_tup (K := K) (a := c) (xs := zs) (fun i H' => Same H1 H' ∧ H' D2 = some (.lst (((t.fns.take i).map fun f => ((plN f).length : Int)).map V.int))) ⟨same_new hD2, upd_same⟩ (fun i H' _ h' => SqT.same (s1.trans h'.1) hc) ?_ ?_
      · rintro i x H2 hx ⟨s2, eD⟩
        obtain ⟨fn, hfn, hfd⟩ := Paired.at pf hx
        have hi : i < zs.length := (List.getElem?_eq_some_iff.mp hx).1
        have mf := List.mem_of_getElem? hfn
        have ps1 := sm.ps fn mf
        have hfd : Dp K H x (.tuple [.str fn.name, .tuple (fn.ps.map prD), blD fn.b]) := hfd
        obtain ⟨d, ds, rfl, hd5, hdd⟩ := hfd.tupInv
        obtain ⟨u1, u2, u3, rfl, g1, g2, g3⟩ := hdd.three
        obtain ⟨p, ps, rfl, hp, hpd⟩ := g2.tupInv
        have pp := DpAll.map hpd
        have lp : ps.length = fn.ps.length := Paired.length pp
        refine ⟨d, _, rfl, SqT.same (s1.trans s2) hd5, rfl, _, _, rfl, _, _, rfl, _, _, rfl, rfl, wipe3 (by decide) (by decide) (by decide), ?_⟩
        refine ⟨_, rfl, p, rfl, ⟨_, SqT.same (s1.trans s2) hp⟩, fun D3 hD3 => ?_⟩
        refine lc_tup (K := K) (a := p) (xs := ps) (fun i H' => Same H2 H' ∧ H' D3 = some (.lst ((((fn.ps.take i).filter fun p => p.2).map Prod.fst).map V.str))) ⟨same_new hD3, upd_same⟩ (fun i H' _ h' => SqT.same ((s1.trans s2).trans h'.1) hp) ?_ ?_
        · rintro i z H4 hz ⟨s6, eD3⟩
          obtain ⟨pr, ht, htd⟩ := Paired.at pp hz
          have htd : Dp K H z (.tuple [.str pr.1, .bool pr.2]) := htd
          obtain ⟨c3, zs3, rfl, hc3, hcd3⟩ := htd.tupInv
          obtain ⟨u, w, rfl, hu, hw⟩ := hcd3.two
          rw [hu.strInv, Dp.blInv hw] at hc3
          have hi : i < ps.length := (List.getElem?_eq_some_iff.mp hz).1
          refine ⟨c3, _, rfl, SqT.same ((s1.trans s2).trans s6) hc3, rfl, _, _, rfl, _, _, rfl, rfl, wipe2 (by decide) (by decide), ?_⟩
          have fs : ((fn.ps.take (i + 1)).filter fun p => p.2) = ((fn.ps.take i).filter fun p => p.2) ++ (if pr.2 = true then [pr] else []) := by
            rw [take_snoc ht, List.filter_append]
            cases hb : pr.2 <;> simp [hb]
          refine ⟨V.bl pr.2, by kernel_rfl, _, rfl, ?_⟩
          cases hb : pr.2 with
          | false =>
            rw [hb] at fs
            refine iteE rfl ⟨s6, ?_⟩
            rw [eD3, fs]
            simp
          | true =>
            rw [hb] at fs
            refine iteS rfl ⟨V.str pr.1, by kernel_rfl, _, eD3, small1000 ?_, fun c o z => ?_, ?_⟩
            · rw [List.length_map, List.length_map]
              have := List.length_filter_le (fun p : Str × Bool => p.2) (fn.ps.take i)
              rw [List.length_take] at this
              omega
            · rw [upd_ne (ne_of_none z hD3)]
              exact s6 _ _ z
            · rw [upd_same, fs, if_pos rfl, List.map_append, List.map_append]
              rfl
        · rintro H4 ⟨s6, eD3⟩
          rw [lp, List.take_length] at eD3
          refine ⟨D3, _, rfl, .inl (SqL.of eD3), ?_⟩
          refine ⟨_, s6 _ _ eD, small1000 (by rw [List.length_map, List.length_map, List.length_take]; omega), fun c o z => ?_, ?_⟩
          · rw [upd_ne (ne_of_none z hD2)]
            exact s6 _ _ (s2 _ _ z)
          · have el : (plN fn).length = (fn.ps.filter fun p => p.2).length := by unfold plN; rw [List.length_map]
            rw [upd_same, take_snoc hfn, List.map_append, List.map_append, List.length_map, List.length_map, ← el]
            rfl
      · rintro H2 ⟨s2, ePl⟩
        rw [lz, List.take_length] at ePl
        have sB := s1.trans s2
        refine ⟨_, rfl, b1, _, rfl, .inr (SqT.same sB hb1), (by show 3 ≤ sizeLine; decide), fun t1 h1 => ?_⟩
        have q1 := same_new (o := .tup [.str "globals", .int ((ys1.length : Nat) : Int), .int 4]) h1
        have sC := sB.trans q1
        refine ⟨_, rfl, b2, _, rfl, .inr (SqT.same sC hb2), (by show 3 ≤ sizeLine; decide), fun t2 h2 => ?_⟩
        have q2 := same_new (o := .tup [.str "kinds", .int ((ys2.length : Nat) : Int), .int 3]) h2
        have sD := sC.trans q2
        refine ⟨_, rfl, b3, _, rfl, .inr (SqT.same sD hb3), (by show 3 ≤ sizeLine; decide), fun t3 h3 => ?_⟩
        have q3 := same_new (o := .tup [.str "keeps", .int ((ys3.length : Nat) : Int), .int 4]) h3
        have sE := sD.trans q3
        refine ⟨(by show 3 ≤ sizeLine; decide), fun q hqn => ?_⟩
        obtain ⟨HB, eHB⟩ : ∃ HB, HB = upd (upd (upd H2 t1 (.tup [.str "globals", .int ((ys1.length : Nat) : Int), .int 4])) t2 (.tup [.str "kinds", .int ((ys2.length : Nat) : Int), .int 3])) t3 (.tup [.str "keeps", .int ((ys3.length : Nat) : Int), .int 4]) := ⟨_, rfl⟩
        rw [← eHB] at hqn q3 sE ⊢
        have z1 : HB t1 = some (.tup [.str "globals", .int ((ys1.length : Nat) : Int), .int 4]) := q3 _ _ (q2 _ _ upd_same)
        have z2 : HB t2 = some (.tup [.str "kinds", .int ((ys2.length : Nat) : Int), .int 3]) := q3 _ _ upd_same
        have z3 : HB t3 = some (.tup [.str "keeps", .int ((ys3.length : Nat) : Int), .int 4]) := by rw [eHB, upd_same]
        have Z0 : Szs HB q 3 (upd HB q (.lst [.ref t1, .ref t2, .ref t3])) := by
          refine ⟨same_new hqn, _, upd_same, rfl, fun x hx => ?_⟩
          have tq := Tps.of (same_new (o := .lst [.ref t1, .ref t2, .ref t3]) hqn)
          simp only [List.mem_cons, List.not_mem_nil, or_false] at hx
          rcases hx with rfl | rfl | rfl
          · exact ⟨t1, _, _, _, rfl, tq.1 _ _ z1, by have := sm.names; omega⟩
          · exact ⟨t2, _, _, _, rfl, tq.1 _ _ z2, by have := sm.kinds; omega⟩
          · exact ⟨t3, _, _, _, rfl, tq.1 _ _ z3, by have := sm.keeps; omega⟩
        -- functions
        have own : Paired (OwnAt D t HB) us t.fns := Paired.mapP pu fun _ _ z => z.same (((s2.trans q1).trans q2).trans q3)
        have eO := (((s2.trans q1).trans q2).trans q3) _ _ eO
        have ePl := ((q1.trans q2).trans q3) _ _ ePl
        have sB := sE
        clear q1 q2 q3 sC sD sE z1 z2 z3 pu eHB
        generalize upd HB q (.lst [.ref t1, .ref t2, .ref t3]) = G1 at *
        obtain ⟨g1, us1, e1, n1, m1⟩ := id Z0
        refine ⟨_, rfl, .inl ⟨rfl, _, SqL.of e1⟩, _, rfl, c, _, rfl, .inr (SqT.same (sB.trans g1) hc), (by show 3 ≤ sizeLine; decide), fun t4 h4 => ?_⟩
        obtain ⟨us1, e1, n1, Z1⟩ := Z0.push (w := "functions") (i := ((zs.length : Nat) : Int)) (m := 6) hqn h4 (by omega)
        refine ⟨q, _, _, rfl, rfl, e1, small1000 (by omega), ?_⟩
        clear m1 n1 g1 Z0 h4
        generalize upd (upd G1 t4 (.tup [.str "functions", .int ((zs.length : Nat) : Int), .int 6])) q (.lst (us1 ++ [.ref t4])) = G2 at *
        -- parameters
        obtain ⟨g1, us2, e1, n1, m1⟩ := id Z1
        refine ⟨_, rfl, .inl ⟨rfl, _, SqL.of e1⟩, _, rfl, D, rfl, ⟨_, SqL.of (g1 _ _ eO)⟩, fun M hM => ?_⟩
        refine lc_it (walk_list (K := K) (a := D) (xs := us)) (fun i H' => Same G2 H' ∧ H' M = some (.lst (((t.fns.take i).map fun f => ((prs f).length : Int)).map V.int))) ⟨same_new hM, upd_same⟩ (fun i H' _ h' => SqL.of (h'.1 _ _ (g1 _ _ eO))) ?_ ?_
        · rintro i z H4 H5 hi ⟨s6, eM⟩ ⟨rfl, hz⟩
          obtain ⟨fn, hfn, r, a', c', rfl, _, _, hr', ha', hc'⟩ := Paired.at own hz
          have s7 := g1.trans s6
          refine ⟨r, _, rfl, SqT.of (s7 _ _ hr'), rfl, _, _, rfl, _, _, rfl, rfl, wipe2 (by decide) (by decide), ?_⟩
          refine ⟨.ref a', by kernel_rfl, a', _, rfl, .inl (SqL.of (s7 _ _ ha')), ?_⟩
          refine ⟨_, eM, small1000 (by rw [List.length_map, List.length_map, List.length_take]; omega), fun c o z => ?_, ?_⟩
          · rw [upd_ne (ne_of_none z hM)]
            exact s6 _ _ z
          · rw [upd_same, take_snoc hfn, List.map_append, List.map_append, List.length_map]
            rfl
        · rintro H4 ⟨s6, eM⟩
          rw [lu, lz, List.take_length] at eM
          refine ⟨M, _, 0, rfl, rfl, SqL.of eM, fun m hm => ?_⟩
          have lm : m ≤ 3 := hm.le (by decide) fun y hy => by
            obtain ⟨f, hf, rfl⟩ := List.mem_map.mp hy
            have := sm.ps f hf
            show ((prs f).length : Int) ≤ 3
            unfold prs
            rw [List.length_map]
            omega
          have Z2 := Z1.grow s6
          refine ⟨(by show 3 ≤ sizeLine; decide), fun t5 h5 => ?_⟩
          obtain ⟨us3, e3, n3, Z3⟩ := Z2.push (w := "parameters") (i := m) (m := 3) hqn h5 lm
          refine ⟨q, _, _, rfl, rfl, e3, small1000 (by omega), ?_⟩
          clear n3 e3 Z2 e1 n1 m1 Z1
          generalize upd (upd H4 t5 (.tup [.str "parameters", .int m, .int 3])) q (.lst (us3 ++ [.ref t5])) = G3 at *
          clear g1 s6 eM hM h5
          -- places
          obtain ⟨g1, us4, e1, n1, _⟩ := id Z3
          refine ⟨_, rfl, .inl ⟨rfl, _, SqL.of e1⟩, _, rfl, D2, _, 0, rfl, rfl, SqL.of (g1 _ _ ePl), fun m2 hm2 => ?_⟩
          have lm2 : m2 ≤ 2 := hm2.le (by decide) fun y hy => by
            obtain ⟨f, hf, rfl⟩ := List.mem_map.mp hy
            have := sm.pl f hf
            show ((plN f).length : Int) ≤ 2
            omega
          refine ⟨(by show 3 ≤ sizeLine; decide), fun t6 h6 => ?_⟩
          obtain ⟨us5, e5, n5, Z5⟩ := Z3.push (w := "parameters") (i := m2) (m := 2) hqn h6 lm2
          refine ⟨q, _, _, rfl, rfl, e5, small1000 (by omega), ?_⟩
          generalize upd (upd G3 t6 (.tup [.str "parameters", .int m2, .int 2])) q (.lst (us5 ++ [.ref t6])) = G5 at *
          clear g1 h6 e1 e5 n5 n1 Z3 hm2
          -- locals
          obtain ⟨g1, us6, e1, n1, _⟩ := id Z5
          refine ⟨_, rfl, .inl ⟨rfl, _, SqL.of e1⟩, _, rfl, D, rfl, ⟨_, SqL.of (g1 _ _ eO)⟩, fun M2 hM2 => ?_⟩
          refine lc_it (walk_list (K := K) (a := D) (xs := us)) (fun i H' => Same G5 H' ∧ H' M2 = some (.lst (((t.fns.take i).map fun f => ((innerF t.names (prs f) f.b).length : Int)).map V.int))) ⟨same_new hM2, upd_same⟩ (fun i H' _ h' => SqL.of (h'.1 _ _ (g1 _ _ eO))) ?_ ?_
          · rintro i z H4 H5 hi ⟨s6, eM⟩ ⟨rfl, hz⟩
            obtain ⟨fn, hfn, r, a', c', rfl, _, _, hr', ha', hc'⟩ := Paired.at own hz
            have s7 := g1.trans s6
            refine ⟨r, _, rfl, SqT.of (s7 _ _ hr'), rfl, _, _, rfl, _, _, rfl, rfl, wipe2 (by decide) (by decide), ?_⟩
            refine ⟨.ref c', by kernel_rfl, c', _, rfl, .inl (SqL.of (s7 _ _ hc')), ?_⟩
            refine ⟨_, eM, small1000 (by rw [List.length_map, List.length_map, List.length_take]; omega), fun c o z => ?_, ?_⟩
            · rw [upd_ne (ne_of_none z hM2)]
              exact s6 _ _ z
            · rw [upd_same, take_snoc hfn, List.map_append, List.map_append, List.length_map]
              rfl
          · rintro H5 ⟨s6, eM⟩
            rw [lu, lz, List.take_length] at eM
            refine ⟨M2, _, 0, rfl, rfl, SqL.of eM, fun m3 hm3 => ?_⟩
            have lm3 : m3 ≤ 3 := hm3.le (by decide) fun y hy => by
              obtain ⟨f, hf, rfl⟩ := List.mem_map.mp hy
              have := sm.inn f hf
              show ((innerF t.names (prs f) f.b).length : Int) ≤ 3
              omega
            have Z6 := Z5.grow s6
            refine ⟨(by show 3 ≤ sizeLine; decide), fun t7 h7 => ?_⟩
            obtain ⟨us7, e7, n7, Z7⟩ := Z6.push (w := "locals") (i := m3) (m := 3) hqn h7 lm3
            refine ⟨q, _, _, rfl, rfl, e7, small1000 (by omega), ?_⟩
            generalize upd (upd H5 t7 (.tup [.str "locals", .int m3, .int 3])) q (.lst (us7 ++ [.ref t7])) = G7 at *
            clear g1 e1 n1 s6 eM hM2 Z6 Z5 e7 n7 h7 hm3
            -- statements
            obtain ⟨g1, us8, e1, n1, _⟩ := id Z7
            have sG := sB.trans g1
            refine ⟨_, rfl, .inl ⟨rfl, _, SqL.of e1⟩, _, rfl, c, rfl, ⟨_, SqT.same sG hc⟩, fun M3 hM3 => ?_⟩
            refine lc_tup (K := K) (a := c) (xs := zs) (fun i H' => Same G7 H' ∧ H' M3 = some (.lst (((t.fns.take i).map fun f => (szB f.b : Int)).map V.int))) ⟨same_new hM3, upd_same⟩ (fun i H' _ h' => SqT.same (sG.trans h'.1) hc) ?_ ?_
            · rintro i x H6 hx ⟨s6, eM⟩
              obtain ⟨fn, hfn, hfd⟩ := Paired.at pf hx
              have hi : i < zs.length := (List.getElem?_eq_some_iff.mp hx).1
              have mf := List.mem_of_getElem? hfn
              have okn := okf fn mf
              have hfd : Dp K H x (.tuple [.str fn.name, .tuple (fn.ps.map prD), blD fn.b]) := hfd
              obtain ⟨d, ds, rfl, hd5, hdd⟩ := hfd.tupInv
              obtain ⟨u1, u2, u3, rfl, _, _, g3⟩ := hdd.three
              have s7 := sG.trans s6
              refine ⟨d, _, rfl, SqT.same s7 hd5, rfl, _, _, rfl, _, _, rfl, _, _, rfl, rfl, wipe3 (by decide) (by decide) (by decide), ?_⟩
              refine ⟨u3, by kernel_rfl, u3, fn.b, rfl, g3.same s7, okn.2.2.2.1, okn.2.2.1, fun H7 s8 => ?_⟩
              refine ⟨_, s8 _ _ eM, small1000 (by rw [List.length_map, List.length_map, List.length_take]; omega), fun c o z => ?_, ?_⟩
              · rw [upd_ne (ne_of_none z hM3)]
                exact s8 _ _ (s6 _ _ z)
              · rw [upd_same, take_snoc hfn, List.map_append, List.map_append]
                rfl
            · rintro H6 ⟨s6, eM⟩
              rw [lz, List.take_length] at eM
              refine ⟨M3, _, rfl, SqL.of eM, ?_⟩
              have es : (t.fns.map fun f => (szB f.b : Int)).sum = (((t.fns.map fun f => szB f.b).sum : Nat) : Int) := by
                generalize t.fns = l
                induction l with
                | nil => rfl
                | cons f r ih => rw [List.map_cons, List.sum_cons, ih, List.map_cons, List.sum_cons]; omega
              rw [es]
              have Z8 := Z7.grow s6
              refine ⟨(by show 3 ≤ sizeLine; decide), fun t8 h8 => ?_⟩
              obtain ⟨us9, e9, n9, Z9⟩ := Z8.push (w := "statements") (i := (((t.fns.map fun f => szB f.b).sum : Nat) : Int)) (m := 60) hqn h8 (by have := sm.sz; omega)
              refine ⟨q, _, _, rfl, rfl, e9, small1000 (by omega), ?_⟩
              generalize upd (upd H6 t8 (.tup [.str "statements", .int (((t.fns.map fun f => szB f.b).sum : Nat) : Int), .int 60])) q (.lst (us9 ++ [.ref t8])) = G9 at *
              clear g1 e1 n1 s6 eM hM3 Z8 Z7 e9 n9 h8 es sG
              -- nesting
              obtain ⟨g1, us8, e1, n1, _⟩ := id Z9
              have sG := sB.trans g1
              refine ⟨_, rfl, .inl ⟨rfl, _, SqL.of e1⟩, _, rfl, c, rfl, ⟨_, SqT.same sG hc⟩, fun M4 hM4 => ?_⟩
              refine lc_tup (K := K) (a := c) (xs := zs) (fun i H' => Same G9 H' ∧ H' M4 = some (.lst (((t.fns.take i).map fun f => (dpB f.b : Int)).map V.int))) ⟨same_new hM4, upd_same⟩ (fun i H' _ h' => SqT.same (sG.trans h'.1) hc) ?_ ?_
              · rintro i x H6 hx ⟨s6, eM⟩
                obtain ⟨fn, hfn, hfd⟩ := Paired.at pf hx
                have hi : i < zs.length := (List.getElem?_eq_some_iff.mp hx).1
                have mf := List.mem_of_getElem? hfn
                have okn := okf fn mf
                have hfd : Dp K H x (.tuple [.str fn.name, .tuple (fn.ps.map prD), blD fn.b]) := hfd
                obtain ⟨d, ds, rfl, hd5, hdd⟩ := hfd.tupInv
                obtain ⟨u1, u2, u3, rfl, _, _, g3⟩ := hdd.three
                have s7 := sG.trans s6
                refine ⟨d, _, rfl, SqT.same s7 hd5, rfl, _, _, rfl, _, _, rfl, _, _, rfl, rfl, wipe3 (by decide) (by decide) (by decide), ?_⟩
                refine ⟨u3, by kernel_rfl, u3, fn.b, rfl, g3.same s7, okn.2.2.2.1, okn.2.2.1, fun H7 s8 => ?_⟩
                refine ⟨_, s8 _ _ eM, small1000 (by rw [List.length_map, List.length_map, List.length_take]; omega), fun c o z => ?_, ?_⟩
                · rw [upd_ne (ne_of_none z hM4)]
                  exact s8 _ _ (s6 _ _ z)
                · rw [upd_same, take_snoc hfn, List.map_append, List.map_append]
                  rfl
              · rintro H7 ⟨s6, eM⟩
                rw [lz, List.take_length] at eM
                refine ⟨M4, _, 0, rfl, rfl, SqL.of eM, fun m5 hm5 => ?_⟩
                have lm5 : m5 ≤ 6 := hm5.le (by decide) fun y hy => by
                  obtain ⟨f, hf, rfl⟩ := List.mem_map.mp hy
                  have := sm.dp f hf
                  show (dpB f.b : Int) ≤ 6
                  omega
                have Z10 := Z9.grow s6
                refine ⟨(by show 3 ≤ sizeLine; decide), fun t9 h9 => ?_⟩
                obtain ⟨us10, e10, n10, Z11⟩ := Z10.push (w := "nesting") (i := m5) (m := 6) hqn h9 lm5
                refine ⟨q, _, _, rfl, rfl, e10, small1000 (by omega), ?_⟩
                generalize upd (upd H7 t9 (.tup [.str "nesting", .int m5, .int 6])) q (.lst (us10 ++ [.ref t9])) = G11 at *
                clear g1 e1 n1 s6 eM hM4 Z10 Z9 e10 n10 h9 hm5 sG
                -- numbers
                obtain ⟨g1, us8, e1, n1, _⟩ := id Z11
                have sG := sB.trans g1
                refine ⟨_, rfl, .inl ⟨rfl, _, SqL.of e1⟩, _, rfl, _, t, rfl, hv0.same sG, ⟨okn, okk, oke, lf, okf⟩, fun f hf => by have := sm.sz1 hf; omega, sm.num.1, sm.num.2, fun H8 s8 => ?_⟩
                refine .inr ⟨false, rfl, (by show 3 ≤ sizeLine; decide), fun t10 h10 => ?_⟩
                obtain ⟨us11, e11, n11, Z12⟩ := (Z11.grow s8).push (w := "numbers") (i := if false = true then 1 else 0) (m := 0) hqn h10 (by decide)
                refine ⟨q, _, _, rfl, rfl, e11, small1000 (by omega), ?_⟩
                generalize upd (upd H8 t10 (.tup [.str "numbers", .int (if false = true then 1 else 0), .int 0])) q (.lst (us11 ++ [.ref t10])) = G13 at *
                obtain ⟨g2, us12, e2, n2, m2⟩ := Z12
                refine ⟨_, rfl, q, rfl, ⟨_, SqL.of e2⟩, ?_⟩
                refine for_list (K := K) (a := q) (xs := us12) (fun i σ H' => H' = G13 ∧ ∃ x14 x15 x16 : Option V, σ = [some (.ref a), some (.ref b1), some (.ref b2), some (.ref b3), some (.ref c), some (.ref D), none, some (.ref D2), none, none, none, none, some (.ref q), none, x14, x15, x16]) ⟨rfl, _, _, _, rfl⟩ (fun j σ H' _ h' => SqL.of (by rw [h'.1]; exact e2)) ?_ ?_
                · rintro i x σ H1 hx ⟨rfl, x14, x15, x16, rfl⟩
                  obtain ⟨ax, wx, ix, mx, rfl, hax, lex⟩ := m2 x (List.mem_of_getElem? hx)
                  refine ⟨ax, _, rfl, SqT.of hax, rfl, _, _, rfl, _, _, rfl, _, _, rfl, rfl, ?_⟩
                  refine ⟨_, rfl, _, rfl, _, _, rfl, rfl, _, rfl, iteE (decide_eq_false (by omega)) ?_⟩
                  exact ⟨rfl, _, _, _, rfl⟩
                · rintro σ H1 ⟨rfl, _⟩
                  exact k _ (sB.trans g2)
end

/-! ### check_statement -/
abbrev sChT : Stmt := topS 60
abbrev NChT : List Str := ["tree", "known", "place", "statement", "word", "name", "target", "callee", "args", "enter", "leave", "kinds", "block", "handlers", "final", "number", "inner"]
abbrev PChT : List Str := ["tree", "known", "place", "statement"]
theorem scChT : FnScope NChT PChT (defScope sChT) := ⟨rfl, rfl, rfl, by decide +kernel, rfl, by decide +kernel, by decide +kernel⟩
def knG (vs ks fs : List Str) (w : Str) : List Str := if w = wv then vs else if w = wk then ks else fs
/-- the dict of the known names -/
def KnAt (K : PySem.W.Frag) (H : Hp) (v : V) (vs ks fs : List Str) : Prop := ∃ d qv qk qf, v = .ref d ∧ H d = some (.dK [(.inr wv, .ref qv), (.inr wk, .ref qk), (.inr wf, .ref qf)]) ∧ H qv = some (.lst (vs.map V.str)) ∧ SqT K H qk (ks.map V.str) ∧ H qf = some (.lst (fs.map V.str))
theorem KnAt.same {K : PySem.W.Frag} {H H' : Hp} (s : Same H H') {v : V} {vs ks fs : List Str} (h : KnAt K H v vs ks fs) : KnAt K H' v vs ks fs :=
  let ⟨d, qv, qk, qf, e, h1, h2, h3, h4⟩ := h
  ⟨d, qv, qk, qf, e, s _ _ h1, s _ _ h2, SqT.same s h3, s _ _ h4⟩
def badF (s : St) : Bool := match s with
  | .whl _ => true | .try_ _ _ _ => true | .undo _ _ => true | .with_ _ _ _ _ => true | .ret _ => true
  | _ => false
def GoodC (t : Tr) : St → Prop
  | .call _ g as => Fit t g as
  | .with_ e l _ _ => Fit t e.1 e.2 ∧ Fit t l.1 l.2
  | .try_ _ _ f => ∀ p ∈ allB f 0, badF p.2 = false
  | _ => True
def spChT (K : PySem.W.Frag) (n : Nat) : Sp := fun vs H Q _ => ∃ (v kn u : V) (pl : Int) (t : Tr) (vn ks fs : List Str) (st : St), vs = [v, kn, .int pl, u] ∧ Dp K H v (trD t) ∧ KnAt K H kn vn ks fs ∧ Dp K H u (stD st) ∧ okS st ∧ dpS st ≤ n ∧ szS st ≤ 900 ∧ (namedS st).length ≤ 900 ∧
  (∀ q ∈ namedS st, (q.1 = wv ∨ q.1 = wk ∨ q.1 = wf) ∧ q.2 ∈ knG vn ks fs q.1) ∧ GoodC t st ∧ ∀ H', Same H H' → Q .non H'
section
variable {P : Program} {w : World} {K : PySem.W.Frag} {mg : Str → Option Value} {base : Heap}
theorem kn_get {K : PySem.W.Frag} {H : Hp} {v : V} {vs ks fs : List Str} (h : KnAt K H v vs ks fs) {w : Str} (hw : w = wv ∨ w = wk ∨ w = wf) : ∃ d q, v = .ref d ∧ DGet H d (.str w) (some (.ref q)) ∧ (SqL K H q ((knG vs ks fs w).map V.str) ∨ SqT K H q ((knG vs ks fs w).map V.str)) := by
  obtain ⟨d, qv, qk, qf, rfl, h1, h2, h3, h4⟩ := h
  rcases hw with rfl | rfl | rfl
  · exact ⟨d, qv, rfl, .inl ⟨_, .inr wv, Rd.of h1, rfl, by kernel_rfl⟩, .inl (SqL.of h2)⟩
  · exact ⟨d, qk, rfl, .inl ⟨_, .inr wk, Rd.of h1, rfl, by kernel_rfl⟩, .inr h3⟩
  · exact ⟨d, qf, rfl, .inl ⟨_, .inr wf, Rd.of h1, rfl, by kernel_rfl⟩, .inl (SqL.of h4)⟩
theorem ok_ChT {n : Nat} {f : Addr} {fd : FuncData} (F : Fun K "check_statement" "check_statement" sChT f fd) (GN : Has P w K mg base CX0 3 "named_in" PNmI (spNmI K 2)) (GF : Has P w K mg base CX0 1 "fits" PFits (spFits K)) (GA : Has P w K mg base CX0 (4 + n) "all_numbered" PAllN (spAllN K n)) : FnOk P w K mg base CX0 (4 + n + 1) f fd PChT (spChT K n) := by
  refine F.ok scChT (fun vs H Q E h => ?_) (fun cdv A outer s H vs Q E hr h => ?_)
  · obtain ⟨_, _, _, _, _, _, _, _, _, rfl, _⟩ := h
    rfl
  · obtain ⟨v, kn, u, pl, t, vn, ks, fs, st, rfl, hv, hk, hu, oks, dps, szs, ln, nam, gc, k⟩ := h
    have hu0 := hu_of hr
    have hr1 := hr.mono (j := 1) (by omega)
    have hr3 := hr.mono (j := 3) (by omega)
    refine ⟨_, (pss_cons (ps_for PassesOwn.never rfl (pi_list (pe_callH GN hr3 rfl pass0 (pa_cons (pv 3) pa_nil))) (pg_tup (by rfl) (pgs_cons (pg_name (i := 4) scChT.nd rfl (Or.inl rfl)) (pgs_cons (pg_name (i := 5) scChT.nd rfl (Or.inl rfl)) pgs_nil)))
  (pss_one (ps_if (pt_cmpR op_notIn_seq (pv 5) (pe_dget hu0 (pv 1) (pv 4) (fun _ _ => rfl)) (by rfl))
  (pss_one ps_never)
  pss_nil)))
  (pss_one (ps_match (pv 3) (pcs_cons scChT.nd (pm_seq rfl (pms_cons pm_str (pms_cons (pm_as (i := 6) rfl (Or.inl rfl)) (pms_cons (pm_as (i := 7) rfl (Or.inl rfl)) (pms_cons (pm_as (i := 8) rfl (Or.inl rfl)) pms_nil)))))
  (pss_one (ps_if (pt_not (pt_val (pe_callH GF hr1 rfl pass0 (pa_cons (pv 0) (pa_cons (pv 7) (pa_cons (pv 8) pa_nil))))))
  (pss_one ps_never)
  pss_nil))
  (pcs_cons scChT.nd (pm_seq rfl (pms_cons pm_str (pms_cons (pm_as (i := 9) rfl (Or.inl rfl)) (pms_cons (pm_as (i := 10) rfl (Or.inl rfl)) (pms_cons (pm_as (i := 11) rfl (Or.inl rfl)) (pms_cons (pm_as (i := 12) rfl (Or.inl rfl)) pms_nil))))))
  (pss_one (ps_if (PW.pt (pw_or (pt_not (pt_val (pe_callH GF hr1 rfl pass0 (pa_cons (pv 0) (pa_cons (pe_ix (r := rIxT K) ix_tup (pv 9) pe_int (fun _ _ => rfl)) (pa_cons (pe_ix (r := rIxT K) ix_tup (pv 9) pe_int (fun _ _ => rfl)) pa_nil)))))) (pw_or1 (pt_not (pt_val (pe_callH GF hr1 rfl pass0 (pa_cons (pv 0) (pa_cons (pe_ix (r := rIxT K) ix_tup (pv 10) pe_int (fun _ _ => rfl)) (pa_cons (pe_ix (r := rIxT K) ix_tup (pv 10) pe_int (fun _ _ => rfl)) pa_nil)))))))))
  (pss_one ps_never)
  pss_nil))
  (pcs_cons scChT.nd (pm_seq rfl (pms_cons pm_str (pms_cons (pm_as (i := 12) rfl (Or.inl rfl)) (pms_cons (pm_as (i := 13) rfl (Or.inl rfl)) (pms_cons (pm_as (i := 14) rfl (Or.inl rfl)) pms_nil)))))
  (pss_one (ps_for PassesOwn.never rfl (pi_list (pe_callH GA hr rfl pass0 (pa_cons (pv 14) (pa_cons pe_int pa_nil)))) (pg_tup (by rfl) (pgs_cons (pg_name (i := 15) scChT.nd rfl (Or.inl rfl)) (pgs_cons (pg_name (i := 16) scChT.nd rfl (Or.inl rfl)) pgs_nil)))
  (pss_one (ps_if (pt_cmpR op_in_seq (pe_ix (r := rIxT K) ix_tup (pv 16) pe_int (fun _ _ => rfl)) (pe_tup (pa_cons pe_str (pa_cons pe_str (pa_cons pe_str (pa_cons pe_str (pa_cons pe_str pa_nil)))))) (by rfl))
  (pss_one ps_never)
  pss_nil))))
  pcs_nil)))))), ?_⟩
    have rk : rkS st ≤ 2 := by cases st <;> simp [rkS]
    refine ⟨_, rfl, u, st, rfl, hu, oks, rk, ln, fun L ls H1 s1 nL eL pL => ?_⟩
    refine ⟨L, rfl, ⟨_, SqL.of eL⟩, ?_⟩
    refine for_list (K := K) (a := L) (xs := ls) (fun i σ H' => H' = H1 ∧ ∃ x4 x5 : Option V, σ = [some v, some kn, some (.int pl), some u, x4, x5, none, none, none, none, none, none, none, none, none, none, none]) ⟨rfl, _, _, rfl⟩ (fun j σ H' _ h' => SqL.of (by rw [h'.1]; exact eL)) ?_ ?_
    · rintro i x σ H2 hx ⟨rfl, x4, x5, rfl⟩
      obtain ⟨⟨wd, nm⟩, hq, a, rfl, ha⟩ := Paired.at pL hx
      obtain ⟨q1, q2⟩ := nam _ (List.mem_of_getElem? hq)
      obtain ⟨d, q, rfl, dg, sq⟩ := kn_get (hk.same s1) q1
      refine ⟨a, _, rfl, ha, rfl, _, _, rfl, _, _, rfl, rfl, ?_⟩
      refine ⟨_, rfl, _, rfl, _, rfl, d, _, rfl, dg, q, _, rfl, sq, rfl, flat_strs _, _, rfl, iteE (by rw [if_pos rfl, inV_mem, decide_eq_true q2]; rfl) ?_⟩
      exact ⟨rfl, _, _, rfl⟩
    · rintro σ H2 ⟨rfl, x4, x5, rfl⟩
      obtain ⟨a, xs, rfl, hq, hd⟩ := stInv (hu.same s1)
      refine ⟨_, rfl, ?_⟩
      have s0 := s1
      cases st <;> simp only [wordS] at hq
      case call g gg as =>
        obtain ⟨x, y, z, rfl, h1, h2, h3⟩ := DpAll.three hd
        rw [h2.strInv] at hq
        have oks : (∀ x, g = some x → okN1 x) ∧ okN1 gg ∧ okAs as := oks
        repeat (first | refine case_len hq (Nat.ne_of_beq_eq_false rfl) ?_ | refine case_word hq rfl (by decide +kernel) ?_)
        refine case_hit hq rfl ⟨_, _, rfl, _, _, rfl, _, _, rfl, ?_⟩
        refine ⟨_, rfl, _, rfl, _, rfl, _, _, t, gg, as, rfl, hv.same s1, h3, oks.2.2.1, gc, fun H3 s3 => ?_⟩
        exact ⟨_, rfl, iteE rfl (k _ (s1.trans s3))⟩
      case with_ e l ks p =>
        have oks : (okCal e ∧ okCal l ∧ okNs ks) ∧ (p.length ≤ 900 ∧ okL p) := oks
        obtain ⟨x, y, z, u, rfl, h1, h2, h3, h4⟩ := DpAll.four hd
        have h1 : Dp K H2 x (.tuple [.str e.1, .tuple (e.2.map argD)]) := h1
        have h2 : Dp K H2 y (.tuple [.str l.1, .tuple (l.2.map argD)]) := h2
        obtain ⟨x0, ex, rfl, hx0, hxd⟩ := h1.tupInv
        obtain ⟨e1, e2, rfl, he1, he2⟩ := hxd.two
        obtain ⟨y0, ey, rfl, hy0, hyd⟩ := h2.tupInv
        obtain ⟨l1, l2, rfl, hl1, hl2⟩ := hyd.two
        rw [he1.strInv] at hx0
        rw [hl1.strInv] at hy0
        repeat (first | refine case_len hq (Nat.ne_of_beq_eq_false rfl) ?_ | refine case_word hq rfl (by decide +kernel) ?_)
        refine case_hit hq rfl ⟨_, _, rfl, _, _, rfl, _, _, rfl, _, _, rfl, ?_⟩
        refine ⟨_, rfl, _, rfl, x0, _, _, _, rfl, rfl, hx0, rfl, _, rfl, x0, _, _, _, rfl, rfl, hx0, rfl, _, _, t, e.1, e.2, rfl, hv.same s1, he2, oks.1.1.2.1, gc.1, fun H3 s3 => ?_⟩
        refine ⟨_, rfl, iteE rfl ?_⟩
        refine ⟨_, rfl, _, rfl, y0, _, _, _, rfl, rfl, SqT.same s3 hy0, rfl, _, rfl, y0, _, _, _, rfl, rfl, SqT.same s3 hy0, rfl, _, _, t, l.1, l.2, rfl, (hv.same s1).same s3, hl2.same s3, oks.1.2.1.2.1, gc.2, fun H4 s4 => ?_⟩
        exact ⟨_, rfl, iteE rfl (k _ ((s1.trans s3).trans s4))⟩
      case try_ p hs q =>
        have oks : (p.length ≤ 900 ∧ okL p) ∧ (hs.length ≤ 900 ∧ okHs hs) ∧ (q.length ≤ 900 ∧ okL q) := oks
        have dps : max (dpB p) (max (dpHs hs) (dpB q)) ≤ n := dps
        have szs : szB p + (szHs hs + szB q) ≤ 900 := szs
        obtain ⟨x, y, z, rfl, h1, h2, h3⟩ := DpAll.three hd
        repeat (first | refine case_len hq (Nat.ne_of_beq_eq_false rfl) ?_ | refine case_word hq rfl (by decide +kernel) ?_)
        refine case_hit hq rfl ⟨_, _, rfl, _, _, rfl, _, _, rfl, ?_⟩
        refine ⟨_, rfl, z, q, 0, rfl, h3, Nat.le_trans (Nat.le_trans (Nat.le_max_right _ _) (Nat.le_max_right _ _)) dps, oks.2.2, by omega, fun M ms H3 s3 nM eM pM => ?_⟩
        refine ⟨M, rfl, ⟨_, SqL.of eM⟩, ?_⟩
        refine for_list (K := K) (a := M) (xs := ms) (fun i σ H' => Same H3 H' ∧ ∃ x15 x16 : Option V, σ = [some v, some kn, some (.int pl), some (.ref a), x4, x5, none, none, none, none, none, none, some x, some y, some z, x15, x16]) ⟨Same.refl _, _, _, rfl⟩ (fun j σ H' _ h' => SqL.of (h'.1 _ _ eM)) ?_ ?_
        · rintro i w σ H4 hw ⟨s4, x15, x16, rfl⟩
          obtain ⟨⟨num, st⟩, hp, b, u, rfl, hb, hpd⟩ := Paired.at pM hw
          obtain ⟨c, zs, rfl, hc, hcd⟩ := stInv hpd
          refine ⟨b, _, rfl, SqT.same s4 hb, rfl, _, _, rfl, _, _, rfl, rfl, ?_⟩
          have bf : badF st = false := gc _ (List.mem_of_getElem? hp)
          have hc : SqT K H3 c (V.str (wordS st) :: zs) := hc
          refine ⟨_, rfl, c, _, _, _, rfl, rfl, SqT.same s4 hc, atI_nat (j := 0) rfl, (by show 5 ≤ sizeLine; decide), fun tt htt => ?_⟩
          have s5 := same_new (o := .tup [V.str "while", V.str "try", V.str "undo", V.str "with", V.str "return"]) htt
          refine ⟨tt, _, rfl, .inr (SqT.of upd_same), rfl, rfl, _, rfl, iteE ?_ ?_⟩
          · cases st <;> first | (simp only [wordS]; decide +kernel) | (simp [badF] at bf)
          · exact ⟨s4.trans s5, _, _, rfl⟩
        · rintro σ H4 ⟨s4, _⟩
          exact k _ ((s1.trans s3).trans s4)
      all_goals
        first
          | obtain ⟨_, rfl, _⟩ := DpAll.one hd
          | obtain ⟨_, _, rfl, _, _⟩ := DpAll.two hd
        repeat (first | refine case_len hq (Nat.ne_of_beq_eq_false rfl) ?_ | refine case_word hq rfl (by decide +kernel) ?_)
        exact k _ s1
end

/-! ### check_names -/
mutual
theorem le_allS : ∀ (s : St) (n : Nat), ∀ p ∈ allS s n, dpS p.2 ≤ dpS s ∧ szS p.2 ≤ szS s
  | .ite a b, n, p, hp => by
    have ea := dpB_eq a
    have eb := dpB_eq b
    show _ ≤ max (dpB a) (dpB b) ∧ _ ≤ szB a + szB b
    rcases List.mem_append.mp (show p ∈ allB a n ++ allB b (n + szB a) from hp) with z | z
    · have := le_allB a _ p z
      exact ⟨Nat.le_trans (by omega) (Nat.le_max_left _ _), by omega⟩
    · have := le_allB b _ p z
      exact ⟨Nat.le_trans (by omega) (Nat.le_max_right _ _), by omega⟩
  | .whl b, n, p, hp => by
    have := le_allB b n p hp
    have e := dpB_eq b
    exact ⟨by show _ ≤ dpB b; omega, by show _ ≤ szB b; omega⟩
  | .try_ b hs f, n, p, hp => by
    have eb := dpB_eq b
    have ef := dpB_eq f
    show _ ≤ max (dpB b) (max (dpHs hs) (dpB f)) ∧ _ ≤ szB b + (szHs hs + szB f)
    rcases List.mem_append.mp (show p ∈ allB b n ++ (allHs hs (n + szB b) ++ allB f (n + szB b + szHs hs)) from hp) with z | z
    · have := le_allB b _ p z
      exact ⟨Nat.le_trans (by omega) (Nat.le_max_left _ _), by omega⟩
    · rcases List.mem_append.mp z with z | z
      · have := le_allHs hs _ p z
        exact ⟨Nat.le_trans (Nat.le_trans this.1 (Nat.le_max_left _ _)) (Nat.le_max_right _ _), by omega⟩
      · have := le_allB f _ p z
        exact ⟨Nat.le_trans (Nat.le_trans (by omega) (Nat.le_max_right _ _)) (Nat.le_max_right _ _), by omega⟩
  | .undo ns b, n, p, hp => by
    have := le_allB b n p hp
    have e := dpB_eq b
    exact ⟨by show _ ≤ dpB b; omega, by show _ ≤ szB b; omega⟩
  | .with_ e l ks b, n, p, hp => by
    have := le_allB b n p hp
    have e := dpB_eq b
    exact ⟨by show _ ≤ dpB b; omega, by show _ ≤ szB b; omega⟩
  | .set _ _, _, p, hp => nomatch hp
  | .input _, _, p, hp => nomatch hp
  | .call _ _ _, _, p, hp => nomatch hp
  | .risk _, _, p, hp => nomatch hp
  | .raise _, _, p, hp => nomatch hp
  | .ret _, _, p, hp => nomatch hp
theorem le_allB : ∀ (b : List St) (n : Nat), ∀ p ∈ allB b n, dpS p.2 ≤ dpIn b ∧ szS p.2 + 1 ≤ szB b
  | [], _, p, hp => nomatch hp
  | s :: r, n, p, hp => by
    show _ ≤ max (dpS s) (dpIn r) ∧ _ ≤ 1 + szS s + szB r
    rcases List.mem_cons.mp (show p ∈ (n, s) :: (allS s (n + 1) ++ allB r (n + 1 + szS s)) from hp) with z | z
    · rw [z]
      exact ⟨Nat.le_max_left _ _, by show szS s + 1 ≤ _; omega⟩
    · rcases List.mem_append.mp z with z | z
      · have := le_allS s _ p z
        exact ⟨Nat.le_trans this.1 (Nat.le_max_left _ _), by omega⟩
      · have := le_allB r _ p z
        exact ⟨Nat.le_trans this.1 (Nat.le_max_right _ _), by omega⟩
theorem le_allH : ∀ (x : Hd) (n : Nat), ∀ p ∈ allH x n, dpS p.2 ≤ dpH x ∧ szS p.2 ≤ szH x
  | .mk ks b, n, p, hp => by
    have := le_allB b n p hp
    have e := dpB_eq b
    exact ⟨by show _ ≤ dpB b; omega, by show _ ≤ szB b; omega⟩
theorem le_allHs : ∀ (hs : List Hd) (n : Nat), ∀ p ∈ allHs hs n, dpS p.2 ≤ dpHs hs ∧ szS p.2 ≤ szHs hs
  | [], _, p, hp => nomatch hp
  | x :: r, n, p, hp => by
    show _ ≤ max (dpH x) (dpHs r) ∧ _ ≤ szH x + szHs r
    rcases List.mem_append.mp (show p ∈ allH x n ++ allHs r (n + szH x) from hp) with z | z
    · have := le_allH x _ p z
      exact ⟨Nat.le_trans this.1 (Nat.le_max_left _ _), by omega⟩
    · have := le_allHs r _ p z
      exact ⟨Nat.le_trans this.1 (Nat.le_max_right _ _), by omega⟩
end
abbrev sChN : Stmt := topS 61
abbrev NChN : List Str := ["tree", "names", "kinds", "keeps", "functions", "everywhere", "name", "params", "block", "function", "inner", "constant", "terms", "factor", "known", "place", "statement"]
abbrev PChN : List Str := ["tree"]
theorem scChN : FnScope NChN PChN (defScope sChN) := ⟨rfl, rfl, rfl, by decide +kernel, rfl, by decide +kernel, by decide +kernel⟩
def evT (t : Tr) : List Str := t.names ++ (t.kinds ++ t.fns.map Fn.name)
def vnT (t : Tr) (f : Fn) : List Str := t.names ++ (prs f ++ innerF t.names (prs f) f.b)
def StOk (t : Tr) (f : Fn) (s : St) : Prop := (namedS s).length ≤ 900 ∧ (∀ q ∈ namedS s, (q.1 = wv ∨ q.1 = wk ∨ q.1 = wf) ∧ q.2 ∈ knG (vnT t f) t.kinds (t.fns.map Fn.name) q.1) ∧ GoodC t s
structure NamT (t : Tr) : Prop where
  nd : (evT t).Nodup
  nd2 : ∀ f ∈ t.fns, (evT t ++ (prs f ++ innerF t.names (prs f) f.b)).Nodup
  kp : ∀ e ∈ t.keeps, ∀ p ∈ e.ts, p.1 ∈ t.names
  st : ∀ f ∈ t.fns, ∀ p ∈ allB f.b 0, StOk t f p.2
def spChN (K : PySem.W.Frag) (n : Nat) : Sp := fun vs H Q _ => ∃ (v : V) (t : Tr), vs = [v] ∧ Dp K H v (trD t) ∧ okTr n t ∧ SmallT t ∧ NamT t ∧ ∀ H', Same H H' → Q .non H'
section
variable {P : Program} {w : World} {K : PySem.W.Frag} {mg : Str → Option Value} {base : Heap}
theorem ok_ChN {n : Nat} {f : Addr} {fd : FuncData} (F : Fun K "check_names" "check_names" sChN f fd) (T : TxChk mg) (GO : Has P w K mg base CX0 (4 + n + 1 + 1) "own_names" POwn (spOwn K n)) (GU : Has P w K mg base CX0 1 "check_unlike" PUnl (spUnl K)) (GA : Has P w K mg base CX0 (4 + n) "all_numbered" PAllN (spAllN K n)) (GS : Has P w K mg base CX0 (4 + n + 1) "check_statement" PChT (spChT K n)) : FnOk P w K mg base CX0 (4 + n + 1 + 1 + 1) f fd PChN (spChN K n) := by
  refine F.ok scChN (fun vs H Q E h => ?_) (fun cdv A outer s H vs Q E hr h => ?_)
  · obtain ⟨v, e, rfl, _⟩ := h
    rfl
  · obtain ⟨v, t, rfl, hv, ok, sm, nt, k⟩ := h
    have hu0 := hu_of hr
    have hr1 := hr.mono (j := 1) (by omega)
    have hr4 := hr.mono (j := 4 + n) (by omega)
    have hr5 := hr.mono (j := 4 + n + 1) (by omega)
    refine ⟨_, (pss_cons (ps_asg (pv 0) (pg_tup (by rfl) (pgs_cons (pg_name (i := 1) scChN.nd rfl (Or.inl rfl)) (pgs_cons (pg_name (i := 2) scChN.nd rfl (Or.inl rfl)) (pgs_cons (pg_name (i := 3) scChN.nd rfl (Or.inl rfl)) (pgs_cons (pg_name (i := 4) scChN.nd rfl (Or.inl rfl)) pgs_nil))))))
  (pss_cons (ps_set (i := 5) scChN.nd rfl (Or.inl rfl) (pe_lst (StX.pa_star (pv 1) (StX.pa_star (pv 2) (StX.pa_star (pe_lc (own := [("name", 6), ("params", 7), ("block", 8)]) (g := gTup K 3 (gCons (gName 6) (gCons (gName 7) (gCons (gName 8) gNil)))) (tt := tYes) rfl scChN.nd (pi_tup (pv 4)) (blkOk_by (own := [("name", 6), ("params", 7), ("block", 8)]) (N := NChN) (sc := (defScope sChN)) (by decide +kernel)) (fun _ _ _ _ _ => (pg_tup (by rfl) (pgs_cons (pg_name (i := 6) scChN.nd rfl (Or.inl rfl)) (pgs_cons (pg_name (i := 7) scChN.nd rfl (Or.inl rfl)) (pgs_cons (pg_name (i := 8) scChN.nd rfl (Or.inl rfl)) pgs_nil))))) (fun _ _ _ _ _ => pts_nil) (fun _ _ _ _ _ => (pv 6))) pa_nil)))))
  (pss_cons (ps_expr (pe_callH GU hr1 rfl pass0 (pa_cons (pv 5) pa_nil)))
  (pss_cons (ps_for PassesOwn.never rfl (pi_tup (pv 4)) (pg_name (i := 9) scChN.nd rfl (Or.inl rfl))
  (pss_cons (ps_asg (pe_callH GO hr rfl pass0 (pa_cons (pv 0) (pa_cons (pv 9) pa_nil))) (pg_tup (by rfl) (pgs_cons (pg_name (i := 7) scChN.nd rfl (Or.inl rfl)) (pgs_cons (pg_name (i := 10) scChN.nd rfl (Or.inl rfl)) pgs_nil))))
  (pss_one (ps_expr (pe_callH GU hr1 rfl pass0 (pa_cons (pe_lst (StX.pa_star (pv 5) (StX.pa_star (pv 7) (StX.pa_star (pv 10) pa_nil)))) pa_nil))))))
  (pss_cons (ps_for PassesOwn.never rfl (pi_tup (pv 3)) (pg_tup (by rfl) (pgs_cons (pg_name (i := 11) scChN.nd rfl (Or.inl rfl)) (pgs_cons (pg_name (i := 12) scChN.nd rfl (Or.inl rfl)) pgs_nil)))
  (pss_one (ps_for PassesOwn.never rfl (pi_tup (pv 12)) (pg_tup (by rfl) (pgs_cons (pg_name (i := 6) scChN.nd rfl (Or.inl rfl)) (pgs_cons (pg_name (i := 13) scChN.nd rfl (Or.inl rfl)) pgs_nil)))
  (pss_one (ps_if (pt_cmpR op_notIn_seq (pv 6) (pv 1) (by rfl))
  (pss_one ps_never)
  pss_nil)))))
  (pss_one (ps_for PassesOwn.never rfl (pi_tup (pv 4)) (pg_name (i := 9) scChN.nd rfl (Or.inl rfl))
  (pss_cons (ps_asg (pe_callH GO hr rfl pass0 (pa_cons (pv 0) (pa_cons (pv 9) pa_nil))) (pg_tup (by rfl) (pgs_cons (pg_name (i := 7) scChN.nd rfl (Or.inl rfl)) (pgs_cons (pg_name (i := 10) scChN.nd rfl (Or.inl rfl)) pgs_nil))))
  (pss_cons (ps_set (i := 14) scChN.nd rfl (Or.inl rfl) (pe_disp (pps_cons pe_str (pe_lst (StX.pa_star (pv 1) (StX.pa_star (pv 7) (StX.pa_star (pv 10) pa_nil)))) (pps_cons pe_str (pv 2) (pps_cons pe_str (pe_slice sl_list (pv 5) (po_some (pe_op op_add (pe_callB call_len_seq (by rfl) T.n_len bb_len (pa_cons (pv 1) pa_nil)) (pe_callB call_len_seq (by rfl) T.n_len bb_len (pa_cons (pv 2) pa_nil)))) po_none) pps_nil))) (by rfl) (by rfl) (by decide) (by decide)))
  (pss_one (ps_for PassesOwn.never rfl (pi_list (pe_callH GA hr4 rfl pass0 (pa_cons (pe_ix (r := rIxT K) ix_tup (pv 9) pe_int (fun _ _ => rfl)) (pa_cons pe_int pa_nil)))) (pg_tup (by rfl) (pgs_cons (pg_name (i := 15) scChN.nd rfl (Or.inl rfl)) (pgs_cons (pg_name (i := 16) scChN.nd rfl (Or.inl rfl)) pgs_nil)))
  (pss_one (ps_expr (pe_callH GS hr5 rfl pass0 (pa_cons (pv 0) (pa_cons (pv 14) (pa_cons (pv 15) (pa_cons (pv 16) pa_nil)))))))))))))))))), ?_⟩
    obtain ⟨okn, okk, oke, lf, okf⟩ := ok
    have hv0 := hv
    have hv : Dp K H v (.tuple [nmD t.names, nmD t.kinds, .tuple (t.keeps.map exD), .tuple (t.fns.map fnD)]) := hv
    obtain ⟨a, xs, rfl, hq, hd⟩ := hv.tupInv
    obtain ⟨x, y, z, u, rfl, hx, hy, hz, hu⟩ := hd.four
    obtain ⟨b1, ys1, rfl, hb1, hd1⟩ := hx.tupInv
    obtain ⟨b2, ys2, rfl, hb2, hd2⟩ := hy.tupInv
    obtain ⟨b3, ys3, rfl, hb3, hd3⟩ := hz.tupInv
    obtain ⟨c, zs, rfl, hc, hzd⟩ := hu.tupInv
    have pf := DpAll.map hzd
    have pk := DpAll.map hd3
    have e1 : ys1 = t.names.map V.str := dp_strs hd1
    have e2 : ys2 = t.kinds.map V.str := dp_strs hd2
    subst e1 e2
    have lz : zs.length = t.fns.length := Paired.length pf
    have lF := sm.fns
    have lN := sm.names
    have lK := sm.kinds
    refine ⟨_, rfl, a, _, rfl, hq, rfl, _, _, rfl, _, _, rfl, _, _, rfl, _, _, rfl, rfl, ?_⟩
    refine ⟨_, rfl, b1, _, rfl, .inl hb1, _, rfl, b2, _, rfl, .inl hb2, ?_⟩
    refine ⟨_, rfl, c, rfl, ⟨_, hc⟩, fun D hD => ?_⟩
    refine lc_tup (K := K) (a := c) (xs := zs) (fun i H' => Same H H' ∧ H' D = some (.lst (((t.fns.take i).map Fn.name).map V.str))) ⟨same_new hD, upd_same⟩ (fun i H' _ h' => SqT.same h'.1 hc) ?_ ?_
    · rintro i x H1 hx ⟨s1, eD⟩
      obtain ⟨fn, hfn, hfd⟩ := Paired.at pf hx
      have hi : i < zs.length := (List.getElem?_eq_some_iff.mp hx).1
      have hfd : Dp K H x (.tuple [.str fn.name, .tuple (fn.ps.map prD), blD fn.b]) := hfd
      obtain ⟨d, ds, rfl, hd5, hdd⟩ := hfd.tupInv
      obtain ⟨u1, u2, u3, rfl, g1, _, _⟩ := hdd.three
      rw [g1.strInv] at hd5
      refine ⟨d, _, rfl, SqT.same s1 hd5, rfl, _, _, rfl, _, _, rfl, _, _, rfl, rfl, wipe3 (by decide) (by decide) (by decide), ?_⟩
      refine ⟨V.str fn.name, by kernel_rfl, _, eD, small1000 (by rw [List.length_map, List.length_map, List.length_take]; omega), fun c o z => ?_, ?_⟩
      · rw [upd_ne (ne_of_none z hD)]
        exact s1 _ _ z
      · rw [upd_same, take_snoc hfn, List.map_append, List.map_append]
        rfl
    · rintro H1 ⟨s1, eD⟩
      rw [lz, List.take_length] at eD
      refine ⟨D, _, rfl, .inr (SqL.of eD), ?_⟩
      have eev : t.names.map V.str ++ (t.kinds.map V.str ++ ((t.fns.map Fn.name).map V.str ++ [])) = (evT t).map V.str := by
        unfold evT
        rw [List.append_nil, List.map_append, List.map_append]
      have lev : (evT t).length ≤ 13 := by
        unfold evT
        rw [List.length_append, List.length_append, List.length_map]
        omega
      refine ⟨Nat.le_of_lt (small1000 (by rw [eev, List.length_map]; omega)), fun q hq1 => ?_⟩
      have s2 := same_new (o := .lst (t.names.map V.str ++ (t.kinds.map V.str ++ ((t.fns.map Fn.name).map V.str ++ [])))) hq1
      obtain ⟨G1, eG1⟩ : ∃ G, G = upd H1 q (.lst (t.names.map V.str ++ (t.kinds.map V.str ++ ((t.fns.map Fn.name).map V.str ++ [])))) := ⟨_, rfl⟩
      have eq : G1 q = some (.lst ((evT t).map V.str)) := by rw [eG1, upd_same, eev]
      rw [← eG1] at s2 ⊢
      have s3 := s1.trans s2
      refine ⟨_, rfl, q, evT t, rfl, SqL.of eq, nt.nd, fun G2 s4 => ?_⟩
      have s5 := s3.trans s4
      have eq := s4 _ _ eq
      clear eG1 hq1 s2 s3 s4 s1 eD
      refine ⟨_, rfl, c, rfl, ⟨_, SqT.same s5 hc⟩, ?_⟩
      refine for_tup (K := K) (a := c) (xs := zs) (fun i σ H' => Same G2 H' ∧ ∃ x7 x9 x10 : Option V, σ = [some (.ref a), some (.ref b1), some (.ref b2), some (.ref b3), some (.ref c), some (.ref q), none, x7, none, x9, x10, none, none, none, none, none, none]) ⟨Same.refl _, _, _, _, rfl⟩ (fun j σ H' _ h' => SqT.same (s5.trans h'.1) hc) ?_ ?_
      · rintro i x σ H3 hx ⟨s6, x7, x9, x10, rfl⟩
        obtain ⟨fn, hfn, hfd⟩ := Paired.at pf hx
        have mf := List.mem_of_getElem? hfn
        have sz1 := sm.sz1 mf
        have ps1 := sm.ps fn mf
        have in1 := sm.inn fn mf
        have s7 := s5.trans s6
        refine ⟨_, rfl, _, rfl, _, x, t, fn, rfl, hv0.same s7, okn.1, hfd.same s7, okf fn mf, by omega, by omega, fun r a' c' H4 s8 f1 f2 f3 ne e1 e2 e3 => ?_⟩
        refine ⟨r, _, rfl, SqT.of e1, rfl, _, _, rfl, _, _, rfl, rfl, ?_⟩
        refine ⟨_, rfl, q, _, rfl, .inr (SqL.of ((s6.trans s8) _ _ eq)), _, rfl, a', _, rfl, .inr (SqL.of e2), _, rfl, c', _, rfl, .inr (SqL.of e3), ?_⟩
        have el : (evT t).map V.str ++ ((prs fn).map V.str ++ ((innerF t.names (prs fn) fn.b).map V.str ++ [])) = (evT t ++ (prs fn ++ innerF t.names (prs fn) fn.b)).map V.str := by
          rw [List.append_nil, List.map_append, List.map_append]
        have lpr : (prs fn).length ≤ 3 := by unfold prs; rw [List.length_map]; exact ps1
        refine ⟨Nat.le_of_lt (small1000 (by rw [el, List.length_map, List.length_append, List.length_append]; omega)), fun q2 hq2 => ?_⟩
        have s9 := same_new (o := .lst ((evT t).map V.str ++ ((prs fn).map V.str ++ ((innerF t.names (prs fn) fn.b).map V.str ++ [])))) hq2
        refine ⟨q2, _, rfl, SqL.of (by rw [← el]; exact upd_same), nt.nd2 fn mf, fun G5 s10 => ?_⟩
        exact ⟨((s6.trans s8).trans s9).trans s10, _, _, _, rfl⟩
      · rintro σ H3 ⟨s6, x7, x9, x10, rfl⟩
        have s7 := s5.trans s6
        have eq := s6 _ _ eq
        refine ⟨_, rfl, b3, rfl, ⟨_, SqT.same s7 hb3⟩, ?_⟩
        refine for_tup (K := K) (a := b3) (xs := ys3) (fun i σ H' => Same H3 H' ∧ ∃ x6 x11 x12 x13 : Option V, σ = [some (.ref a), some (.ref b1), some (.ref b2), some (.ref b3), some (.ref c), some (.ref q), x6, x7, none, x9, x10, x11, x12, x13, none, none, none]) ⟨Same.refl _, _, _, _, _, rfl⟩ (fun j σ H' _ h' => SqT.same (s7.trans h'.1) hb3) ?_ ?_
        · rintro i x σ H4 hx ⟨s8, x6, x11, x12, x13, rfl⟩
          obtain ⟨e, he, hed⟩ := Paired.at pk hx
          have me := List.mem_of_getElem? he
          have hed : Dp K H x (.tuple [.int e.c, .tuple (e.ts.map fun p => .tuple [.str p.1, .int p.2])]) := hed
          obtain ⟨d, ds, rfl, hd1, hdd⟩ := hed.tupInv
          obtain ⟨u1, u2, rfl, g1, g2⟩ := hdd.two
          obtain ⟨b4, ts, rfl, hb4, hbd4⟩ := g2.tupInv
          have pt := DpAll.map hbd4
          have s9 := s7.trans s8
          refine ⟨d, _, rfl, SqT.same s9 hd1, rfl, _, _, rfl, _, _, rfl, rfl, ?_⟩
          refine ⟨_, rfl, b4, rfl, ⟨_, SqT.same s9 hb4⟩, ?_⟩
          refine for_tup (K := K) (a := b4) (xs := ts) (fun i σ H' => H' = H4 ∧ ∃ x6 x13 : Option V, σ = [some (.ref a), some (.ref b1), some (.ref b2), some (.ref b3), some (.ref c), some (.ref q), x6, x7, none, x9, x10, some u1, some (.ref b4), x13, none, none, none]) ⟨rfl, _, _, rfl⟩ (fun j σ H' _ h' => by rw [h'.1]; exact SqT.same s9 hb4) ?_ ?_
          · rintro j y σ H5 hy ⟨rfl, x6, x13, rfl⟩
            obtain ⟨pr, ht, htd⟩ := Paired.at pt hy
            obtain ⟨c3, zs3, rfl, hc3, hcd3⟩ := htd.tupInv
            obtain ⟨u, w, rfl, hu, hw⟩ := hcd3.two
            rw [hu.strInv, hw.intInv] at hc3
            refine ⟨c3, _, rfl, SqT.same s9 hc3, rfl, _, _, rfl, _, _, rfl, rfl, ?_⟩
            refine ⟨_, rfl, _, rfl, b1, _, rfl, .inr (SqT.same s9 hb1), rfl, flat_strs _, _, rfl, iteE (by rw [if_pos rfl, inV_mem, decide_eq_true (nt.kp e me pr (List.mem_of_getElem? ht))]; rfl) ?_⟩
            exact ⟨rfl, _, _, rfl⟩
          · rintro σ H5 ⟨rfl, x6, x13, rfl⟩
            exact ⟨s8, _, _, _, _, rfl⟩
        · rintro σ H4 ⟨s8, x6, x11, x12, x13, rfl⟩
          have s9 := s7.trans s8
          have eq := s8 _ _ eq
          refine ⟨_, rfl, c, rfl, ⟨_, SqT.same s9 hc⟩, ?_⟩
          refine for_tup (K := K) (a := c) (xs := zs) (fun i σ H' => Same H4 H' ∧ ∃ x7 x9 x10 x14 x15 x16 : Option V, σ = [some (.ref a), some (.ref b1), some (.ref b2), some (.ref b3), some (.ref c), some (.ref q), x6, x7, none, x9, x10, x11, x12, x13, x14, x15, x16]) ⟨Same.refl _, _, _, _, _, _, _, rfl⟩ (fun j σ H' _ h' => SqT.same (s9.trans h'.1) hc) ?_ ?_
          · rintro i x σ H5 hx ⟨s10, x7, x9, x10, x14, x15, x16, rfl⟩
            obtain ⟨fn, hfn, hfd⟩ := Paired.at pf hx
            have mf := List.mem_of_getElem? hfn
            have sz1 := sm.sz1 mf
            have ps1 := sm.ps fn mf
            have in1 := sm.inn fn mf
            have okn := okf fn mf
            have s11 := s9.trans s10
            refine ⟨_, rfl, _, rfl, _, x, t, fn, rfl, hv0.same s11, by omega, hfd.same s11, okf fn mf, by omega, by omega, fun r a' c' H6 s12 f1 f2 f3 ne e1 e2 e3 => ?_⟩
            refine ⟨r, _, rfl, SqT.of e1, rfl, _, _, rfl, _, _, rfl, rfl, ?_⟩
            have s13 := s11.trans s12
            have lpr : (prs fn).length ≤ 3 := by unfold prs; rw [List.length_map]; exact ps1
            intro dk hdk
            have s14 := s13.trans (same_new (o := .dK []) hdk)
            have k67 := same_new (o := .dK []) hdk
            have edk : upd H6 dk (.dK []) dk = some (.dK []) := upd_same
            have ea6 := (same_new (o := .dK []) hdk) _ _ e2
            have ec6 := (same_new (o := .dK []) hdk) _ _ e3
            have eq6 := (same_new (o := .dK []) hdk) _ _ ((s10.trans s12) _ _ eq)
            generalize upd H6 dk (.dK []) = H7 at *
            refine ⟨_, rfl, b1, _, rfl, .inl (SqT.same s14 hb1), _, rfl, a', _, rfl, .inr (SqL.of ea6), _, rfl, c', _, rfl, .inr (SqL.of ec6), ?_⟩
            have el : t.names.map V.str ++ ((prs fn).map V.str ++ ((innerF t.names (prs fn) fn.b).map V.str ++ [])) = (vnT t fn).map V.str := by
              unfold vnT
              rw [List.append_nil, List.map_append, List.map_append]
            refine ⟨Nat.le_of_lt (small1000 (by rw [el, List.length_map]; unfold vnT; rw [List.length_append, List.length_append]; omega)), fun qv hqv => ?_⟩
            have s15 := same_new (o := .lst (t.names.map V.str ++ ((prs fn).map V.str ++ ((innerF t.names (prs fn) fn.b).map V.str ++ [])))) hqv
            have ev : upd H7 qv (.lst (t.names.map V.str ++ ((prs fn).map V.str ++ ((innerF t.names (prs fn) fn.b).map V.str ++ [])))) qv = some (.lst ((vnT t fn).map V.str)) := by rw [upd_same, el]
            have edk := s15 _ _ edk
            have eq7 := s15 _ _ eq6
            have s16 := s14.trans s15
            generalize upd H7 qv (.lst (t.names.map V.str ++ ((prs fn).map V.str ++ ((innerF t.names (prs fn) fn.b).map V.str ++ [])))) = H8 at *
            refine ⟨_, rfl, _, rfl, _, rfl, b1, _, rfl, .inr (SqT.same s16 hb1), _, rfl, b2, _, rfl, .inr (SqT.same s16 hb2), _, _, rfl, rfl, _, rfl, q, _, rfl, SqL.of eq7, fun qf hqf => ?_⟩
            have lsum : ((t.names.map V.str).length : Int) + ((t.kinds.map V.str).length : Int) = ((t.names.length + t.kinds.length : Nat) : Int) := by rw [List.length_map, List.length_map]; omega
            have ecut : cutV ((evT t).map V.str) (some (((t.names.map V.str).length : Int) + ((t.kinds.map V.str).length : Int))) none = (t.fns.map Fn.name).map V.str := by
              rw [lsum, cut_drop, ← List.map_drop]
              unfold evT
              rw [← List.append_assoc, ← List.length_append, List.drop_left]
            have s17 := same_new (o := .lst (cutV ((evT t).map V.str) (some (((t.names.map V.str).length : Int) + ((t.kinds.map V.str).length : Int))) none)) hqf
            have ef : upd H8 qf (.lst (cutV ((evT t).map V.str) (some (((t.names.map V.str).length : Int) + ((t.kinds.map V.str).length : Int))) none)) qf = some (.lst ((t.fns.map Fn.name).map V.str)) := by rw [upd_same, ecut]
            have edk := s17 _ _ edk
            have ev := s17 _ _ ev
            have eq8 := s17 _ _ eq7
            have s18 := s16.trans s17
            generalize upd H8 qf (.lst (cutV ((evT t).map V.str) (some (((t.names.map V.str).length : Int) + ((t.kinds.map V.str).length : Int))) none)) = H9 at *
            have nd : dk ≠ qv ∧ dk ≠ qf ∧ dk ≠ q := ⟨ne_of edk ev (by intro z; cases z), ne_of edk ef (by intro z; cases z), ne_of edk eq8 (by intro z; cases z)⟩
            refine ⟨edk, [(.inr wv, .ref qv), (.inr wk, .ref b2), (.inr wf, .ref qf)], rfl, (by show 3 ≤ 15; decide), ?_⟩
            have em : mergeK [] [((.inr wv : Key), V.ref qv), (.inr wk, .ref b2), (.inr wf, .ref qf)] = [(.inr wv, .ref qv), (.inr wk, .ref b2), (.inr wf, .ref qf)] := by kernel_rfl
            rw [em]
            have sG : Same H6 (upd H9 dk (.dK [(.inr wv, .ref qv), (.inr wk, .ref b2), (.inr wf, .ref qf)])) := fun b o z => by
              rw [upd_ne (ne_of_none z hdk)]
              exact s17 _ _ (s15 _ _ (k67 _ _ z))
            have kn : KnAt K (upd H9 dk (.dK [(.inr wv, .ref qv), (.inr wk, .ref b2), (.inr wf, .ref qf)])) (.ref dk) (vnT t fn) t.kinds (t.fns.map Fn.name) := by
              refine ⟨dk, qv, b2, qf, rfl, upd_same, ?_, SqT.same sG (SqT.same s13 hb2), ?_⟩
              · rw [upd_ne nd.1.symm]; exact ev
              · rw [upd_ne nd.2.1.symm]; exact ef
            have s19 := s13.trans sG
            have sH := (s10.trans s12).trans sG
            clear em ecut lsum el s18 s17 s16 s15 s14 k67 hqf hqv
            generalize upd H9 dk (.dK [(.inr wv, .ref qv), (.inr wk, .ref b2), (.inr wf, .ref qf)]) = H10 at *
            have hfd2 : Dp K H x (.tuple [.str fn.name, .tuple (fn.ps.map prD), blD fn.b]) := hfd
            obtain ⟨fa, fs, rfl, hfa, hfdd⟩ := hfd2.tupInv
            obtain ⟨v1, v2, v3, rfl, _, _, w3⟩ := hfdd.three
            refine ⟨_, rfl, fa, _, _, _, rfl, rfl, SqT.same s19 hfa, rfl, v3, fn.b, 0, rfl, w3.same s19, okn.2.2.2.1, okn.2.2.1, by omega, fun L ls H11 s20 nL eL pL => ?_⟩
            refine ⟨L, rfl, ⟨_, SqL.of eL⟩, ?_⟩
            refine for_list (K := K) (a := L) (xs := ls) (fun i σ H' => Same H11 H' ∧ ∃ x15 x16 : Option V, σ = [some (.ref a), some (.ref b1), some (.ref b2), some (.ref b3), some (.ref c), some (.ref q), x6, some (.ref a'), none, some (.ref fa), some (.ref c'), x11, x12, x13, some (.ref dk), x15, x16]) ⟨Same.refl _, _, _, rfl⟩ (fun j σ H' _ h' => SqL.of (h'.1 _ _ eL)) ?_ ?_
            · rintro i y σ H12 hy ⟨s21, x15, x16, rfl⟩
              obtain ⟨⟨num, st⟩, hp, b, u, rfl, hb, hpd⟩ := Paired.at pL hy
              have mp := List.mem_of_getElem? hp
              obtain ⟨st1, st2, st3⟩ := nt.st fn mf _ mp
              have le := le_allB fn.b 0 _ mp
              have oks := ok_allB fn.b 0 okn.2.2.1.2 _ mp
              have db := dpB_eq fn.b
              have dn := okn.2.2.2.1
              simp only at le
              refine ⟨b, _, rfl, SqT.same s21 hb, rfl, _, _, rfl, _, _, rfl, rfl, ?_⟩
              refine ⟨_, rfl, _, rfl, _, rfl, _, rfl, .ref a, .ref dk, u, (num : Int), t, vnT t fn, t.kinds, t.fns.map Fn.name, st, rfl, hv0.same ((s19.trans s20).trans s21), kn.same (s20.trans s21), hpd.same s21, oks, by omega, by omega, st1, st2, st3, fun H13 s22 => ?_⟩
              exact ⟨s21.trans s22, _, _, rfl⟩
            · rintro σ H12 ⟨s21, x15, x16, rfl⟩
              exact ⟨(sH.trans s20).trans s21, _, _, _, _, _, _, rfl⟩
          · rintro σ H5 ⟨s10, _⟩
            exact k _ (s9.trans s10)
end

/-! ### class Program -/
abbrev sPIni : Stmt := inClass (topS 63) 0
abbrev NPIni : List Str := ["self", "tree"]
abbrev PPIni : List Str := ["self", "tree"]
theorem scPIni : FnScope NPIni PPIni (defScope sPIni) := ⟨rfl, rfl, rfl, by decide +kernel, rfl, by decide +kernel, by decide +kernel⟩
/-- a program at a -/
def PrgAt (K : PySem.W.Frag) (C : Addr) (H : Hp) (a : Addr) (t : Tr) : Prop := ∃ dx v g, H a = some (.ins C dx [("content", v), ("globals", g)]) ∧ Dp K H v (trD t) ∧ Dp K H g (nmD t.names)
theorem noL_pr (p : Str × Bool) : noL (prD p) = true := rfl
theorem noL_fn (f : Fn) : noL (fnD f) = true := by
  simp only [fnD, noL, noLs, noL_bl, Bool.true_and, Bool.and_true]
  exact noLs_map noL_pr _
theorem noL_tr (t : Tr) : noL (trD t) = true := by
  simp only [trD, noL, noLs, noL_nm, Bool.true_and, Bool.and_true]
  rw [noLs_map noL_ex, noLs_map noL_fn]
  rfl
theorem PrgAt.same {K : PySem.W.Frag} {C : Addr} {H H' : Hp} (s : Same H H') {a : Addr} {t : Tr} (h : PrgAt K C H a t) : PrgAt K C H' a t :=
  let ⟨dx, v, g, h1, h2, h3⟩ := h
  ⟨dx, v, g, s _ _ h1, h2.same s, h3.same s⟩
theorem PrgAt.tps {K : PySem.W.Frag} {C : Addr} {H H' : Hp} {a : Addr} (h0 : H' a = H a) (s : Tps H H') {t : Tr} (h : PrgAt K C H a t) : PrgAt K C H' a t :=
  let ⟨dx, v, g, h1, h2, h3⟩ := h
  ⟨dx, v, g, h0.trans h1, h2.tps s (noL_tr t), h3.tps s (noL_nm _)⟩
/-- a tree that Program takes -/
structure TreeOk (n : Nat) (t : Tr) : Prop where
  ok : okTr n t
  sm : SmallT t
  nm : NamT t
structure TxPrg (K : PySem.W.Frag) (C : Addr) : Prop where
  cl : Cls K C
  nC : NoAttr K C "content"
  nG : NoAttr K C "globals"
def spPIni (K : PySem.W.Frag) (C : Addr) (n : Nat) : Sp := fun vs H Q _ => ∃ (S dx : Addr) (v : V) (t : Tr), vs = [.ref S, v] ∧ H S = some (.ins C dx []) ∧ Dp K H v (trD t) ∧ TreeOk n t ∧
  ∀ H', PrgAt K C H' S t → (∀ b o, H b = some o → b ≠ S → H' b = some o) → Q .non H'
section
variable {P : Program} {w : World} {K : PySem.W.Frag} {mg : Str → Option Value} {base : Heap} {C : Addr}
theorem ok_PIni {n : Nat} {f : Addr} {fd : FuncData} (F : Fun K "__init__" "Program.__init__" sPIni f fd) (TC : TxPrg K C) (GT : Has P w K mg base CX0 (6 + 3 * n + 1) "is_tree" PIsTree (spIsTree K n)) (GS : Has P w K mg base CX0 (4 + n + 1 + 1 + 1) "check_sizes" PChS (spChS K n)) (GN : Has P w K mg base CX0 (4 + n + 1 + 1 + 1) "check_names" PChN (spChN K n)) : FnOk P w K mg base CX0 (6 + 3 * n + 1 + 1) f fd PPIni (spPIni K C n) := by
  refine F.ok scPIni (fun vs H Q E h => ?_) (fun cdv A outer s H vs Q E hr h => ?_)
  · obtain ⟨S, dx, v, t, rfl, _⟩ := h
    rfl
  · obtain ⟨S, dx, v, t, rfl, e1, hv, ⟨ok, sm, nt⟩, k⟩ := h
    have hr7 := hr.mono (j := 4 + n + 1 + 1 + 1) (by omega)
    refine ⟨_, (pss_cons (ps_if (pt_not (pt_val (pe_callH GT hr rfl pass0 (pa_cons (pv 1) pa_nil))))
  (pss_one ps_never)
  pss_nil)
  (pss_cons (ps_expr (pe_callH GS hr7 rfl pass0 (pa_cons (pv 1) pa_nil)))
  (pss_cons (ps_expr (pe_callH GN hr7 rfl pass0 (pa_cons (pv 1) pa_nil)))
  (pss_cons (ps_fld (pv 0) (pv 1) rfl)
  (pss_one (ps_fld (pv 0) (pe_ix (r := rIxT K) ix_tup (pv 1) pe_int (fun _ _ => rfl)) rfl)))))), ?_⟩
    refine ⟨_, rfl, v, t, rfl, hv, ok, fun H1 s1 => ⟨true, rfl, ?_⟩⟩
    refine ⟨_, rfl, v, t, rfl, hv.same s1, ok, sm, fun H2 s2 => ?_⟩
    refine ⟨_, rfl, v, t, rfl, hv.same (s1.trans s2), ok, sm, nt, fun H3 s3 => ?_⟩
    have s4 := (s1.trans s2).trans s3
    have hv4 := hv.same s4
    have hv5 : Dp K H3 v (.tuple [nmD t.names, nmD t.kinds, .tuple (t.keeps.map exD), .tuple (t.fns.map fnD)]) := hv4
    obtain ⟨a, xs, rfl, hq, hd⟩ := hv5.tupInv
    obtain ⟨x, y, z, u, rfl, hx, _, _, _⟩ := hd.four
    have e3 := s4 _ _ e1
    have tp : Tps H3 (upd H3 S (.ins C dx (putF "content" (.ref a) []))) := Tps.ins e3
    refine ⟨_, rfl, _, rfl, S, C, dx, [], rfl, e3, TC.cl, TC.nC, (by show 0 < 1000; decide), ?_⟩
    have e4 : upd H3 S (.ins C dx (putF "content" (.ref a) [])) S = some (.ins C dx (putF "content" (.ref a) [])) := upd_same
    refine ⟨_, rfl, a, _, _, _, rfl, rfl, tp.sqt hq, rfl, _, rfl, S, C, dx, _, rfl, e4, TC.cl, TC.nG, (by show 1 < 1000; decide), ?_⟩
    have tp2 : Tps (upd H3 S (.ins C dx (putF "content" (.ref a) []))) (upd (upd H3 S (.ins C dx (putF "content" (.ref a) []))) S (.ins C dx (putF "globals" x (putF "content" (.ref a) [])))) := Tps.ins e4
    refine k _ ⟨dx, .ref a, x, ?_, (hv4.tps tp (noL_tr t)).tps tp2 (noL_tr t), (hx.tps tp (noL_nm _)).tps tp2 (noL_nm _)⟩ fun b o z hb => ?_
    · rw [upd_same]
      kernel_rfl
    · rw [upd_ne hb, upd_ne hb]
      exact s4 _ _ z
end

/-! ### the law's drawn programs: expressions, args, calls -/
abbrev sLEx : Stmt := topS 69
abbrev NLEx : List Str := ["_law_pool_here", "_law_names_here", "_law_great", "_law_terms", "_law_name", "_law_factor"]
abbrev PLEx : List Str := ["_law_pool_here", "_law_names_here", "_law_great"]
theorem scLEx : FnScope NLEx PLEx (defScope sLEx) := ⟨rfl, rfl, rfl, by decide +kernel, rfl, by decide +kernel, by decide +kernel⟩
theorem bb_sorted : bootBuiltins "sorted" = some (.builtin "sorted") := by decide +kernel
structure TxGen (mg : Str → Option Value) : Prop where
  n_sorted : mg "sorted" = none
  n_tuple : mg "tuple" = none
  n_range : mg "range" = none
  n_len : mg "len" = none
theorem nl_tr {a b c : List Nat} (h1 : ¬ b < a) (h2 : ¬ c < b) : ¬ c < a := fun h => (List.le_trans (α := Nat) h1 h2) h
theorem rise_pw : ∀ (l : List Str) (p : Str), PyProof.Rows.risingS p l = true → (p :: l).Pairwise fun a b => ¬ b.cps.toList < a.cps.toList
  | [], p, _ => List.pairwise_singleton _ _
  | x :: r, p, h => by
    have h : (!PySem.Spec.ltCps x.cps.toList p.cps.toList && PyProof.Rows.risingS x r) = true := h
    rw [Bool.and_eq_true, Bool.not_eq_true', PyProof.Rows.ltCps_eq, decide_eq_false_iff_not] at h
    have ih := rise_pw r x h.2
    refine List.pairwise_cons.mpr ⟨fun y hy => ?_, ih⟩
    rcases List.mem_cons.mp hy with rfl | hy
    · exact h.1
    · exact nl_tr h.1 ((List.pairwise_cons.mp ih).1 y hy)
def asc (a b : Str) : Prop := a.cps.toList < b.cps.toList
theorem sort_asc {l : List Str} (h : PyProof.Rows.sortedS l = true) (nd : l.Nodup) : l.Pairwise asc := by
  have pw : l.Pairwise fun a b => ¬ b.cps.toList < a.cps.toList := by
    cases l with
    | nil => exact .nil
    | cons x r => exact rise_pw r x h
  refine (List.Pairwise.and pw nd).imp fun {a b} ⟨h1, h2⟩ => ?_
  unfold asc
  rcases Classical.em (a.cps.toList < b.cps.toList) with z | z
  · exact z
  · exact absurd (TL.ext_tl (List.le_antisymm (α := Nat) h1 z)) h2
/-- an expression over some names, with small numbers -/
structure EX (own : List Str) (e : Ex) : Prop where
  c : -3 ≤ e.c ∧ e.c ≤ 3
  nm : ∀ p ∈ e.ts, p.1 ∈ own ∧ p.2 ≠ 0 ∧ -4 ≤ p.2 ∧ p.2 ≤ 4
  up : (e.ts.map Prod.fst).Pairwise asc
  ln : e.ts.length ≤ own.length
theorem But.tps {p c : Addr} {H H' : Hp} {lim : V} {n : Nat} (b : But p c H H') (P0 : PoolAt H p c lim n) : Tps H H' := by
  obtain ⟨i, cs, cn, sd, md, e1, e2, _⟩ := P0
  exact ⟨fun a xs e => b _ _ e (ne_of e e1 (by intro z; cases z)) (ne_of e e2 (by intro z; cases z)), fun a o xs e => b _ _ e (ne_of e e1 (by intro z; cases z)) (ne_of e e2 (by intro z; cases z))⟩
theorem But.of {p c : Addr} {H H' : Hp} (s : Same H H') : But p c H H' := fun b o e _ _ => s b o e
def spLEx (K : PySem.W.Frag) : Sp := fun vs H Q _ => ∃ (p c nl : Addr) (lim : V) (n : Nat) (own : List Str), vs = [.ref p, .ref nl, .int 4] ∧ PoolAt H p c lim n ∧ n + 100 < 1000000000000 ∧ H nl = some (.lst (own.map V.str)) ∧ nl ≠ p ∧ nl ≠ c ∧ own.Nodup ∧ own.length < 60 ∧
  ∀ (v : V) (e : Ex) (H' : Hp), EX own e → Dp K H' v (exD e) → PoolAt H' p c lim (n + own.length + 1) → But p c H H' → Q v H'
section
variable {P : Program} {w : World} {K : PySem.W.Frag} {mg : Str → Option Value} {base : Heap}
theorem fac_in {r : Int} (r0 : 0 ≤ r) (r1 : r < 7) : ∃ f : Int, atI [V.int 0, V.int 0, V.int 1, V.int (-1), V.int 2, V.int (-3), V.int 4] r = some (V.int f) ∧ -4 ≤ f ∧ f ≤ 4 := by
  have : r = 0 ∨ r = 1 ∨ r = 2 ∨ r = 3 ∨ r = 4 ∨ r = 5 ∨ r = 6 := by omega
  rcases this with rfl | rfl | rfl | rfl | rfl | rfl | rfl
  · exact ⟨0, rfl, by decide, by decide⟩
  · exact ⟨0, rfl, by decide, by decide⟩
  · exact ⟨1, rfl, by decide, by decide⟩
  · exact ⟨-1, rfl, by decide, by decide⟩
  · exact ⟨2, rfl, by decide, by decide⟩
  · exact ⟨-3, rfl, by decide, by decide⟩
  · exact ⟨4, rfl, by decide, by decide⟩
theorem ok_LEx {f : Addr} {fd : FuncData} (F : Fun K "_law_expression" "_law_expression" sLEx f fd) (T : TxGen mg) (GD : Has P w K mg base CX0 2 "_law_draw" PDraw spDraw) : FnOk P w K mg base CX0 3 f fd PLEx (spLEx K) := by
  refine F.ok scLEx (fun vs H Q E h => ?_) (fun cdv A outer s H vs Q E hr h => ?_)
  · obtain ⟨p, c, nl, lim, n, own, rfl, _⟩ := h
    rfl
  · obtain ⟨p, c, nl, lim, n, own, rfl, P0, hn, hnl, np, nc, nd, l60, k⟩ := h
    refine ⟨_, (pss_cons (ps_set (i := 3) scLEx.nd rfl (Or.inl rfl) (pe_lst pa_nil))
  (pss_cons (ps_for PassesOwn.never rfl (pi_list (pe_callB cr_sortedS (by rfl) T.n_sorted bb_sorted (pa_cons (pv 1) pa_nil))) (pg_name (i := 4) scLEx.nd rfl (Or.inl rfl))
  (pss_cons (ps_set (i := 5) scLEx.nd rfl (Or.inl rfl) (pe_ix (r := rIxL K) ix_list (pe_lst (pa_cons pe_int (pa_cons pe_int (pa_cons pe_int (pa_cons (pe_un un_neg pe_int) (pa_cons pe_int (pa_cons (pe_un un_neg pe_int) (pa_cons (pv 2) pa_nil)))))))) (pe_callH GD hr rfl pass0 (pa_cons (pv 0) (pa_cons pe_int pa_nil))) (fun _ _ => rfl)))
  (pss_one (ps_if (pt_cmpR op_ne (pv 5) pe_int (nomark _))
  (pss_one (ps_expr (pe_bm PySem.F.plainAttrs_list PySem.F.slot_list_append PySem.F.type_list_append mt_append (pv 3) (pa_cons (pe_tup (pa_cons (pv 4) (pa_cons (pv 5) pa_nil))) pa_nil))))
  pss_nil))))
  (pss_one (ps_ret (pe_tup (pa_cons (pe_op op_sub (pe_callH GD hr rfl pass0 (pa_cons (pv 0) (pa_cons pe_int pa_nil))) pe_int) (pa_cons (pe_callTy call_tuple_of (by rfl) T.n_tuple bb_tuple (pa_cons (pv 3) pa_nil)) pa_nil))))))), ?_⟩
    refine ⟨(by show 0 ≤ sizeLine; decide), fun q hq => ?_⟩
    have s1 := same_new (o := .lst []) hq
    have P1 := P0.same s1
    have qp := P0.ne1 hq
    have qc := P0.ne2 hq
    refine ⟨_, rfl, nl, own, rfl, SqL.of (s1 _ _ hnl), by omega, fun ys L perm srt hL => ?_⟩
    have Lp := P1.ne1 hL
    have Lc := P1.ne2 hL
    have s2 := same_new (o := .lst (ys.map V.str)) hL
    have qL : q ≠ L := ne_of_none upd_same hL
    have ly : ys.length = own.length := perm.length_eq
    have as := sort_asc srt (perm.nodup_iff.mpr nd)
    have L2 : upd (upd H q (.lst [])) L (.lst (ys.map V.str)) L = some (.lst (ys.map V.str)) := upd_same
    have q2 : upd (upd H q (.lst [])) L (.lst (ys.map V.str)) q = some (.lst []) := s2 _ _ upd_same
    refine ⟨L, rfl, ⟨_, SqL.of L2⟩, ?_⟩
    refine for_list (K := K) (a := L) (xs := ys.map V.str) (fun j σ H' => (∃ x4 x5 : Option V, σ = [some (.ref p), some (.ref nl), some (.int 4), some (.ref q), x4, x5]) ∧ PoolAt H' p c lim (n + j) ∧ But p c H H' ∧ H' L = some (.lst (ys.map V.str)) ∧ ∃ (us : List V) (es : List (Str × Int)), H' q = some (.lst us) ∧ us.length ≤ j ∧ Paired (fun x pr => Dp K H' x (.tuple [.str pr.1, .int pr.2])) us es ∧ (∀ pr ∈ es, pr.2 ≠ 0 ∧ -4 ≤ pr.2 ∧ pr.2 ≤ 4) ∧ (es.map Prod.fst).Sublist (ys.take j))
      ⟨⟨_, _, rfl⟩, P1.same s2, But.of (s1.trans s2), L2, [], [], q2, Nat.le_refl _, .nil, fun _ z => (nomatch z), List.Sublist.refl _⟩ (fun j σ H' _ h' => SqL.of h'.2.2.2.1) ?_ ?_
    · rintro j x σ H3 hx ⟨⟨x4, x5, rfl⟩, P3, b3, eL3, us, es, eq3, lu, pu, pe, sub⟩
      have hj : j < ys.length := by
        have := (List.getElem?_eq_some_iff.mp hx).1
        rwa [List.length_map] at this
      obtain ⟨nm, hnm⟩ : ∃ nm, ys[j]? = some nm := ⟨_, List.getElem?_eq_getElem hj⟩
      rw [List.getElem?_map, hnm] at hx
      simp only [Option.map_some, Option.some.injEq] at hx
      subst hx
      refine ⟨_, rfl, _, rfl, _, rfl, (by show 7 ≤ sizeLine; decide), fun D hD => ?_⟩
      have s3 := same_new (o := .lst [V.int 0, V.int 0, V.int 1, V.int (-1), V.int 2, V.int (-3), V.int 4]) hD
      have P4 := P3.same s3
      refine ⟨_, rfl, p, c, lim, n + j, 7, rfl, P4, by omega, by decide, by decide, fun r H4 r0 r1 P5 b5 => ?_⟩
      have eD : H4 D = some (.lst [V.int 0, V.int 0, V.int 1, V.int (-1), V.int 2, V.int (-3), V.int 4]) := b5 _ _ upd_same (P3.ne1 hD) (P3.ne2 hD)
      obtain ⟨fa, hfa, f0, f1⟩ := fac_in r0 r1
      have b4 : But p c H3 H4 := (But.of s3).trans b5
      have b6 := b3.trans b4
      have eL4 := b4 _ _ eL3 Lp Lc
      have eq4 := b4 _ _ eq3 qp qc
      have t4 : Tps H3 H4 := b4.tps P3
      have pu4 : Paired (fun x pr => Dp K H4 x (.tuple [.str pr.1, .int pr.2])) us es := Paired.mapP pu fun _ pr z => Dp.tps t4 z rfl
      have sub2 : (es.map Prod.fst).Sublist (ys.take (j + 1)) := sub.trans (List.take_sublist_take_left (Nat.le_succ j))
      refine ⟨D, _, _, _, rfl, rfl, SqL.of eD, hfa, ?_⟩
      refine ⟨_, rfl, rfl, _, rfl, ?_⟩
      by_cases hz : fa = 0
      · refine iteE (by rw [hz]; rfl) ?_
        exact ⟨⟨_, _, rfl⟩, P5, b6, eL4, us, es, eq4, by omega, pu4, pe, sub2⟩
      · refine iteS (by rw [decide_eq_false (fun z => hz (V.int.inj z))]; rfl) ?_
        refine ⟨_, rfl, .inl ⟨rfl, _, SqL.of eq4⟩, _, rfl, _, rfl, (by show 2 ≤ sizeLine; decide), fun t ht => ?_⟩
        have s5 := same_new (o := .tup [V.str nm, V.int fa]) ht
        have eq5 := s5 _ _ eq4
        refine ⟨q, _, _, rfl, rfl, eq5, small1000 (by omega), ?_⟩
        have t5 : Tps (upd H4 t (.tup [V.str nm, V.int fa])) (upd (upd H4 t (.tup [V.str nm, V.int fa])) q (.lst (us ++ [.ref t]))) := Tps.lst eq5
        have t6 := (Tps.of s5).trans t5
        refine ⟨⟨_, _, rfl⟩, (P5.same s5).upd qp qc, fun b o z h1 h2 => ?_, ?_, us ++ [.ref t], es ++ [(nm, fa)], upd_same, by rw [List.length_append]; show us.length + 1 ≤ j + 1; omega, ?_, ?_, ?_⟩
        · rw [upd_ne (ne_of_none z hq)]
          exact s5 _ _ (b6 _ _ z h1 h2)
        · rw [upd_ne qL.symm]
          exact s5 _ _ eL4
        · exact Paired.snoc (Paired.mapP pu4 fun _ pr z => Dp.tps t6 z rfl) (.tup (SqT.of (t5.1 _ _ upd_same)) (.cons (.str _) (.cons (.int _) .nil)))
        · intro pr hpr
          rcases List.mem_append.mp hpr with z | z
          · exact pe pr z
          · rw [List.mem_singleton.mp z]
            exact ⟨hz, f0, f1⟩
        · rw [List.map_append, take_snoc hnm]
          exact List.Sublist.append sub (List.Sublist.refl _)
    · rintro σ H3 ⟨⟨x4, x5, rfl⟩, P3, b3, eL3, us, es, eq3, lu, pu, pe, sub⟩
      rw [List.length_map] at P3 sub lu
      rw [List.take_length] at sub
      refine ⟨_, rfl, p, c, lim, n + ys.length, 7, rfl, P3, by omega, by decide, by decide, fun r H4 r0 r1 P4 b4 => ?_⟩
      have eq4 := b4 _ _ eq3 qp qc
      have pu4 : Paired (fun x pr => Dp K H4 x (.tuple [.str pr.1, .int pr.2])) us es := Paired.mapP pu fun _ pr z => Dp.tps (b4.tps P3) z rfl
      refine ⟨_, _, rfl, rfl, ?_⟩
      refine ⟨_, rfl, q, us, rfl, .inl ⟨SqL.of eq4, fun l hl => ?_⟩⟩
      have s5 := same_new (o := .tup us) hl
      refine ⟨(by show 2 ≤ sizeLine; decide), fun t ht => ?_⟩
      have s6 := same_new (o := .tup [V.int (r - 3), V.ref l]) ht
      have s7 := s5.trans s6
      refine k _ ⟨r - 3, es⟩ _ ⟨⟨by show -3 ≤ r - 3; omega, by show r - 3 ≤ 3; omega⟩, fun pr hpr => ?_, as.sublist sub, by rw [← ly]; have := sub.length_le; rwa [List.length_map] at this⟩ ?_ (by rw [← ly]; exact (P4.same s7)) (fun b o z h1 h2 => s7 _ _ (b4 _ _ (b3 _ _ z h1 h2) h1 h2))
      · obtain ⟨e1, e2, e3⟩ := pe pr hpr
        exact ⟨perm.mem_iff.mp (sub.subset (List.mem_map.mpr ⟨pr, hpr, rfl⟩)), e1, e2, e3⟩
      · refine .tup (SqT.of upd_same) (.cons (.int _) (.cons (.tup (SqT.of (s6 _ _ upd_same)) ?_) .nil))
        exact DpAll.ofPaired (Paired.mapP pu4 fun _ _ z => z.same s7)
end

/-! ### the law's args and calls -/
abbrev sLAr : Stmt := topS 70
abbrev NLAr : List Str := ["_law_pool_here", "_law_params", "_law_names_here", "_law_args_here", "_law_param"]
abbrev PLAr : List Str := ["_law_pool_here", "_law_params", "_law_names_here"]
theorem scLAr : FnScope NLAr PLAr (defScope sLAr) := ⟨rfl, rfl, rfl, by decide +kernel, rfl, by decide +kernel, by decide +kernel⟩
abbrev sLCa : Stmt := topS 71
abbrev NLCa : List Str := ["_law_pool_here", "_law_env", "_law_head"]
abbrev PLCa : List Str := ["_law_pool_here", "_law_env"]
theorem scLCa : FnScope NLCa PLCa (defScope sLCa) := ⟨rfl, rfl, rfl, by decide +kernel, rfl, by decide +kernel, by decide +kernel⟩
abbrev Head := Str × List (Str × Bool)
def hdaD (h : Head) : PyData := .tuple [.str h.1, .tuple (h.2.map prD)]
def WA (own : List Str) : Arg → Prop
  | .place n => n ∈ own
  | .value e => EX own e
structure WC (own : List Str) (heads : List Head) (c : Cal) : Prop where
  hd : ∃ h ∈ heads, c.1 = h.1 ∧ c.2.map isPl = h.2.map Prod.snd
  as : ∀ a ∈ c.2, WA own a
structure EnvAt (K : PySem.W.Frag) (H : Hp) (p c : Addr) (v : V) (own kinds : List Str) (heads : List Head) : Prop where
  ex : ∃ e nl kl hl hs, v = .ref e ∧ SqT K H e [.ref nl, .ref kl, .ref hl] ∧ H nl = some (.lst (own.map V.str)) ∧ H kl = some (.lst (kinds.map V.str)) ∧ H hl = some (.lst hs) ∧ Paired (fun x h => Dp K H x (hdaD h)) hs heads ∧
    (nl ≠ p ∧ nl ≠ c) ∧ (kl ≠ p ∧ kl ≠ c) ∧ (hl ≠ p ∧ hl ≠ c)
structure EnvOk (own kinds : List Str) (heads : List Head) : Prop where
  o : own.Nodup ∧ own ≠ [] ∧ own.length ≤ 8
  k : kinds ≠ [] ∧ kinds.length ≤ 2
  h : heads ≠ [] ∧ heads.length ≤ 3
  ps : ∀ h ∈ heads, h.2.length ≤ 2 ∧ isName h.1 = true ∧ ∀ p ∈ h.2, isName p.1 = true
theorem noL_hda (h : Head) : noL (hdaD h) = true := by
  simp only [hdaD, noL, noLs, Bool.true_and, Bool.and_true]
  exact noLs_map noL_pr _
theorem EnvAt.but {K : PySem.W.Frag} {H H' : Hp} {p c : Addr} {v : V} {own kinds : List Str} {heads : List Head} {lim : V} {n : Nat} (h : EnvAt K H p c v own kinds heads) (b : But p c H H') (P0 : PoolAt H p c lim n) : EnvAt K H' p c v own kinds heads := by
  obtain ⟨e, nl, kl, hl, hs, e1, e2, e3, e4, e5, e6, e7, e8, e9⟩ := h
  exact ⟨e, nl, kl, hl, hs, e1, (b.tps P0).sqt e2, b _ _ e3 e7.1 e7.2, b _ _ e4 e8.1 e8.2, b _ _ e5 e9.1 e9.2, Paired.mapP e6 fun _ h z => Dp.tps (b.tps P0) z (noL_hda h), e7, e8, e9⟩
def spLAr (K : PySem.W.Frag) : Sp := fun vs H Q _ => ∃ (p c nl : Addr) (v : V) (lim : V) (n : Nat) (own : List Str) (ps : List (Str × Bool)), vs = [.ref p, v, .ref nl] ∧ PoolAt H p c lim n ∧ n + 1000 < 1000000000000 ∧ Dp K H v (.tuple (ps.map prD)) ∧ ps.length ≤ 2 ∧ H nl = some (.lst (own.map V.str)) ∧ nl ≠ p ∧ nl ≠ c ∧ own.Nodup ∧ own ≠ [] ∧ own.length ≤ 8 ∧
  ∀ (v : V) (as : List Arg) (H' : Hp), as.map isPl = ps.map Prod.snd → (∀ a ∈ as, WA own a) → Dp K H' v (.tuple (as.map argD)) → PoolAt H' p c lim (n + 20) → But p c H H' → Q v H'
def spLCa (K : PySem.W.Frag) : Sp := fun vs H Q _ => ∃ (p c : Addr) (v : V) (lim : V) (n : Nat) (own kinds : List Str) (heads : List Head), vs = [.ref p, v] ∧ PoolAt H p c lim n ∧ n + 2000 < 1000000000000 ∧ EnvAt K H p c v own kinds heads ∧ EnvOk own kinds heads ∧
  ∀ (v : V) (cl : Cal) (H' : Hp), WC own heads cl → Dp K H' v (calD cl) → PoolAt H' p c lim (n + 21) → But p c H H' → Q v H'
section
variable {P : Program} {w : World} {K : PySem.W.Frag} {mg : Str → Option Value} {base : Heap}
theorem ok_LAr {f : Addr} {fd : FuncData} (F : Fun K "_law_args" "_law_args" sLAr f fd) (T : TxGen mg) (GD : Has P w K mg base CX0 2 "_law_draw" PDraw spDraw) (GE : Has P w K mg base CX0 3 "_law_expression" PLEx (spLEx K)) : FnOk P w K mg base CX0 4 f fd PLAr (spLAr K) := by
  refine F.ok scLAr (fun vs H Q E h => ?_) (fun cdv A outer s H vs Q E hr h => ?_)
  · obtain ⟨p, c, nl, v, lim, n, own, ps, rfl, _⟩ := h
    rfl
  · obtain ⟨p, c, nl, v, lim, n, own, ps, rfl, P0, hn, hv, lps, hnl, np, nc, nd, ne, l8, k⟩ := h
    have hr2 := hr.mono (j := 2) (by omega)
    refine ⟨_, (pss_cons (ps_set (i := 3) scLAr.nd rfl (Or.inl rfl) (pe_lst pa_nil))
  (pss_cons (ps_for PassesOwn.never rfl (pi_tup (pv 1)) (pg_name (i := 4) scLAr.nd rfl (Or.inl rfl))
  (pss_one (ps_if (pt_val (pe_ix (r := rIxT K) ix_tup (pv 4) pe_int (fun _ _ => rfl)))
  (pss_one (ps_expr (pe_bm PySem.F.plainAttrs_list PySem.F.slot_list_append PySem.F.type_list_append mt_append (pv 3) (pa_cons (pe_tup (pa_cons pe_str (pa_cons (pe_ix (r := rIxL K) ix_list (pv 2) (pe_callH GD hr2 rfl pass0 (pa_cons (pv 0) (pa_cons (pe_callB call_len_seq (by rfl) T.n_len bb_len (pa_cons (pv 2) pa_nil)) pa_nil))) (fun _ _ => rfl)) pa_nil))) pa_nil))))
  (pss_one (ps_expr (pe_bm PySem.F.plainAttrs_list PySem.F.slot_list_append PySem.F.type_list_append mt_append (pv 3) (pa_cons (pe_tup (pa_cons pe_str (pa_cons (pe_callH GE hr rfl pass0 (pa_cons (pv 0) (pa_cons (pv 2) (pa_cons pe_int pa_nil)))) pa_nil))) pa_nil)))))))
  (pss_one (ps_ret (pe_callTy call_tuple_of (by rfl) T.n_tuple bb_tuple (pa_cons (pv 3) pa_nil)))))), ?_⟩
    obtain ⟨a, xs, rfl, hq0, hd⟩ := hv.tupInv
    have pp := DpAll.map hd
    have lx : xs.length = ps.length := Paired.length pp
    refine ⟨(by show 0 ≤ sizeLine; decide), fun q hq => ?_⟩
    have s1 := same_new (o := .lst []) hq
    have P1 := P0.same s1
    have qp := P0.ne1 hq
    have qc := P0.ne2 hq
    have qn := ne_of_none hnl hq
    refine ⟨_, rfl, a, rfl, ⟨_, SqT.same s1 hq0⟩, ?_⟩
    refine for_tup (K := K) (a := a) (xs := xs) (fun j σ H' => (∃ x4 : Option V, σ = [some (.ref p), some (.ref a), some (.ref nl), some (.ref q), x4]) ∧ PoolAt H' p c lim (n + 10 * j) ∧ But p c H H' ∧ H' nl = some (.lst (own.map V.str)) ∧ ∃ (us : List V) (as : List Arg), H' q = some (.lst us) ∧ us.length = j ∧ Paired (fun x g => Dp K H' x (argD g)) us as ∧ as.map isPl = (ps.take j).map Prod.snd ∧ ∀ g ∈ as, WA own g)
      ⟨⟨_, rfl⟩, P1, But.of s1, s1 _ _ hnl, [], [], upd_same, rfl, .nil, rfl, fun _ z => (nomatch z)⟩ (fun j σ H' _ h' => (h'.2.2.1.tps P0).sqt hq0) ?_ ?_
    · rintro j x σ H3 hx ⟨⟨x4, rfl⟩, P3, b3, en3, us, as, eq3, lu, pu, pm, pw⟩
      obtain ⟨pr, hpr, hpd⟩ := Paired.at pp hx
      have hj : j < xs.length := (List.getElem?_eq_some_iff.mp hx).1
      have hpd3 : Dp K H3 x (.tuple [.str pr.1, .bool pr.2]) := Dp.tps (b3.tps P0) hpd rfl
      obtain ⟨d, ds, rfl, hd3, hdd⟩ := hpd3.tupInv
      obtain ⟨u1, u2, rfl, g1, g2⟩ := hdd.two
      rw [Dp.blInv g2] at hd3
      have fin : ∀ (H5 : Hp) (t : Addr) (ga : Arg), isPl ga = pr.2 → WA own ga → H5 q = some (.lst us) → But p c H3 H5 → PoolAt H5 p c lim (n + 10 * j + 10) → Dp K H5 (.ref t) (argD ga) → (us ++ [V.ref t]).length < sizeLine ∧
          ((∃ x4 : Option V, [some (V.ref p), some (.ref a), some (.ref nl), some (.ref q), some (.ref d)] = [some (V.ref p), some (.ref a), some (.ref nl), some (.ref q), x4]) ∧ PoolAt (upd H5 q (.lst (us ++ [.ref t]))) p c lim (n + 10 * (j + 1)) ∧ But p c H (upd H5 q (.lst (us ++ [.ref t]))) ∧ upd H5 q (.lst (us ++ [.ref t])) nl = some (.lst (own.map V.str)) ∧ ∃ (us' : List V) (as : List Arg), upd H5 q (.lst (us ++ [.ref t])) q = some (.lst us') ∧ us'.length = j + 1 ∧ Paired (fun x g => Dp K (upd H5 q (.lst (us ++ [.ref t]))) x (argD g)) us' as ∧ as.map isPl = (ps.take (j + 1)).map Prod.snd ∧ ∀ g ∈ as, WA own g) := by
        intro H5 t ga hg wa eq5 b5 P5 dt
        have t5 : Tps H5 (upd H5 q (.lst (us ++ [.ref t]))) := Tps.lst eq5
        refine ⟨small1000 (by rw [List.length_append]; show us.length + 1 ≤ 1000; omega), ⟨_, rfl⟩, ?_, fun b o z h1 h2 => ?_, ?_, us ++ [.ref t], as ++ [ga], upd_same, by rw [List.length_append, lu]; rfl, ?_, ?_, ?_⟩
        · rw [show n + 10 * (j + 1) = n + 10 * j + 10 by omega]
          exact P5.upd qp qc
        · rw [upd_ne (ne_of_none z hq)]
          exact b5 _ _ (b3 _ _ z h1 h2) h1 h2
        · rw [upd_ne qn]
          exact b5 _ _ en3 np nc
        · exact Paired.snoc (Paired.mapP pu fun _ g z => Dp.tps ((b5.tps P3).trans t5) z (noL_arg g)) (Dp.tps t5 dt (noL_arg ga))
        · rw [List.map_append, pm, take_snoc hpr, List.map_append]
          show _ ++ [isPl ga] = _ ++ [pr.2]
          rw [hg]
        · intro g hgm
          rcases List.mem_append.mp hgm with z | z
          · exact pw g z
          · rw [List.mem_singleton.mp z]; exact wa
      refine ⟨_, rfl, d, _, _, _, rfl, rfl, hd3, rfl, _, rfl, ?_⟩
      cases hb : pr.2 with
      | true =>
        refine iteS rfl ?_
        have lo : 0 < own.length := List.length_pos_iff.mpr ne
        refine ⟨_, rfl, .inl ⟨rfl, _, SqL.of eq3⟩, _, rfl, _, rfl, _, rfl, nl, _, rfl, .inl (SqL.of en3), p, c, lim, n + 10 * j, _, rfl, P3, by omega, by rw [List.length_map]; omega, by rw [List.length_map]; omega, fun r H4 r0 r1 P4 b4 => ?_⟩
        obtain ⟨w, hw, mw⟩ := atI_in (xs := own.map V.str) r0 r1
        obtain ⟨nm, hnm, rfl⟩ := List.mem_map.mp mw
        have en4 := b4 _ _ en3 np nc
        have eq4 := b4 _ _ eq3 qp qc
        refine ⟨nl, _, _, _, rfl, rfl, SqL.of en4, hw, (by show 2 ≤ sizeLine; decide), fun t ht => ?_⟩
        have s5 := same_new (o := .tup [V.str "place", V.str nm]) ht
        obtain ⟨f1, f2⟩ := fin _ t (.place nm) (by rw [hb]; rfl) hnm (s5 _ _ eq4) (fun b o z h1 h2 => s5 _ _ (b4 _ _ z h1 h2)) ((P4.same s5).mono (by omega)) (.tup (SqT.of upd_same) (.cons (.str _) (.cons (.str _) .nil)))
        exact ⟨q, _, _, rfl, rfl, s5 _ _ eq4, by rw [List.length_append] at f1; exact Nat.lt_of_succ_lt f1, f2⟩
      | false =>
        refine iteE rfl ?_
        refine ⟨_, rfl, .inl ⟨rfl, _, SqL.of eq3⟩, _, rfl, _, rfl, p, c, nl, lim, n + 10 * j, own, rfl, P3, by omega, en3, np, nc, nd, by omega, fun w e H4 ex dw P4 b4 => ?_⟩
        have eq4 := b4 _ _ eq3 qp qc
        refine ⟨(by show 2 ≤ sizeLine; decide), fun t ht => ?_⟩
        have s5 := same_new (o := .tup [V.str "value", w]) ht
        obtain ⟨f1, f2⟩ := fin _ t (.value e) (by rw [hb]; rfl) ex (s5 _ _ eq4) (fun b o z h1 h2 => s5 _ _ (b4 _ _ z h1 h2)) ((P4.same s5).mono (by omega)) (.tup (SqT.of upd_same) (.cons (.str _) (.cons (dw.same s5) .nil)))
        exact ⟨q, _, _, rfl, rfl, s5 _ _ eq4, by rw [List.length_append] at f1; exact Nat.lt_of_succ_lt f1, f2⟩
    · rintro σ H3 ⟨⟨x4, rfl⟩, P3, b3, en3, us, as, eq3, lu, pu, pm, pw⟩
      rw [lx, List.take_length] at pm
      refine ⟨_, rfl, q, us, rfl, .inl ⟨SqL.of eq3, fun l hl => ?_⟩⟩
      have s5 := same_new (o := .tup us) hl
      exact k _ as _ pm pw (.tup (SqT.of upd_same) (DpAll.ofPaired (Paired.mapP pu fun _ _ z => z.same s5))) ((P3.same s5).mono (by omega)) (fun b o z h1 h2 => s5 _ _ (b3 _ _ z h1 h2))
theorem ok_LCa {f : Addr} {fd : FuncData} (F : Fun K "_law_call" "_law_call" sLCa f fd) (T : TxGen mg) (GD : Has P w K mg base CX0 2 "_law_draw" PDraw spDraw) (GA : Has P w K mg base CX0 4 "_law_args" PLAr (spLAr K)) : FnOk P w K mg base CX0 5 f fd PLCa (spLCa K) := by
  refine F.ok scLCa (fun vs H Q E h => ?_) (fun cdv A outer s H vs Q E hr h => ?_)
  · obtain ⟨p, c, v, lim, n, own, kinds, heads, rfl, _⟩ := h
    rfl
  · obtain ⟨p, c, v, lim, n, own, kinds, heads, rfl, P0, hn, ev, ok, k⟩ := h
    have hr2 := hr.mono (j := 2) (by omega)
    refine ⟨_, (pss_cons (ps_set (i := 2) scLCa.nd rfl (Or.inl rfl) (pe_ix (r := rIxL K) ix_list (pe_ix (r := rIxT K) ix_tup (pv 1) pe_int (fun _ _ => rfl)) (pe_callH GD hr2 rfl pass0 (pa_cons (pv 0) (pa_cons (pe_callB call_len_seq (by rfl) T.n_len bb_len (pa_cons (pe_ix (r := rIxT K) ix_tup (pv 1) pe_int (fun _ _ => rfl)) pa_nil)) pa_nil))) (fun _ _ => rfl)))
  (pss_one (ps_ret (pe_tup (pa_cons (pe_ix (r := rIxT K) ix_tup (pv 2) pe_int (fun _ _ => rfl)) (pa_cons (pe_callH GA hr rfl pass0 (pa_cons (pv 0) (pa_cons (pe_ix (r := rIxT K) ix_tup (pv 2) pe_int (fun _ _ => rfl)) (pa_cons (pe_ix (r := rIxT K) ix_tup (pv 1) pe_int (fun _ _ => rfl)) pa_nil)))) pa_nil)))))), ?_⟩
    obtain ⟨e, nl, kl, hl, hs, rfl, e2, e3, e4, e5, e6, e7, e8, e9⟩ := ev
    have lh : hs.length = heads.length := Paired.length e6
    have lo : 0 < heads.length := List.length_pos_iff.mpr ok.h.1
    have l3 := ok.h.2
    refine ⟨_, rfl, e, _, _, _, rfl, rfl, e2, rfl, _, rfl, _, rfl, e, _, _, _, rfl, rfl, e2, rfl, hl, _, rfl, .inl (SqL.of e5), p, c, lim, n, _, rfl, P0, by omega, by omega, by omega, fun r H1 r0 r1 P1 b1 => ?_⟩
    obtain ⟨w, hw, mw⟩ := atI_in r0 r1
    obtain ⟨i, hi⟩ := List.mem_iff_getElem?.mp mw
    obtain ⟨h, hh, hdp⟩ := Paired.at e6 hi
    have mh := List.mem_of_getElem? hh
    have t1 := b1.tps P0
    have hdp1 : Dp K H1 w (.tuple [.str h.1, .tuple (h.2.map prD)]) := Dp.tps t1 hdp (noL_hda h)
    obtain ⟨d, ds, rfl, hd, hdd⟩ := hdp1.tupInv
    obtain ⟨u1, u2, rfl, g1, g2⟩ := hdd.two
    rw [g1.strInv] at hd
    refine ⟨hl, _, _, _, rfl, rfl, SqL.of (b1 _ _ e5 e9.1 e9.2), hw, ?_⟩
    refine ⟨_, rfl, d, _, _, _, rfl, rfl, hd, rfl, _, rfl, _, rfl, d, _, _, _, rfl, rfl, hd, rfl, _, rfl, e, _, _, _, rfl, rfl, t1.sqt e2, rfl, p, c, nl, u2, lim, n + 1, own, h.2, rfl, P1, by omega, g2, (ok.ps h mh).1, b1 _ _ e3 e7.1 e7.2, e7.1, e7.2, ok.o.1, ok.o.2.1, ok.o.2.2, fun v as H2 pm pw dv P2 b2 => ?_⟩
    refine ⟨(by show 2 ≤ sizeLine; decide), fun t ht => ?_⟩
    have s3 := same_new (o := .tup [V.str h.1, v]) ht
    exact k _ (h.1, as) _ ⟨⟨h, mh, rfl, pm⟩, pw⟩ (.tup (SqT.of upd_same) (.cons (.str _) (.cons (dv.same s3) .nil))) (P2.same s3) (fun b o z h1 h2 => s3 _ _ (b2 _ _ (b1 _ _ z h1 h2) h1 h2))
end

/-! ### the law's pieces and blocks -/
abbrev sLPi : Stmt := topS 72
abbrev NLPi : List Str := ["_law_pool_here", "_law_env", "_law_depth", "_law_is_last", "_law_names_here", "_law_kinds", "_law_heads", "_law_choice", "_law_target", "_law_block_here", "_law_handlers", "_law_kind", "_law_first"]
abbrev PLPi : List Str := ["_law_pool_here", "_law_env", "_law_depth", "_law_is_last"]
theorem scLPi : FnScope NLPi PLPi (defScope sLPi) := ⟨rfl, rfl, rfl, by decide +kernel, rfl, by decide +kernel, by decide +kernel⟩
abbrev sLBk : Stmt := topS 73
abbrev NLBk : List Str := ["_law_pool_here", "_law_env", "_law_depth", "_law_is_last", "_law_found", "_law_k"]
abbrev PLBk : List Str := ["_law_pool_here", "_law_env", "_law_depth", "_law_is_last"]
theorem scLBk : FnScope NLBk PLBk (defScope sLBk) := ⟨rfl, rfl, rfl, by decide +kernel, rfl, by decide +kernel, by decide +kernel⟩
mutual
def wS (own kinds : List Str) (heads : List Head) (last : Bool) : St → Prop
  | .set t e => t ∈ own ∧ EX own e
  | .input t => t ∈ own
  | .raise k => k ∈ kinds
  | .risk ks => ks ≠ [] ∧ ks.length ≤ 2 ∧ ∀ k ∈ ks, k ∈ kinds
  | .call t f as => (∀ x, t = some x → x ∈ own) ∧ WC own heads (f, as)
  | .ret e => last = false ∧ EX own e
  | .ite a b => wL own kinds heads last a ∧ wL own kinds heads last b
  | .whl b => last = false ∧ wL own kinds heads false b
  | .try_ b hs f => last = false ∧ hs.length ≤ 2 ∧ wL own kinds heads false b ∧ wHs own kinds heads hs ∧ wL own kinds heads true f
  | .undo ns b => last = false ∧ (ns ≠ [] ∧ ns.length ≤ 3 ∧ ∀ n ∈ ns, n ∈ own) ∧ wL own kinds heads false b
  | .with_ e l ks b => last = false ∧ WC own heads e ∧ WC own heads l ∧ (ks.length ≤ 2 ∧ ∀ k ∈ ks, k ∈ kinds) ∧ wL own kinds heads false b
def wL (own kinds : List Str) (heads : List Head) (last : Bool) : List St → Prop
  | [] => True
  | s :: r => wS own kinds heads last s ∧ wL own kinds heads last r
def wH (own kinds : List Str) (heads : List Head) : Hd → Prop
  | .mk ks b => (ks ≠ [] ∧ ks.length ≤ 2 ∧ ∀ k ∈ ks, k ∈ kinds) ∧ wL own kinds heads false b
def wHs (own kinds : List Str) (heads : List Head) : List Hd → Prop
  | [] => True
  | h :: r => wH own kinds heads h ∧ wHs own kinds heads r
end
theorem wL_snoc {own kinds : List Str} {heads : List Head} {last : Bool} {s : St} (hs : wS own kinds heads last s) : ∀ {b : List St}, wL own kinds heads last b → wL own kinds heads last (b ++ [s])
  | [], _ => ⟨hs, trivial⟩
  | _ :: _, h => ⟨h.1, wL_snoc hs h.2⟩
theorem wHs_snoc {own kinds : List Str} {heads : List Head} {s : Hd} (hs : wH own kinds heads s) : ∀ {b : List Hd}, wHs own kinds heads b → wHs own kinds heads (b ++ [s])
  | [], _ => ⟨hs, trivial⟩
  | _ :: _, h => ⟨h.1, wHs_snoc hs h.2⟩
theorem szB_snoc {s : St} : ∀ b : List St, szB (b ++ [s]) = szB b + (1 + szS s)
  | [] => by show 1 + szS s + 0 = 0 + _; omega
  | x :: r => by show 1 + szS x + szB (r ++ [s]) = 1 + szS x + szB r + _; rw [szB_snoc r]; omega
theorem szHs_snoc {s : Hd} : ∀ b : List Hd, szHs (b ++ [s]) = szHs b + szH s
  | [] => by show szH s + 0 = 0 + _; omega
  | x :: r => by show szH x + szHs (r ++ [s]) = szH x + szHs r + _; rw [szHs_snoc r]; omega
theorem dpIn_snoc {s : St} : ∀ b : List St, dpIn (b ++ [s]) = max (dpIn b) (dpS s)
  | [] => by show max (dpS s) 0 = max 0 _; omega
  | x :: r => by show max (dpS x) (dpIn (r ++ [s])) = max (max (dpS x) (dpIn r)) _; rw [dpIn_snoc r]; omega
theorem dpHs_snoc {s : Hd} : ∀ b : List Hd, dpHs (b ++ [s]) = max (dpHs b) (dpH s)
  | [] => by show max (dpH s) 0 = max 0 _; omega
  | x :: r => by show max (dpH x) (dpHs (r ++ [s])) = max (max (dpH x) (dpHs r)) _; rw [dpHs_snoc r]; omega
/-- the most draws of a block -/
def cb : Nat → Nat
  | 0 => 0
  | m + 1 => 601 + 12 * cb m
def cp (m : Nat) : Nat := 200 + 4 * cb m
def Lim (bu : Nat) : V := .int (bu : Int)
def spLPi (K : PySem.W.Frag) (m : Nat) : Sp := fun vs H Q _ => ∃ (p c : Addr) (v : V) (n bu d : Nat) (last : Bool) (own kinds : List Str) (heads : List Head), vs = [.ref p, v, .int (d : Int), .bl last] ∧ PoolAt H p c (Lim bu) n ∧ n + cp m ≤ 900000000000 ∧ EnvAt K H p c v own kinds heads ∧ EnvOk own kinds heads ∧
  (last = false → 0 < d → d + 2 ≤ m) ∧ (last = true → d ≤ m) ∧
  ∀ (v : V) (s : St) (bu' : Nat) (H' : Hp), wS own kinds heads last s → dpS s ≤ m → szS s + bu' = bu → Dp K H' v (stD s) → PoolAt H' p c (Lim bu') (n + cp m) → But p c H H' → Q v H'
def spLBk (K : PySem.W.Frag) (m : Nat) : Sp := fun vs H Q _ => ∃ (p c : Addr) (v : V) (n bu d : Nat) (last : Bool) (own kinds : List Str) (heads : List Head), vs = [.ref p, v, .int (d : Int), .bl last] ∧ PoolAt H p c (Lim bu) n ∧ n + cb m ≤ 900000000000 ∧ EnvAt K H p c v own kinds heads ∧ EnvOk own kinds heads ∧
  (last = false → d + 3 ≤ m) ∧ (last = true → d + 1 ≤ m) ∧
  ∀ (v : V) (b : List St) (bu' : Nat) (H' : Hp), wL own kinds heads last b → b.length ≤ 3 → dpB b ≤ m → szB b + bu' = bu → Dp K H' v (blD b) → PoolAt H' p c (Lim bu') (n + cb m) → But p c H H' → Q v H'
theorem pool_lim {H : Hp} {p c : Addr} {bu : Nat} {n : Nat} (h : PoolAt H p c (Lim bu) n) : ∃ xs, H p = some (.lst xs) ∧ atI xs 5 = some (.int (bu : Int)) ∧ xs.length = 6 ∧ ∀ b2 : Nat, PoolAt (upd H p (.lst (xs.set 5 (Lim b2)))) p c (Lim b2) n := by
  obtain ⟨i, cs, cn, sd, md, e1, e2, e⟩ := h
  refine ⟨_, e1, rfl, rfl, fun b2 => ⟨i, cs, cn, sd, md, upd_same, ?_, e⟩⟩
  rw [upd_ne (pool_ne e1 e2).symm]
  exact e2
section
variable {P : Program} {w : World} {K : PySem.W.Frag} {mg : Str → Option Value} {base : Heap}
theorem ok_LBk {m : Nat} {f : Addr} {fd : FuncData} (F : Fun K "_law_block" "_law_block" sLBk f fd) (T : TxGen mg) (GD : Has P w K mg base CX0 2 "_law_draw" PDraw spDraw) (GP : Has P w K mg base CX0 (6 + 2 * m) "_law_piece" PLPi (spLPi K m)) : FnOk P w K mg base CX0 (6 + 2 * m + 1) f fd PLBk (spLBk K (m + 1)) := by
  refine F.ok scLBk (fun vs H Q E h => ?_) (fun cdv A outer s H vs Q E hr h => ?_)
  · obtain ⟨p, c, v, n, bu, d, last, own, kinds, heads, rfl, _⟩ := h
    rfl
  · obtain ⟨p, c, v, n, bu, d, last, own, kinds, heads, rfl, P0, hn, ev, ok, hf, ht, k⟩ := h
    have hr2 := hr.mono (j := 2) (by omega)
    have ecb : cb (m + 1) = 601 + 12 * cb m := rfl
    have ecp : cp m = 200 + 4 * cb m := rfl
    refine ⟨_, (pss_cons (ps_set (i := 4) scLBk.nd rfl (Or.inl rfl) (pe_lst pa_nil))
  (pss_cons (ps_for PassesOwn.never rfl (pi_range1 (by rfl) T.n_range (pa_cons (pe_callH GD hr2 rfl pass0 (pa_cons (pv 0) (pa_cons pe_int pa_nil))) pa_nil)) (pg_name (i := 5) scLBk.nd rfl (Or.inl rfl))
  (pss_one (ps_if (pt_cmpR op_gt (pe_ix (r := rIxL K) ix_list (pv 0) pe_int (fun _ _ => rfl)) pe_int (nomark _))
  (pss_cons (ps_asg (pe_op op_sub (pe_ix (r := rIxL K) ix_list (pv 0) pe_int (fun _ _ => rfl)) pe_int) (pg_sub (pv 0) pe_int set_list))
  (pss_one (ps_expr (pe_bm PySem.F.plainAttrs_list PySem.F.slot_list_append PySem.F.type_list_append mt_append (pv 4) (pa_cons (pe_callH GP hr rfl pass0 (pa_cons (pv 0) (pa_cons (pv 1) (pa_cons (pv 2) (pa_cons (pv 3) pa_nil))))) pa_nil)))))
  pss_nil)))
  (pss_one (ps_ret (pe_callTy call_tuple_of (by rfl) T.n_tuple bb_tuple (pa_cons (pv 4) pa_nil)))))), ?_⟩
    refine ⟨(by show 0 ≤ sizeLine; decide), fun q hq => ?_⟩
    have s1 := same_new (o := .lst []) hq
    have P1 := P0.same s1
    have qp := P0.ne1 hq
    have qc := P0.ne2 hq
    refine ⟨_, rfl, p, c, Lim bu, n, 4, rfl, P1, by omega, by decide, by decide, fun r H1 r0 r1 P2 b2 => ?_⟩
    have eq1 := b2 _ _ (upd_same (H := H)) qp qc
    have b3 := (But.of s1).trans b2
    have ev3 := ev.but b3 P0
    have lr : r.toNat ≤ 3 := by omega
    refine ⟨r, rfl, by omega, by omega, ?_⟩
    refine for_range (lo := 0) (n := r.toNat) (fun i σ H' => (∃ x5 : Option V, σ = [some (.ref p), some v, some (.int (d : Int)), some (.bl last), some (.ref q), x5]) ∧ EnvAt K H' p c v own kinds heads ∧ But p c H H' ∧ ∃ (us : List V) (b : List St) (bu' : Nat), PoolAt H' p c (Lim bu') (n + 1 + i * cp m) ∧ H' q = some (.lst us) ∧ us.length ≤ i ∧ Paired (fun x s => Dp K H' x (stD s)) us b ∧ wL own kinds heads last b ∧ dpIn b ≤ m ∧ szB b + bu' = bu)
      ⟨⟨_, rfl⟩, ev3, b3, [], [], bu, by rw [Nat.zero_mul]; exact P2, eq1, Nat.le_refl _, .nil, trivial, Nat.zero_le _, Nat.zero_add _⟩ ?_ ?_
    · rintro i σ H3 hi ⟨⟨x5, rfl⟩, ev4, b4, us, b, bu', P3, eq3, lu, pu, wl, db, sz⟩
      obtain ⟨xs, ep, e5, l6, upl⟩ := pool_lim P3
      have np : (n + 1 + i * cp m) + cp m = n + 1 + (i + 1) * cp m := by rw [Nat.succ_mul]; omega
      have nle : n + 1 + (i + 1) * cp m ≤ 900000000000 := by
        have : (i + 1) * cp m ≤ 3 * cp m := Nat.mul_le_mul_right _ (by omega)
        omega
      refine ⟨_, rfl, p, _, _, _, rfl, rfl, SqL.of ep, e5, _, _, rfl, rfl, _, rfl, ?_⟩
      by_cases hb : 0 < bu'
      · refine iteS (decide_eq_true (by omega)) ?_
        refine ⟨_, rfl, p, _, _, _, rfl, rfl, SqL.of ep, e5, _, _, rfl, rfl, ?_⟩
        refine ⟨_, rfl, p, xs, _, 5, rfl, rfl, ep, by rw [l6]; rfl, ?_⟩
        have P5 := upl (bu' - 1)
        rw [show Lim (bu' - 1) = V.int ((bu' : Int) - 1) by unfold Lim; congr 1; omega] at P5
        have pq : q ≠ p := qp
        have b5 : But p c H3 (upd H3 p (.lst (xs.set 5 (.int ((bu' : Int) - 1))))) := fun b o z h1 _ => by rw [upd_ne h1]; exact z
        have eq5 : upd H3 p (.lst (xs.set 5 (.int ((bu' : Int) - 1)))) q = some (.lst us) := by rw [upd_ne qp]; exact eq3
        have ev5 := ev4.but b5 P3
        have t5 := b5.tps P3
        generalize upd H3 p (.lst (xs.set 5 (.int ((bu' : Int) - 1)))) = H5 at *
        have P5 : PoolAt H5 p c (Lim (bu' - 1)) (n + 1 + i * cp m) := by rw [show Lim (bu' - 1) = V.int ((bu' : Int) - 1) by unfold Lim; congr 1; omega]; exact P5
        refine ⟨_, rfl, .inl ⟨rfl, _, SqL.of eq5⟩, _, rfl, _, rfl, _, rfl, _, rfl, p, c, v, n + 1 + i * cp m, bu' - 1, d, last, own, kinds, heads, rfl, P5, by omega, ev5, ok, fun h _ => by have := hf h; omega, fun h => by have := ht h; omega, fun x st bu2 H6 ws ds sz2 dp P6 b6 => ?_⟩
        have eq6 := b6 _ _ eq5 qp qc
        refine ⟨q, _, _, rfl, rfl, eq6, small1000 (by omega), ?_⟩
        have t6 : Tps H6 (upd H6 q (.lst (us ++ [x]))) := Tps.lst eq6
        have b7 : But p c H6 (upd H6 q (.lst (us ++ [x]))) → But p c H (upd H6 q (.lst (us ++ [x]))) := fun b b' o z h1 h2 => b _ _ (b6 _ _ (b5 _ _ (b4 _ _ z h1 h2) h1 h2) h1 h2) h1 h2
        have b8 : But p c H (upd H6 q (.lst (us ++ [x]))) := fun b o z h1 h2 => by
          rw [upd_ne (ne_of_none z hq)]
          exact b6 _ _ (b5 _ _ (b4 _ _ z h1 h2) h1 h2) h1 h2
        refine ⟨⟨_, rfl⟩, ev.but b8 P0, b8, us ++ [x], b ++ [st], bu2, ?_, upd_same, by rw [List.length_append]; show us.length + 1 ≤ _; omega, ?_, wL_snoc ws wl, ?_, ?_⟩
        · rw [← np]
          exact P6.upd qp qc
        · exact Paired.snoc (Paired.mapP pu fun _ s z => Dp.tps (((t5.trans (b6.tps P5))).trans t6) z (noL_st s)) (Dp.tps t6 dp (noL_st st))
        · rw [dpIn_snoc]; exact Nat.max_le.mpr ⟨db, ds⟩
        · rw [szB_snoc]; omega
      · refine iteE (decide_eq_false (by omega)) ?_
        exact ⟨⟨_, rfl⟩, ev4, b4, us, b, bu', P3.mono (by omega), eq3, by omega, pu, wl, db, sz⟩
    · rintro σ H3 ⟨⟨x5, rfl⟩, ev4, b4, us, b, bu', P3, eq3, lu, pu, wl, db, sz⟩
      have n3 : r.toNat * cp m ≤ 3 * cp m := Nat.mul_le_mul_right _ lr
      refine ⟨_, rfl, q, us, rfl, .inl ⟨SqL.of eq3, fun l hl => ?_⟩⟩
      have s5 := same_new (o := .tup us) hl
      have lub := Paired.length pu
      have edb := dpB_eq b
      exact k _ b bu' _ wl (by omega) (by omega) sz (.tup (SqT.of upd_same) (by rw [stsD_map]; exact DpAll.ofPaired (Paired.mapP pu fun _ _ z => z.same s5))) ((P3.same s5).mono (by omega)) (fun b o z h1 h2 => s5 _ _ (b4 _ _ z h1 h2))
theorem cut_mem {xs : List V} {lo hi : Option Int} {x : V} (h : x ∈ cutV xs lo hi) : x ∈ xs := List.mem_of_mem_drop (List.mem_of_mem_take h)
theorem eqv_ne {d : PyData} {ds : List PyData} : PyData.eqv (.list (d :: ds)) (.list []) = false := by simp [PyData.eqv, PyData.eqvAll]
theorem shaped_hds {heads : List Head} (h : ∀ x ∈ heads, isName x.1 = true ∧ ∀ p ∈ x.2, isName p.1 = true) : SeqAt.shaped (.list (heads.map hdaD)) = true := by
  have l1 : ∀ ps : List (Str × Bool), (∀ p ∈ ps, isName p.1 = true) → PyData.canLayAll0 (ps.map prD) = true := fun ps => by
    induction ps with
    | nil => intro _; simp [PyData.canLayAll0]
    | cons x r ih =>
      intro h
      simp only [List.map_cons, PyData.canLayAll0, prD, PyData.canLay0, strOk_name (h x List.mem_cons_self), Bool.true_and]
      exact ih fun p hp => h p (List.mem_cons_of_mem _ hp)
  have d1 : ∀ ps : List (Str × Bool), PyData.depthAll (ps.map prD) ≤ 1 := fun ps => by
    induction ps with
    | nil => simp [PyData.depthAll]
    | cons x r ih => simp only [List.map_cons, PyData.depthAll, prD, PyData.depth]; omega
  have l2 : PyData.canLayAll0 (heads.map hdaD) = true := by
    induction heads with
    | nil => simp [PyData.canLayAll0]
    | cons x r ih =>
      obtain ⟨h1, h2⟩ := h x List.mem_cons_self
      simp only [List.map_cons, PyData.canLayAll0, hdaD, PyData.canLay0, strOk_name h1, l1 x.2 h2, Bool.true_and, Bool.and_true]
      exact ih fun p hp => h p (List.mem_cons_of_mem _ hp)
  have d2 : PyData.depthAll (heads.map hdaD) ≤ 3 := by
    clear l2 h
    induction heads with
    | nil => simp [PyData.depthAll]
    | cons x r ih =>
      have := d1 x.2
      simp only [List.map_cons, PyData.depthAll, hdaD, PyData.depth]
      omega
  unfold SeqAt.shaped
  simp only [PyData.canLay0, PyData.depth, l2, Bool.true_and]
  exact decide_eq_true (by omega)
theorem dpAll_strs {K : PySem.W.Frag} {H : Hp} : ∀ l : List Str, DpAll K H (l.map V.str) (l.map PyData.str)
  | [] => .nil
  | x :: r => .cons (.str _) (dpAll_strs r)
theorem cut_two {l : List Str} {r : Int} (r0 : 0 ≤ r) (r1 : r < l.length) : ∃ ns : List Str, cutV (l.map V.str) (some r) (some (r + 2)) = ns.map V.str ∧ ns ≠ [] ∧ ns.length ≤ 2 ∧ ∀ n ∈ ns, n ∈ l := by
  obtain ⟨a, rfl⟩ : ∃ a : Nat, r = (a : Int) := ⟨r.toNat, by omega⟩
  have ha : a < l.length := by omega
  refine ⟨(l.drop a).take (min (a + 2) l.length - a), ?_, fun z => ?_, by rw [List.length_take, List.length_drop]; omega, fun n hn => List.mem_of_mem_drop (List.mem_of_mem_take hn)⟩
  · unfold cutV
    rw [show ((a : Int) + 2) = ((a + 2 : Nat) : Int) by omega, HT.sIx_nat, HT.sIx_nat, List.length_map, Nat.min_eq_left (Nat.le_of_lt ha), List.map_take, List.map_drop]
  · have := congrArg List.length z
    rw [List.length_take, List.length_drop, List.length_nil] at this
    omega
theorem cut_upto {l : List Str} {r : Int} (r0 : 0 ≤ r) : cutV (l.map V.str) none (some r) = (l.take r.toNat).map V.str := by
  obtain ⟨a, rfl⟩ : ∃ a : Nat, r = (a : Int) := ⟨r.toNat, by omega⟩
  rw [cut_take, List.map_take, Int.toNat_natCast]
theorem ite_tC {c : Bool} {a b : V} {σ : L2.St} {H : Hp} {Q : VK} (k : tC (if c = true then a else b) σ H Q) : if c = true then tC a σ H Q else tC b σ H Q := by
  cases c
  · exact k
  · exact k
theorem ok_LPi {m : Nat} {f : Addr} {fd : FuncData} (F : Fun K "_law_piece" "_law_piece" sLPi f fd) (T : TxGen mg) (GD : Has P w K mg base CX0 2 "_law_draw" PDraw spDraw) (GE : Has P w K mg base CX0 3 "_law_expression" PLEx (spLEx K)) (GC : Has P w K mg base CX0 5 "_law_call" PLCa (spLCa K)) (GB : Has P w K mg base CX0 (5 + 2 * m) "_law_block" PLBk (spLBk K m)) : FnOk P w K mg base CX0 (5 + 2 * m + 1) f fd PLPi (spLPi K m) := by
  refine F.ok scLPi (fun vs H Q E h => ?_) (fun cdv A outer s H vs Q E hr h => ?_)
  · obtain ⟨p, c, v, n, bu, d, last, own, kinds, heads, rfl, _⟩ := h
    rfl
  · obtain ⟨p, c, v, n, bu, d, last, own, kinds, heads, rfl, P0, hn, ev, ok, hf, ht, k⟩ := h
    have hr2 := hr.mono (j := 2) (by omega)
    have hr3 := hr.mono (j := 3) (by omega)
    have hr5 := hr.mono (j := 5) (by omega)
    have ecp : cp m = 200 + 4 * cb m := rfl
    refine ⟨_, (pss_cons (ps_asg (pv 1) (pg_tup (by rfl) (pgs_cons (pg_name (i := 4) scLPi.nd rfl (Or.inl rfl)) (pgs_cons (pg_name (i := 5) scLPi.nd rfl (Or.inl rfl)) (pgs_cons (pg_name (i := 6) scLPi.nd rfl (Or.inl rfl)) pgs_nil)))))
  (pss_cons (ps_set (i := 7) scLPi.nd rfl (Or.inl rfl) (pe_callH GD hr2 rfl pass0 (pa_cons (pv 0) (pa_cons (pe_ifExp (pt_cmpR op_gt (pv 2) pe_int (nomark _)) pe_int pe_int) pa_nil))))
  (pss_cons (ps_set (i := 8) scLPi.nd rfl (Or.inl rfl) (pe_ix (r := rIxL K) ix_list (pv 4) (pe_callH GD hr2 rfl pass0 (pa_cons (pv 0) (pa_cons (pe_callB call_len_seq (by rfl) T.n_len bb_len (pa_cons (pv 4) pa_nil)) pa_nil))) (fun _ _ => rfl)))
  (pss_cons (ps_if (pt_cmpR op_lt (pv 7) pe_int (nomark _))
  (pss_one (ps_ret (pe_tup (pa_cons pe_str (pa_cons (pv 8) (pa_cons (pe_callH GE hr3 rfl pass0 (pa_cons (pv 0) (pa_cons (pv 4) (pa_cons pe_int pa_nil)))) pa_nil))))))
  pss_nil)
  (pss_cons (ps_if (pt_cmpR op_lt (pv 7) pe_int (nomark _))
  (pss_one (ps_ret (pe_ifExp (pt_cmpR op_eq (pv 7) pe_int (nomark _)) (pe_tup (pa_cons pe_str (pa_cons (pe_ix (r := rIxL K) ix_list (pv 5) (pe_callH GD hr2 rfl pass0 (pa_cons (pv 0) (pa_cons (pe_callB call_len_seq (by rfl) T.n_len bb_len (pa_cons (pv 5) pa_nil)) pa_nil))) (fun _ _ => rfl)) pa_nil))) (pe_tup (pa_cons pe_str (pa_cons (pv 8) pa_nil))))))
  pss_nil)
  (pss_cons (ps_if (pt_cmpR op_lt (pv 7) pe_int (nomark _))
  (pss_one (ps_ret (pe_tup (pa_cons pe_str (pa_cons (pe_callTy call_tuple_of (by rfl) T.n_tuple bb_tuple (pa_cons (pe_slice sl_list (pv 5) po_none (po_some (pe_op op_add pe_int (pe_callH GD hr2 rfl pass0 (pa_cons (pv 0) (pa_cons (pe_callB call_len_seq (by rfl) T.n_len bb_len (pa_cons (pv 5) pa_nil)) pa_nil)))))) pa_nil)) pa_nil)))))
  pss_nil)
  (pss_cons (ps_if (PW.pt (pw_and (pt_cmpR op_lt (pv 7) pe_int (nomark _)) (pw_and1 (pt_cmpR (op_neD hr.units) (pv 6) (pe_lst pa_nil) (nomark _)))))
  (pss_one (ps_ret (pe_op op_catT (pe_tup (pa_cons pe_str (pa_cons (pe_ix (r := rIxL K) ix_list (pe_lst (pa_cons pe_non (pa_cons (pv 8) pa_nil))) (pe_callH GD hr2 rfl pass0 (pa_cons (pv 0) (pa_cons pe_int pa_nil))) (fun _ _ => rfl)) pa_nil))) (pe_callH GC hr5 rfl pass0 (pa_cons (pv 0) (pa_cons (pv 1) pa_nil))))))
  pss_nil)
  (pss_cons (ps_if (pt_cmpR op_lt (pv 7) pe_int (nomark _))
  (pss_one (ps_ret (pe_ifExp (pt_val (pv 3)) (pe_tup (pa_cons pe_str (pa_cons (pv 8) pa_nil))) (pe_tup (pa_cons pe_str (pa_cons (pe_callH GE hr3 rfl pass0 (pa_cons (pv 0) (pa_cons (pv 4) (pa_cons pe_int pa_nil)))) pa_nil))))))
  pss_nil)
  (pss_cons (ps_set (i := 9) scLPi.nd rfl (Or.inl rfl) (pe_callH GB hr rfl pass0 (pa_cons (pv 0) (pa_cons (pv 1) (pa_cons (pe_op op_sub (pv 2) pe_int) (pa_cons (pv 3) pa_nil))))))
  (pss_cons (ps_if (PW.pt (pw_or (pt_cmpR op_lt (pv 7) pe_int (nomark _)) (pw_or1 (pt_val (pv 3)))))
  (pss_one (ps_ret (pe_tup (pa_cons pe_str (pa_cons (pv 9) (pa_cons (pe_callH GB hr rfl pass0 (pa_cons (pv 0) (pa_cons (pv 1) (pa_cons (pe_op op_sub (pv 2) pe_int) (pa_cons (pv 3) pa_nil))))) pa_nil))))))
  pss_nil)
  (pss_cons (ps_if (pt_cmpR op_lt (pv 7) pe_int (nomark _))
  (pss_one (ps_ret (pe_tup (pa_cons pe_str (pa_cons (pv 9) pa_nil)))))
  pss_nil)
  (pss_cons (ps_if (pt_cmpR op_lt (pv 7) pe_int (nomark _))
  (pss_cons (ps_setLc (i := 10) (own := [("_law_kind", 11)]) (g := gName 11) (tt := tYes) rfl scLPi.nd rfl rfl (sw_true rfl rfl rfl (by decide +kernel)) (pi_list (pe_slice sl_list (pv 5) po_none (po_some (pe_callH GD hr2 rfl pass0 (pa_cons (pv 0) (pa_cons pe_int pa_nil)))))) (blkOk_by (own := [("_law_kind", 11)]) (N := NLPi) (sc := (defScope sLPi)) (by decide +kernel)) (fun _ _ _ _ _ => (pg_name (i := 11) scLPi.nd rfl (Or.inl rfl))) (fun _ _ _ _ _ => pts_nil) (fun _ _ _ _ _ => (pe_tup (pa_cons (pe_tup (pa_cons (pv 11) pa_nil)) (pa_cons (pe_callH GB hr rfl pass0 (pa_cons (pv 0) (pa_cons (pv 1) (pa_cons (pe_op op_sub (pv 2) pe_int) (pa_cons pe_bl pa_nil))))) pa_nil)))))
  (pss_one (ps_ret (pe_tup (pa_cons pe_str (pa_cons (pv 9) (pa_cons (pe_callTy call_tuple_of (by rfl) T.n_tuple bb_tuple (pa_cons (pv 10) pa_nil)) (pa_cons (pe_callH GB hr rfl pass0 (pa_cons (pv 0) (pa_cons (pv 1) (pa_cons pe_int (pa_cons pe_bl pa_nil))))) pa_nil))))))))
  pss_nil)
  (pss_cons (ps_set (i := 12) scLPi.nd rfl (Or.inl rfl) (pe_callH GD hr2 rfl pass0 (pa_cons (pv 0) (pa_cons (pe_callB call_len_seq (by rfl) T.n_len bb_len (pa_cons (pv 4) pa_nil)) pa_nil))))
  (pss_cons (ps_if (PW.pt (pw_or (pt_cmpR op_lt (pv 7) pe_int (nomark _)) (pw_or1 (pt_cmpR (op_eqD hr.units) (pv 6) (pe_lst pa_nil) (nomark _)))))
  (pss_one (ps_ret (pe_tup (pa_cons pe_str (pa_cons (pe_callTy call_tuple_of (by rfl) T.n_tuple bb_tuple (pa_cons (pe_slice sl_list (pv 4) (po_some (pv 12)) (po_some (pe_op op_add (pv 12) pe_int))) pa_nil)) (pa_cons (pv 9) pa_nil))))))
  pss_nil)
  (pss_one (ps_ret (pe_tup (pa_cons pe_str (pa_cons (pe_callH GC hr5 rfl pass0 (pa_cons (pv 0) (pa_cons (pv 1) pa_nil))) (pa_cons (pe_callH GC hr5 rfl pass0 (pa_cons (pv 0) (pa_cons (pv 1) pa_nil))) (pa_cons (pe_callTy call_tuple_of (by rfl) T.n_tuple bb_tuple (pa_cons (pe_slice sl_list (pv 5) po_none (po_some (pe_callH GD hr2 rfl pass0 (pa_cons (pv 0) (pa_cons pe_int pa_nil))))) pa_nil)) (pa_cons (pv 9) pa_nil)))))))))))))))))))))), ?_⟩
    obtain ⟨e, nl, kl, hl, hs, rfl, e2, e3, e4, e5, e6, e7, e8, e9⟩ := id ev
    have lo : 0 < own.length := List.length_pos_iff.mpr ok.o.2.1
    have l8 := ok.o.2.2
    have lk : 0 < kinds.length := List.length_pos_iff.mpr ok.k.1
    have l2 := ok.k.2
    have shh : SeqAt.shaped (.list (heads.map hdaD)) = true := shaped_hds fun x hx => (ok.ps x hx).2
    have eqh : PyData.eqv (.list (heads.map hdaD)) (.list []) = false := by
      cases heads with
      | nil => exact absurd rfl ok.h.1
      | cons x r => exact eqv_ne
    refine ⟨_, rfl, e, _, rfl, e2, rfl, _, _, rfl, _, _, rfl, _, _, rfl, rfl, ?_⟩
    refine ⟨_, rfl, _, rfl, _, _, rfl, rfl, _, rfl, ite_tC ?_⟩
    obtain ⟨mx, hmx, m0, m18, mz⟩ : ∃ mx : Int, V.int mx = (if decide ((d : Int) > 0) = true then V.int 18 else V.int 10) ∧ 0 < mx ∧ mx ≤ 18 ∧ (d = 0 → mx = 10) := by
      by_cases h : 0 < d
      · exact ⟨18, by rw [decide_eq_true (by omega)]; rfl, by decide, by decide, fun z => by omega⟩
      · exact ⟨10, by rw [decide_eq_false (by omega)]; rfl, by decide, by decide, fun z => rfl⟩
    rw [← hmx]
    refine ⟨p, c, Lim bu, n, mx, rfl, P0, by omega, m0, by omega, fun r H1 r0 r1 P1 b1 => ?_⟩
    refine ⟨_, rfl, _, rfl, _, rfl, nl, _, rfl, .inl (SqL.of (b1 _ _ e3 e7.1 e7.2)), p, c, Lim bu, n + 1, _, rfl, P1, by omega, by rw [List.length_map]; omega, by rw [List.length_map]; omega, fun rt H2 t0 t1 P2 b2' => ?_⟩
    have b2 : But p c H H2 := fun b o z h1 h2 => b2' _ _ (b1 _ _ z h1 h2) h1 h2
    have ev2 := ev.but b2 P0
    have en2 := b2 _ _ e3 e7.1 e7.2
    have ek2 := b2 _ _ e4 e8.1 e8.2
    have eh2 := b2 _ _ e5 e9.1 e9.2
    have e62 : Paired (fun x h => Dp K H2 x (hdaD h)) hs heads := Paired.mapP e6 fun _ h z => Dp.tps (b2.tps P0) z (noL_hda h)
    obtain ⟨w, hw, mw⟩ := atI_in (xs := own.map V.str) t0 t1
    obtain ⟨tg, htg, rfl⟩ := List.mem_map.mp mw
    refine ⟨nl, _, _, _, rfl, rfl, SqL.of en2, hw, ?_⟩
    clear b1 b2' P1 H1 hw mw t0 t1 e3 e4 e5 e6
    -- set
    refine ⟨_, rfl, _, _, rfl, rfl, _, rfl, ?_⟩
    by_cases h3 : r < 3
    · refine iteS (decide_eq_true h3) ?_
      refine ⟨_, rfl, _, rfl, _, rfl, p, c, nl, Lim bu, n + 2, own, rfl, P2, by omega, en2, e7.1, e7.2, ok.o.1, by omega, fun x ex H3 hex dx P3 b3 => ?_⟩
      refine ⟨(by show 3 ≤ sizeLine; decide), fun t ht => ?_⟩
      have s4 := same_new (o := .tup [V.str "set", V.str tg, x]) ht
      exact k _ (.set tg ex) bu _ ⟨htg, hex⟩ (Nat.zero_le _) (Nat.zero_add _) (.tup (SqT.of upd_same) (.cons (.str _) (.cons (.str _) (.cons (dx.same s4) .nil)))) ((P3.same s4).mono (by omega)) (fun b o z h1 h2 => s4 _ _ (b3 _ _ (b2 _ _ z h1 h2) h1 h2))
    refine iteE (decide_eq_false h3) ?_
    refine ⟨_, rfl, _, _, rfl, rfl, _, rfl, ?_⟩
    by_cases h5 : r < 5
    · refine iteS (decide_eq_true h5) ?_
      refine ⟨_, rfl, rfl, _, rfl, ?_⟩
      by_cases hr3 : r = 3
      · refine iteS (decide_eq_true (by rw [hr3])) ?_
        refine ⟨_, rfl, _, rfl, _, rfl, kl, _, rfl, .inl (SqL.of ek2), p, c, Lim bu, n + 2, _, rfl, P2, by omega, by rw [List.length_map]; omega, by rw [List.length_map]; omega, fun rk H3 k0 k1 P3 b3 => ?_⟩
        obtain ⟨w, hw, mw⟩ := atI_in (xs := kinds.map V.str) k0 k1
        obtain ⟨kd, hkd, rfl⟩ := List.mem_map.mp mw
        refine ⟨kl, _, _, _, rfl, rfl, SqL.of (b3 _ _ ek2 e8.1 e8.2), hw, (by show 2 ≤ sizeLine; decide), fun t ht => ?_⟩
        have s4 := same_new (o := .tup [V.str "raise", V.str kd]) ht
        exact k _ (.raise kd) bu _ hkd (Nat.zero_le _) (Nat.zero_add _) (.tup (SqT.of upd_same) (.cons (.str _) (.cons (.str _) .nil))) ((P3.same s4).mono (by omega)) (fun b o z h1 h2 => s4 _ _ (b3 _ _ (b2 _ _ z h1 h2) h1 h2))
      · refine iteE (decide_eq_false fun z => hr3 (V.int.inj z)) ?_
        refine ⟨_, rfl, (by show 2 ≤ sizeLine; decide), fun t ht => ?_⟩
        have s4 := same_new (o := .tup [V.str "input", V.str tg]) ht
        exact k _ (.input tg) bu _ htg (Nat.zero_le _) (Nat.zero_add _) (.tup (SqT.of upd_same) (.cons (.str _) (.cons (.str _) .nil))) ((P2.same s4).mono (by omega)) (fun b o z h1 h2 => s4 _ _ (b2 _ _ z h1 h2))
    refine iteE (decide_eq_false h5) ?_
    refine ⟨_, rfl, _, _, rfl, rfl, _, rfl, ?_⟩
    by_cases h7 : r < 7
    · refine iteS (decide_eq_true h7) ?_
      refine ⟨_, rfl, _, rfl, _, rfl, kl, _, rfl, .inl (SqL.of ek2), p, c, Lim bu, n + 2, _, rfl, P2, by omega, by rw [List.length_map]; omega, by rw [List.length_map]; omega, fun rk H3 k0 k1 P3 b3 => ?_⟩
      rw [List.length_map] at k1
      refine ⟨_, _, rfl, rfl, _, rfl, kl, _, rfl, SqL.of (b3 _ _ ek2 e8.1 e8.2), fun q hq => ?_⟩
      have ec : cutV (kinds.map V.str) none (some (1 + rk)) = (kinds.take (rk.toNat + 1)).map V.str := by
        rw [show (1 + rk : Int) = ((rk.toNat + 1 : Nat) : Int) by omega, cut_take, List.map_take]
      have s4 := same_new (o := .lst (cutV (kinds.map V.str) none (some (1 + rk)))) hq
      have eq4 : upd H3 q (.lst (cutV (kinds.map V.str) none (some (1 + rk)))) q = some (.lst ((kinds.take (rk.toNat + 1)).map V.str)) := by rw [upd_same, ec]
      have P4 := P3.same s4
      generalize upd H3 q (.lst (cutV (kinds.map V.str) none (some (1 + rk)))) = H4 at *
      refine ⟨q, _, rfl, .inl ⟨SqL.of eq4, fun l hl => ?_⟩⟩
      have s5 := same_new (o := .tup ((kinds.take (rk.toNat + 1)).map V.str)) hl
      refine ⟨(by show 2 ≤ sizeLine; decide), fun t ht => ?_⟩
      have s6 := same_new (o := .tup [V.str "risk", V.ref l]) ht
      have dks := dpAll_strs (K := K) (H := upd (upd H4 l (.tup ((kinds.take (rk.toNat + 1)).map V.str))) t (.tup [V.str "risk", V.ref l])) (kinds.take (rk.toNat + 1))
      refine k _ (.risk (kinds.take (rk.toNat + 1))) bu _ ⟨fun z => ?_, by rw [List.length_take]; omega, fun x hx => List.mem_of_mem_take hx⟩ (Nat.zero_le _) (Nat.zero_add _) (.tup (SqT.of upd_same) (.cons (.str _) (.cons (.tup (SqT.of (s6 _ _ upd_same)) dks) .nil))) (((P4.same s5).same s6).mono (by omega)) (fun b o z h1 h2 => s6 _ _ (s5 _ _ (s4 _ _ (b3 _ _ (b2 _ _ z h1 h2) h1 h2))))
      have := congrArg List.length z
      rw [List.length_take, List.length_nil] at this
      omega
    refine iteE (decide_eq_false h7) ?_
    -- call
    refine ⟨_, rfl, _, _, rfl, rfl, _, rfl, ?_⟩
    by_cases h9 : r < 9
    · refine iteS (decide_eq_true h9) ?_
      refine ⟨_, rfl, (by show 0 ≤ sizeLine; decide), fun z hz => ?_⟩
      have s3 := same_new (o := .lst []) hz
      refine ⟨.list (heads.map hdaD), .list [], .lst (SqL.of (s3 _ _ eh2)) (DpAll.ofPaired (Paired.mapP e62 fun _ _ z => z.same s3)), .lst (SqL.of upd_same) .nil, shh, by decide +kernel, _, rfl, iteS (by rw [eqh]; rfl) ?_⟩
      have P3 := P2.same s3
      have ev3 := ev2.but (But.of s3) P2
      have b3 : But p c H _ := fun b o z h1 h2 => s3 _ _ (b2 b o z h1 h2)
      clear hz
      generalize upd H2 z (.lst []) = H3 at *
      refine ⟨_, rfl, (by show 2 ≤ sizeLine; decide), fun D hD => ?_⟩
      have s4 := same_new (o := .lst [V.non, V.str tg]) hD
      have P4 := P3.same s4
      refine ⟨_, rfl, p, c, Lim bu, n + 2, 2, rfl, P4, by omega, by decide, by decide, fun rk H5 k0 k1 P5 b5 => ?_⟩
      have eD := b5 _ _ (upd_same (H := H3) (a := D) (o := .lst [V.non, V.str tg])) (P3.ne1 hD) (P3.ne2 hD)
      obtain ⟨to, hto, hat⟩ : ∃ to : Option Str, (∀ x, to = some x → x ∈ own) ∧ ∃ u, atI [V.non, V.str tg] rk = some u ∧ ∀ H : Hp, Dp K H u (optD to) := by
        have : rk = 0 ∨ rk = 1 := by omega
        rcases this with rfl | rfl
        · exact ⟨none, fun _ z => (nomatch z), _, rfl, fun _ => .non⟩
        · exact ⟨some tg, fun x z => by injection z with z; rw [← z]; exact htg, _, rfl, fun _ => .str _⟩
      obtain ⟨u, hat, du⟩ := hat
      have b35 : But p c H3 H5 := fun b o z h1 h2 => b5 _ _ (s4 _ _ z) h1 h2
      have ev5 := ev3.but b35 P3
      refine ⟨D, _, _, _, rfl, rfl, SqL.of eD, hat, (by show 2 ≤ sizeLine; decide), fun t1 ht1 => ?_⟩
      have s6 := same_new (o := .tup [V.str "call", u]) ht1
      have P6 := P5.same s6
      refine ⟨_, rfl, _, rfl, p, c, _, Lim bu, n + 2 + 1, own, kinds, heads, rfl, P6, by omega, ev5.but (But.of s6) P5, ok, fun x cl H7 hwc dx P7 b7 => ?_⟩
      have dx : Dp K H7 x (.tuple [.str cl.1, .tuple (cl.2.map argD)]) := dx
      obtain ⟨x0, xs, rfl, hx0, hxd⟩ := dx.tupInv
      obtain ⟨x1, x2, rfl, g1, g2⟩ := hxd.two
      have et1 : SqT K H7 t1 [V.str "call", u] := (b7.tps P6).sqt (SqT.of upd_same)
      refine ⟨t1, x0, _, _, rfl, rfl, et1, hx0, (by intro z; cases z), (by show 2 + 2 ≤ sizeLine; decide), (fun z => nomatch z), fun _ q hq => ?_⟩
      have s8 := same_new (o := .tup ([V.str "call", u] ++ [x1, x2])) hq
      exact k _ (.call to cl.1 cl.2) bu _ ⟨hto, hwc⟩ (Nat.zero_le _) (Nat.zero_add _) (.tup (SqT.of upd_same) (.cons (.str _) (.cons (du _) (.cons (g1.same s8) (.cons (g2.same s8) .nil))))) ((P7.same s8).mono (by omega)) (fun b o z h1 h2 => s8 _ _ (b7 _ _ (s6 _ _ (b35 _ _ (b3 _ _ z h1 h2) h1 h2)) h1 h2))
    refine iteE (decide_eq_false h9) (iteF ?_)
    refine ⟨_, rfl, _, _, rfl, rfl, _, rfl, ?_⟩
    by_cases h10 : r < 10
    · refine iteS (decide_eq_true h10) ?_
      cases last with
      | true =>
        refine ⟨_, rfl, true, rfl, iteS rfl ?_⟩
        refine ⟨_, rfl, (by show 2 ≤ sizeLine; decide), fun t ht => ?_⟩
        have s4 := same_new (o := .tup [V.str "input", V.str tg]) ht
        exact k _ (.input tg) bu _ htg (Nat.zero_le _) (Nat.zero_add _) (.tup (SqT.of upd_same) (.cons (.str _) (.cons (.str _) .nil))) ((P2.same s4).mono (by omega)) (fun b o z h1 h2 => s4 _ _ (b2 _ _ z h1 h2))
      | false =>
        refine ⟨_, rfl, false, rfl, iteE rfl ?_⟩
        refine ⟨_, rfl, _, rfl, p, c, nl, Lim bu, n + 2, own, rfl, P2, by omega, en2, e7.1, e7.2, ok.o.1, by omega, fun x ex H3 hex dx P3 b3 => ?_⟩
        refine ⟨(by show 2 ≤ sizeLine; decide), fun t ht => ?_⟩
        have s4 := same_new (o := .tup [V.str "return", x]) ht
        exact k _ (.ret ex) bu _ ⟨rfl, hex⟩ (Nat.zero_le _) (Nat.zero_add _) (.tup (SqT.of upd_same) (.cons (.str _) (.cons (dx.same s4) .nil))) ((P3.same s4).mono (by omega)) (fun b o z h1 h2 => s4 _ _ (b3 _ _ (b2 _ _ z h1 h2) h1 h2))
    refine iteE (decide_eq_false h10) ?_
    -- the first block
    obtain ⟨d, rfl⟩ : ∃ d', d = d' + 1 := by
      cases d with
      | zero => have := mz rfl; omega
      | succ d => exact ⟨d, rfl⟩
    clear hmx mz m18 m0 h3 h5 h7 h9
    have ed : (((d + 1 : Nat) : Int) - 1) = (d : Int) := by omega
    refine ⟨_, rfl, _, rfl, _, rfl, _, _, rfl, rfl, _, rfl, p, c, .ref e, n + 2, bu, d, last, own, kinds, heads, (by show [V.ref p, V.ref e, V.int (((d + 1 : Nat) : Int) - 1), V.bl last] = _; rw [ed]), P2, by omega, ev2, ok, fun h => by have := hf h (Nat.succ_pos _); omega, fun h => by have := ht h; omega, fun x b1 bu1 H3 w1 l1 d1 z1 dx1 P3 b3' => ?_⟩
    have b3 : But p c H H3 := fun b o z h1 h2 => b3' _ _ (b2 _ _ z h1 h2) h1 h2
    have ev3 := ev.but b3 P0
    have en3 := b3' _ _ en2 e7.1 e7.2
    have ek3 := b3' _ _ ek2 e8.1 e8.2
    have eh3 := b3' _ _ eh2 e9.1 e9.2
    have e63 : Paired (fun x h => Dp K H3 x (hdaD h)) hs heads := Paired.mapP e62 fun _ h z => Dp.tps (b3'.tps P2) z (noL_hda h)
    clear e62 en2 ek2 eh2 ev2 P2 b2 b3'
    -- if
    refine ⟨_, rfl, _, _, rfl, rfl, _, rfl, ?_⟩
    by_cases h12 : r < 12
    · refine iteS (decide_eq_true h12) (iteT ?_)
      refine ⟨_, rfl, _, rfl, _, rfl, _, rfl, _, _, rfl, rfl, _, rfl, p, c, .ref e, n + 2 + cb m, bu1, d, last, own, kinds, heads, (by show [V.ref p, V.ref e, V.int (((d + 1 : Nat) : Int) - 1), V.bl last] = _; rw [ed]), P3, by omega, ev3, ok, fun h => by have := hf h (Nat.succ_pos _); omega, fun h => by have := ht h; omega, fun y b2 bu2 H4 w2 l2 d2 z2 dx2 P4 b4 => ?_⟩
      refine ⟨(by show 3 ≤ sizeLine; decide), fun t ht => ?_⟩
      have s5 := same_new (o := .tup [V.str "if", x, y]) ht
      exact k _ (.ite b1 b2) bu2 _ ⟨w1, w2⟩ (Nat.max_le.mpr ⟨d1, d2⟩) (by show szB b1 + szB b2 + bu2 = bu; omega) (.tup (SqT.of upd_same) (.cons (.str _) (.cons ((Dp.tps (b4.tps P3) dx1 (noL_bl b1)).same s5) (.cons (dx2.same s5) .nil)))) ((P4.same s5).mono (by omega)) (fun b o z h1 h2 => s5 _ _ (b4 _ _ (b3 _ _ z h1 h2) h1 h2))
    refine iteE (decide_eq_false h12) ?_
    cases last with
    | true =>
      refine ⟨_, rfl, true, rfl, iteS rfl ?_⟩
      refine ⟨_, rfl, _, rfl, _, rfl, _, rfl, _, _, rfl, rfl, _, rfl, p, c, .ref e, n + 2 + cb m, bu1, d, true, own, kinds, heads, (by show [V.ref p, V.ref e, V.int (((d + 1 : Nat) : Int) - 1), V.bl true] = _; rw [ed]), P3, by omega, ev3, ok, fun h => (nomatch h), fun h => by have := ht h; omega, fun y b2 bu2 H4 w2 l2 d2 z2 dx2 P4 b4 => ?_⟩
      refine ⟨(by show 3 ≤ sizeLine; decide), fun t ht => ?_⟩
      have s5 := same_new (o := .tup [V.str "if", x, y]) ht
      exact k _ (.ite b1 b2) bu2 _ ⟨w1, w2⟩ (Nat.max_le.mpr ⟨d1, d2⟩) (by show szB b1 + szB b2 + bu2 = bu; omega) (.tup (SqT.of upd_same) (.cons (.str _) (.cons ((Dp.tps (b4.tps P3) dx1 (noL_bl b1)).same s5) (.cons (dx2.same s5) .nil)))) ((P4.same s5).mono (by omega)) (fun b o z h1 h2 => s5 _ _ (b4 _ _ (b3 _ _ z h1 h2) h1 h2))
    | false =>
    have hd := hf rfl (Nat.succ_pos _)
    refine ⟨_, rfl, false, rfl, iteE rfl ?_⟩
    -- while
    refine ⟨_, rfl, _, _, rfl, rfl, _, rfl, ?_⟩
    by_cases h13 : r < 13
    · refine iteS (decide_eq_true h13) ?_
      refine ⟨_, rfl, (by show 2 ≤ sizeLine; decide), fun t ht => ?_⟩
      have s5 := same_new (o := .tup [V.str "while", x]) ht
      exact k _ (.whl b1) bu1 _ ⟨rfl, w1⟩ d1 z1 (.tup (SqT.of upd_same) (.cons (.str _) (.cons (dx1.same s5) .nil))) ((P3.same s5).mono (by omega)) (fun b o z h1 h2 => s5 _ _ (b3 _ _ z h1 h2))
    refine iteE (decide_eq_false h13) ?_
    -- try
    refine ⟨_, rfl, _, _, rfl, rfl, _, rfl, ?_⟩
    by_cases h15 : r < 15
    · refine iteS (decide_eq_true h15) ?_
      refine ⟨_, rfl, _, rfl, p, c, Lim bu1, n + 2 + cb m, 3, rfl, P3, by omega, by decide, by decide, fun rh H4 k0 k1 P4 b4 => ?_⟩
      have ek4 := b4 _ _ ek3 e8.1 e8.2
      refine ⟨_, rfl, kl, _, rfl, SqL.of ek4, fun KL hKL => ?_⟩
      rw [cut_upto k0]
      have s5 := same_new (o := .lst ((kinds.take rh.toNat).map V.str)) hKL
      have KLp := P4.ne1 hKL
      have KLc := P4.ne2 hKL
      have P5 := P4.same s5
      have b5 : But p c H3 (upd H4 KL (.lst ((kinds.take rh.toNat).map V.str))) := fun b o z h1 h2 => s5 _ _ (b4 _ _ z h1 h2)
      have eKL : upd H4 KL (.lst ((kinds.take rh.toNat).map V.str)) KL = some (.lst ((kinds.take rh.toNat).map V.str)) := upd_same
      generalize upd H4 KL (.lst ((kinds.take rh.toNat).map V.str)) = H5 at *
      refine ⟨KL, rfl, ⟨_, SqL.of eKL⟩, fun D hD => ?_⟩
      have Dp' := P5.ne1 hD
      have Dc := P5.ne2 hD
      have DK : D ≠ KL := fun z => by rw [z, eKL] at hD; cases hD
      have s6 := same_new (o := .lst []) hD
      have lkt : (kinds.take rh.toNat).length ≤ 2 := by rw [List.length_take]; omega
      refine lc_it (walk_list (K := K) (a := KL) (xs := (kinds.take rh.toNat).map V.str)) (fun i H' => But p c H5 H' ∧ ∃ (us : List V) (hds : List Hd) (bu2 : Nat), H' D = some (.lst us) ∧ us.length = i ∧ Paired (fun x g => Dp K H' x (hdD g)) us hds ∧ wHs own kinds heads hds ∧ dpHs hds ≤ m ∧ szHs hds + bu2 = bu1 ∧ PoolAt H' p c (Lim bu2) (n + 2 + cb m + 1 + i * cb m)) ⟨But.of s6, [], [], bu1, upd_same, rfl, .nil, trivial, Nat.zero_le _, Nat.zero_add _, by rw [Nat.zero_mul]; exact P5.same s6⟩ (fun i H' _ h' => SqL.of (h'.1 _ _ eKL KLp KLc)) ?_ ?_
      · rintro i z HX H6 hi ⟨b6, us, hds, bu2, eD, lu, pu, wh, dh, zh, P6⟩ ⟨rfl, hz⟩
        have hi : i < (kinds.take rh.toNat).length := by rwa [List.length_map] at hi
        obtain ⟨kd, hkd⟩ : ∃ kd, (kinds.take rh.toNat)[i]? = some kd := ⟨_, List.getElem?_eq_getElem hi⟩
        have mk : kd ∈ kinds := List.mem_of_mem_take (List.mem_of_getElem? hkd)
        rw [List.getElem?_map, hkd] at hz
        simp only [Option.map_some, Option.some.injEq] at hz
        subst hz
        have im : (i + 1) * cb m = i * cb m + cb m := Nat.succ_mul _ _
        have i2 : (i + 1) * cb m ≤ 2 * cb m := Nat.mul_le_mul_right _ (by omega)
        refine ⟨wipe1 (by decide), V.str kd, by kernel_rfl, (by show 1 ≤ sizeLine; decide), fun t1 ht1 => ?_⟩
        have s7 := same_new (o := .tup [V.str kd]) ht1
        have b57 : But p c H (upd H6 t1 (.tup [V.str kd])) := fun b o z h1 h2 => s7 _ _ (b6 _ _ (b5 _ _ (b3 _ _ z h1 h2) h1 h2) h1 h2)
        refine ⟨V.ref p, by kernel_rfl, V.ref e, by kernel_rfl, V.int ((d + 1 : Nat) : Int), by kernel_rfl, _, _, rfl, rfl, p, c, .ref e, n + 2 + cb m + 1 + i * cb m, bu2, d, false, own, kinds, heads, (by show [V.ref p, V.ref e, V.int (((d + 1 : Nat) : Int) - 1), V.bl false] = _; rw [ed]), P6.same s7, by omega, ev.but b57 P0, ok, fun _ => by omega, fun h => (nomatch h), fun y b2 bu3 H8 w2 l2 d2 z2 dx2 P8 b8 => ?_⟩
        refine ⟨(by show 2 ≤ sizeLine; decide), fun t2 ht2 => ?_⟩
        have s9 := same_new (o := .tup [V.ref t1, y]) ht2
        have b69 : But p c H6 (upd H8 t2 (.tup [V.ref t1, y])) := fun b o z h1 h2 => s9 _ _ (b8 _ _ (s7 _ _ z) h1 h2)
        have t69 := b69.tps P6
        have eD9 := b69 _ _ eD Dp' Dc
        have et1 : SqT K (upd H8 t2 (.tup [V.ref t1, y])) t1 [V.str kd] := (Tps.of s9).sqt ((b8.tps (P6.same s7)).sqt (SqT.of upd_same))
        have t10 : Tps (upd H8 t2 (.tup [V.ref t1, y])) (upd (upd H8 t2 (.tup [V.ref t1, y])) D (.lst (us ++ [.ref t2]))) := Tps.lst eD9
        refine ⟨us, eD9, small1000 (by omega), fun b o z h1 h2 => ?_, us ++ [.ref t2], hds ++ [.mk [kd] b2], bu3, upd_same, by rw [List.length_append, lu]; rfl, ?_, wHs_snoc (s := .mk [kd] b2) (show ([kd] ≠ [] ∧ [kd].length ≤ 2 ∧ ∀ x ∈ [kd], x ∈ kinds) ∧ wL own kinds heads false b2 from ⟨⟨by simp, by simp, fun x hx => by rw [List.mem_singleton.mp hx]; exact mk⟩, w2⟩) wh, ?_, ?_, ?_⟩
        · rw [upd_ne (ne_of_none z hD)]
          exact b69 _ _ (b6 _ _ z h1 h2) h1 h2
        · refine Paired.snoc (Paired.mapP pu fun _ g z => Dp.tps (t69.trans t10) z (noL_hd g)) ?_
          exact .tup (t10.sqt (SqT.of upd_same)) (.cons (.tup (t10.sqt et1) (.cons (.str _) .nil)) (.cons (Dp.tps t10 (dx2.same s9) (noL_bl b2)) .nil))
        · rw [dpHs_snoc]; exact Nat.max_le.mpr ⟨dh, d2⟩
        · rw [szHs_snoc]; show szHs hds + szB b2 + bu3 = bu1; omega
        · rw [im]
          exact ((P8.same s9).upd Dp' Dc).mono (by omega)
      · rintro H6 ⟨b6, us, hds, bu2, eD, lu, pu, wh, dh, zh, P6⟩
        rw [List.length_map] at P6 lu
        have lhd := Paired.length pu
        have i2 : (kinds.take rh.toNat).length * cb m ≤ 2 * cb m := Nat.mul_le_mul_right _ lkt
        have b36 : But p c H3 H6 := fun b o z h1 h2 => b6 _ _ (b5 _ _ z h1 h2) h1 h2
        refine ⟨_, rfl, _, rfl, D, us, rfl, .inl ⟨SqL.of eD, fun l hl => ?_⟩⟩
        have s7 := same_new (o := .tup us) hl
        refine ⟨_, rfl, _, rfl, p, c, .ref e, _, bu2, 1, true, own, kinds, heads, rfl, P6.same s7, by omega, (ev3.but b36 P3).but (But.of s7) P6, ok, fun h => (nomatch h), fun _ => by omega, fun y b2 bu3 H8 w2 l2 d2 z2 dx2 P8 b8 => ?_⟩
        refine ⟨(by show 4 ≤ sizeLine; decide), fun t ht => ?_⟩
        have s9 := same_new (o := .tup [V.str "try", x, V.ref l, y]) ht
        have t68 := (Tps.of s7).trans (b8.tps (P6.same s7))
        refine k _ (.try_ b1 hds b2) bu3 _ ⟨rfl, by omega, w1, wh, w2⟩ (Nat.max_le.mpr ⟨d1, Nat.max_le.mpr ⟨dh, d2⟩⟩) (by show szB b1 + (szHs hds + szB b2) + bu3 = bu; omega) (.tup (SqT.of upd_same) (.cons (.str _) (.cons ((Dp.tps ((b36.tps P3).trans t68) dx1 (noL_bl b1)).same s9) (.cons (.tup (SqT.same s9 ((b8.tps (P6.same s7)).sqt (SqT.of upd_same))) ?_) (.cons (dx2.same s9) .nil))))) ((P8.same s9).mono (by omega)) (fun b o z h1 h2 => s9 _ _ (b8 _ _ (s7 _ _ (b36 _ _ (b3 _ _ z h1 h2) h1 h2)) h1 h2))
        rw [hdsD_map]
        exact DpAll.ofPaired (Paired.mapP pu fun _ g z => (Dp.tps t68 z (noL_hd g)).same s9)
    refine iteE (decide_eq_false h15) ?_
    -- undo
    refine ⟨_, rfl, _, rfl, nl, _, rfl, .inl (SqL.of en3), p, c, Lim bu1, n + 2 + cb m, _, rfl, P3, by omega, by rw [List.length_map]; omega, by rw [List.length_map]; omega, fun rf H4 f0 f1 P4 b4 => ?_⟩
    rw [List.length_map] at f1
    have en4 := b4 _ _ en3 e7.1 e7.2
    have eh4 := b4 _ _ eh3 e9.1 e9.2
    have t34 := b4.tps P3
    have b04 : But p c H H4 := fun b o z h1 h2 => b4 _ _ (b3 _ _ z h1 h2) h1 h2
    obtain ⟨ns, ecut, nne, nl2, nmem⟩ := cut_two f0 f1
    refine ⟨_, rfl, _, _, rfl, rfl, _, rfl, ?_⟩
    by_cases h17 : r < 17
    · refine iteS (decide_eq_true h17) (iteT ?_)
      refine ⟨_, rfl, _, rfl, _, rfl, _, rfl, _, _, rfl, rfl, _, rfl, nl, _, rfl, SqL.of en4, fun q hq => ?_⟩
      have s5 := same_new (o := .lst (cutV (own.map V.str) (some rf) (some (rf + 2)))) hq
      have eq5 : upd H4 q (.lst (cutV (own.map V.str) (some rf) (some (rf + 2)))) q = some (.lst (ns.map V.str)) := by rw [upd_same, ecut]
      have P5 := P4.same s5
      generalize upd H4 q (.lst (cutV (own.map V.str) (some rf) (some (rf + 2)))) = H5 at *
      refine ⟨q, _, rfl, .inl ⟨SqL.of eq5, fun l hl => ?_⟩⟩
      have s6 := same_new (o := .tup (ns.map V.str)) hl
      refine ⟨_, rfl, (by show 3 ≤ sizeLine; decide), fun t ht => ?_⟩
      have s7 := same_new (o := .tup [V.str "undo", V.ref l, x]) ht
      exact k _ (.undo ns b1) bu1 _ ⟨rfl, ⟨nne, by omega, nmem⟩, w1⟩ d1 z1 (.tup (SqT.of upd_same) (.cons (.str _) (.cons (.tup (SqT.of (s7 _ _ upd_same)) (dpAll_strs ns)) (.cons ((Dp.tps t34 dx1 (noL_bl b1)).same ((s5.trans s6).trans s7)) .nil)))) (((P5.same s6).same s7).mono (by omega)) (fun b o z h1 h2 => s7 _ _ (s6 _ _ (s5 _ _ (b04 _ _ z h1 h2))))
    refine iteE (decide_eq_false h17) ?_
    refine ⟨_, rfl, (by show 0 ≤ sizeLine; decide), fun z hz => ?_⟩
    have s5 := same_new (o := .lst []) hz
    refine ⟨.list (heads.map hdaD), .list [], .lst (SqL.of (s5 _ _ eh4)) (DpAll.ofPaired (Paired.mapP e63 fun _ h z => (Dp.tps t34 z (noL_hda h)).same s5)), .lst (SqL.of upd_same) .nil, shh, by decide +kernel, _, rfl, iteE eqh ?_⟩
    have P5 := P4.same s5
    have b05 : But p c H (upd H4 z (.lst [])) := fun b o z h1 h2 => s5 _ _ (b04 _ _ z h1 h2)
    have t35 := t34.trans (Tps.of s5)
    have b35 : But p c H3 (upd H4 z (.lst [])) := fun b o z h1 h2 => s5 _ _ (b4 _ _ z h1 h2)
    clear hz s5
    generalize upd H4 z (.lst []) = H5 at *
    -- with
    refine ⟨_, rfl, _, rfl, p, c, _, Lim bu1, _, own, kinds, heads, rfl, P5, by omega, ev.but b05 P0, ok, fun y1 c1 H6 wc1 dc1 P6 b6 => ?_⟩
    have b06 : But p c H H6 := fun b o z h1 h2 => b6 _ _ (b05 _ _ z h1 h2) h1 h2
    refine ⟨_, rfl, _, rfl, p, c, _, Lim bu1, _, own, kinds, heads, rfl, P6, by omega, ev.but b06 P0, ok, fun y2 c2 H7 wc2 dc2 P7 b7 => ?_⟩
    have b07 : But p c H H7 := fun b o z h1 h2 => b7 _ _ (b06 _ _ z h1 h2) h1 h2
    refine ⟨_, rfl, _, rfl, p, c, Lim bu1, _, 3, rfl, P7, by omega, by decide, by decide, fun rk H8 k0 k1 P8 b8 => ?_⟩
    have b08 : But p c H H8 := fun b o z h1 h2 => b8 _ _ (b07 _ _ z h1 h2) h1 h2
    have b58 : But p c H5 H8 := fun b o z h1 h2 => b8 _ _ (b7 _ _ (b6 _ _ z h1 h2) h1 h2) h1 h2
    have ek8 := b58 _ _ (b35 _ _ ek3 e8.1 e8.2) e8.1 e8.2
    refine ⟨_, rfl, kl, _, rfl, SqL.of ek8, fun q hq => ?_⟩
    rw [cut_upto k0]
    have s9 := same_new (o := .lst ((kinds.take rk.toNat).map V.str)) hq
    have eq9 : upd H8 q (.lst ((kinds.take rk.toNat).map V.str)) q = some (.lst ((kinds.take rk.toNat).map V.str)) := upd_same
    have P9 := P8.same s9
    generalize upd H8 q (.lst ((kinds.take rk.toNat).map V.str)) = H9 at *
    refine ⟨q, _, rfl, .inl ⟨SqL.of eq9, fun l hl => ?_⟩⟩
    have s10 := same_new (o := .tup ((kinds.take rk.toNat).map V.str)) hl
    refine ⟨_, rfl, (by show 5 ≤ sizeLine; decide), fun t ht => ?_⟩
    have s11 := same_new (o := .tup [V.str "with", y1, y2, V.ref l, x]) ht
    have s911 := (s9.trans s10).trans s11
    have t78 := b8.tps P7
    have t68 := (b7.tps P6).trans t78
    have t58 := b58.tps P5
    exact k _ (.with_ c1 c2 (kinds.take rk.toNat) b1) bu1 _ ⟨rfl, wc1, wc2, ⟨by rw [List.length_take]; omega, fun x hx => List.mem_of_mem_take hx⟩, w1⟩ d1 z1 (.tup (SqT.of upd_same) (.cons (.str _) (.cons ((Dp.tps t68 dc1 (noL_cal c1)).same s911) (.cons ((Dp.tps t78 dc2 (noL_cal c2)).same s911) (.cons (.tup (SqT.of (s11 _ _ upd_same)) (dpAll_strs _)) (.cons ((Dp.tps (t35.trans t58) dx1 (noL_bl b1)).same s911) .nil)))))) (((P9.same s10).same s11).mono (by omega)) (fun b o z h1 h2 => s11 _ _ (s10 _ _ (s9 _ _ (b08 _ _ z h1 h2))))
end

/-! ### _law_names -/
abbrev sNames : Stmt := topS 68
abbrev NNames : List Str := ["_law_pool_here", "_law_letter", "_law_shift", "_law_k"]
abbrev PNames : List Str := ["_law_pool_here"]
theorem scNames : FnScope NNames PNames (defScope sNames) := ⟨rfl, rfl, rfl, by decide +kernel, rfl, by decide +kernel, by decide +kernel⟩
def nm (c : Nat) (i : Int) : Str := (⟨#[c]⟩ : Str) ++ ((toString i : String) : Str)
/-- a list of names as _law_names gives it -/
structure NamesOk (ns : List Str) : Prop where
  nd : ns.Nodup
  name : ∀ n ∈ ns, isName n = true
  len : ∀ n ∈ ns, n.length ≤ 10
  two : ∀ n ∈ ns, 2 ≤ n.length
theorem dig_facts : ∀ k : Fin 16, ((toString ((k.val : Nat) : Int) : String) : Str).cps.toList ≠ [] ∧ (∀ c ∈ ((toString ((k.val : Nat) : Int) : String) : Str).cps.toList, c ∈ DIG.cps.toList) ∧ ((toString ((k.val : Nat) : Int) : String) : Str).cps.toList.length ≤ 2 := by decide +kernel
theorem dig_inj : ∀ k j : Fin 16, ((toString ((k.val : Nat) : Int) : String) : Str) = ((toString ((j.val : Nat) : Int) : String) : Str) → k = j := by decide +kernel
theorem mod_inj : ∀ s k j : Fin 16, (7 * k.val + s.val) % 16 = (7 * j.val + s.val) % 16 → k = j := by decide +kernel
theorem kws_let : ∀ k ∈ KWS, ∀ c ∈ k.cps.toList, c ∈ LET.cps.toList := by decide +kernel
theorem let_dig : ∀ c ∈ DIG.cps.toList, c ∉ LET.cps.toList := by decide +kernel
theorem nm_list (c : Nat) (i : Int) : (nm c i).cps.toList = c :: ((toString i : String) : Str).cps.toList := by
  show (#[c] ++ ((toString i : String) : Str).cps).toList = _
  simp
theorem nm_name {c : Nat} (hc : c ∈ LET.cps.toList) {i : Int} (h0 : 0 ≤ i) (h1 : i < 16) : isName (nm c i) = true ∧ (nm c i).length ≤ 10 := by
  have e : i = (((⟨i.toNat, by omega⟩ : _root_.Fin 16).val : Nat) : Int) := by
    show i = ((i.toNat : Nat) : Int)
    omega
  obtain ⟨d1, d2, d3⟩ := dig_facts ⟨i.toNat, by omega⟩
  rw [← e] at d1 d2 d3
  have hl := nm_list c i
  have h0 : (nm c i).cps.toList[0]? = some c := by rw [hl]; rfl
  constructor
  · rw [isName_at h0, hl]
    simp only [Bool.and_eq_true, decide_eq_true_eq, Bool.not_eq_true']
    refine ⟨⟨hc, ?_⟩, ?_⟩
    · rw [List.all_eq_true]
      intro x hx
      unfold al
      simp only [Bool.or_eq_true, decide_eq_true_eq]
      rcases List.mem_cons.mp hx with q | q
      · rw [q]; exact .inl hc
      · exact .inr (d2 x q)
    · cases q : inV (.str (nm c i)) (KWS.map V.str) with
      | false => rfl
      | true =>
        unfold inV at q
        obtain ⟨v, hv, q⟩ := List.any_eq_true.mp q
        obtain ⟨k, hk, rfl⟩ := List.mem_map.mp hv
        have q : k = nm c i := by
          have q : (k == nm c i) = true := q
          simpa using q
        obtain ⟨x, hx⟩ := List.exists_mem_of_ne_nil _ d1
        exact absurd (kws_let k hk x (by rw [q, hl]; exact List.mem_cons_of_mem _ hx)) (let_dig x (d2 x hx))
  · show (nm c i).cps.size ≤ 10
    rw [← Array.length_toList, hl, List.length_cons]
    omega
theorem nm_inj {c : Nat} {i j : Int} (i0 : 0 ≤ i) (i1 : i < 16) (j0 : 0 ≤ j) (j1 : j < 16) (h : nm c i = nm c j) : i = j := by
  have q : ((toString i : String) : Str).cps.toList = ((toString j : String) : Str).cps.toList := by
    have z := congrArg (fun z : Str => z.cps.toList) h
    simp only [nm_list] at z
    exact (List.cons.inj z).2
  have e : ((toString i : String) : Str) = ((toString j : String) : Str) := by
    have z := congrArg List.toArray q
    simp only [Array.toArray_toList] at z
    cases hx : ((toString i : String) : Str) with
    | mk a =>
      cases hy : ((toString j : String) : Str) with
      | mk b =>
        rw [hx, hy] at z
        rw [show a = b from z]
  have ei : i = (((⟨i.toNat, by omega⟩ : _root_.Fin 16).val : Nat) : Int) := by
    show i = ((i.toNat : Nat) : Int)
    omega
  have ej : j = (((⟨j.toNat, by omega⟩ : _root_.Fin 16).val : Nat) : Int) := by
    show j = ((j.toNat : Nat) : Int)
    omega
  rw [ei, ej] at e
  have f := congrArg Fin.val (dig_inj _ _ e)
  have f : i.toNat = j.toNat := f
  omega
def nms (c : Nat) (s : Int) (n : Nat) : List Str := (List.range n).map fun k => nm c ((7 * (k : Nat) + s) % 16)
theorem nms_ok {c : Nat} (hc : c ∈ LET.cps.toList) {s : Int} (s0 : 0 ≤ s) (s1 : s < 16) {n : Nat} (hn : n ≤ 16) : NamesOk (nms c s n) := by
  have b : ∀ k : Nat, 0 ≤ (7 * (k : Int) + s) % 16 ∧ (7 * (k : Int) + s) % 16 < 16 := fun k => ⟨Int.emod_nonneg _ (by decide), Int.emod_lt_of_pos _ (by decide)⟩
  refine ⟨?_, fun x hx => ?_, fun x hx => ?_, fun x hx => ?_⟩
  · unfold nms
    rw [List.nodup_iff_pairwise_ne, List.pairwise_map]
    refine List.Pairwise.imp_of_mem (fun {i j} hi hj hne z => hne ?_) List.nodup_range
    have hi := List.mem_range.mp hi
    have hj := List.mem_range.mp hj
    have q := nm_inj (b i).1 (b i).2 (b j).1 (b j).2 z
    have m := mod_inj ⟨s.toNat, by omega⟩ ⟨i, by omega⟩ ⟨j, by omega⟩ (by show (7 * i + s.toNat) % 16 = (7 * j + s.toNat) % 16; omega)
    exact congrArg Fin.val m
  · obtain ⟨k, _, rfl⟩ := List.mem_map.mp hx
    exact (nm_name hc (b k).1 (b k).2).1
  · obtain ⟨k, _, rfl⟩ := List.mem_map.mp hx
    exact (nm_name hc (b k).1 (b k).2).2
  · obtain ⟨k, _, rfl⟩ := List.mem_map.mp hx
    have e : (7 * (k : Int) + s) % 16 = (((⟨((7 * (k : Int) + s) % 16).toNat, by have := b k; omega⟩ : _root_.Fin 16).val : Nat) : Int) := by
      show _ = ((((7 * (k : Int) + s) % 16).toNat : Nat) : Int)
      have := b k
      omega
    obtain ⟨d1, _, _⟩ := dig_facts ⟨((7 * (k : Int) + s) % 16).toNat, by have := b k; omega⟩
    rw [← e] at d1
    show 2 ≤ (nm c ((7 * (k : Int) + s) % 16)).cps.size
    rw [← Array.length_toList, nm_list, List.length_cons]
    have := List.length_pos_iff.mpr d1
    omega
def spNames : Sp := fun vs H Q _ => ∃ (p c : Addr) (lim : V) (n : Nat), vs = [.ref p] ∧ PoolAt H p c lim n ∧ n < 100000000000 ∧
  ∀ (q : Addr) (ns : List Str) (H' : Hp), NamesOk ns → ns.length = 16 → PoolAt H' p c lim (n + 2) → But p c H H' → H q = none → H' q = some (.lst (ns.map V.str)) → Q (.ref q) H'
structure TxNames (mg : Str → Option Value) : Prop where
  n_str : mg "str" = none
  n_range : mg "range" = none
section
variable {P : Program} {w : World} {K : PySem.W.Frag} {mg : Str → Option Value} {base : Heap}
theorem log2_small {i : Int} (h0 : 0 ≤ i) (h1 : i < 16) : i.natAbs.log2 < 1920 := by
  have : i.natAbs.log2 ≤ i.natAbs := Nat.log2_le_self _
  omega
theorem ok_Names {f : Addr} {fd : FuncData} (F : Fun K "_law_names" "_law_names" sNames f fd) (T : TxNames mg) (GD : Has P w K mg base CX0 2 "_law_draw" PDraw spDraw) : FnOk P w K mg base CX0 3 f fd PNames spNames := by
  refine F.ok scNames (fun vs H Q E h => ?_) (fun cdv A outer s H vs Q E hr h => ?_)
  · obtain ⟨p, c, lim, n, rfl, _⟩ := h
    rfl
  · obtain ⟨p, c, lim, n, rfl, P0, hn, k⟩ := h
    refine ⟨_, (pss_cons (ps_set (i := 1) scNames.nd rfl (Or.inr rfl) (pe_ix ix_str pe_str (pe_callH GD hr rfl pass0 (pa_cons (pv 0) (pa_cons pe_int pa_nil))) (fun _ _ => rfl)))
  (pss_cons (ps_set (i := 2) scNames.nd rfl (Or.inr rfl) (pe_callH GD hr rfl pass0 (pa_cons (pv 0) (pa_cons pe_int pa_nil))))
  (pss_one (ps_ret (pe_lc (own := [("_law_k", 3)]) (g := gName 3) (tt := tYes) rfl scNames.nd (pi_range1 (by rfl) T.n_range (pa_cons pe_int pa_nil)) (blkOk_by (own := [("_law_k", 3)]) (N := NNames) (sc := (defScope sNames)) (by decide +kernel)) (fun _ _ _ _ _ => (pg_name (i := 3) scNames.nd rfl (Or.inl rfl))) (fun _ _ _ _ _ => pts_nil) (fun _ _ _ _ _ => (pe_op op_add_str (pv 1) (pe_callTy call_str_int (by rfl) T.n_str bb_str (pa_cons (pe_op op_mod (pe_op op_add (pe_op op_mul pe_int (pv 3)) (pv 2)) pe_int) pa_nil))))))))), ?_⟩
    refine ⟨_, rfl, p, c, lim, n, 26, rfl, P0, by omega, by decide, by decide, fun r H1 r0 r1 P1 b1 => ?_⟩
    obtain ⟨lc, hlc, mlc⟩ := atI_in (xs := LET.cps.toList) r0 (by rw [show LET.cps.toList.length = 26 by decide +kernel]; exact r1)
    refine ⟨_, _, lc, rfl, rfl, by decide +kernel, hlc, ?_⟩
    refine ⟨_, rfl, p, c, lim, n + 1, 16, rfl, P1, by omega, by decide, by decide, fun sh H2 s0 s1 P2 b2 => ?_⟩
    refine ⟨16, rfl, by decide, by decide, fun D hD => ?_⟩
    have Dp := P2.ne1 hD
    have Dc := P2.ne2 hD
    refine lc_range (lo := 0) (n := 16) (fun i H' => Same H2 H' ∧ H' D = some (.lst ((nms lc sh i).map V.str))) ⟨same_new hD, upd_same⟩ ?_ ?_
    · rintro i H3 hi ⟨s3, e3⟩
      have b : 0 ≤ (7 * (0 + (i : Int)) + sh) % 16 ∧ (7 * (0 + (i : Int)) + sh) % 16 < 16 := ⟨Int.emod_nonneg _ (by decide), Int.emod_lt_of_pos _ (by decide)⟩
      refine ⟨rfl, _, rfl, _, rfl, _, _, rfl, rfl, .inl ⟨by decide, by decide⟩, _, rfl, _, _, rfl, rfl, _, _, rfl, rfl, (show (0 : Int) < 16 by decide), _, rfl, log2_small b.1 b.2, _, _, rfl, rfl, ?_, _, e3, small1000 ?_, fun b o z => ?_, ?_⟩
      · have q := (nm_name mlc b.1 b.2).2
        unfold nm at q
        rw [str_app_len] at q
        exact Nat.le_trans q (by decide)
      · unfold nms
        rw [List.length_map, List.length_map, List.length_range]
        omega
      · rw [upd_ne (ne_of_none z hD)]
        exact s3 b o z
      · rw [upd_same]
        unfold nms
        rw [List.range_succ, List.map_append, List.map_append]
        show some (HO.lst (_ ++ [V.str (nm lc ((7 * (0 + (i : Int)) + sh) % 16))])) = _
        rw [Int.zero_add]
        rfl
    · rintro H3 ⟨s3, e3⟩
      have hD0 : H D = none := by
        cases q : H D with
        | none => rfl
        | some o => rw [b2 D o (b1 D o q Dp Dc) Dp Dc] at hD; cases hD
      refine k D _ H3 (nms_ok mlc s0 s1 (Nat.le_refl 16)) (by unfold nms; rw [List.length_map, List.length_range]) (P2.same s3) (fun b o z h1 h2 => s3 b o (b2 b o (b1 b o z h1 h2) h1 h2)) hD0 e3
end

/-! ### the law's drawn tree -/
abbrev sLTr : Stmt := topS 74
abbrev NLTr : List Str := ["_law_pool_here", "_law_words", "_law_names_here", "_law_kinds", "_law_heads", "_law_k", "_law_params", "_law_keeps", "_law_functions", "_law_head", "_law_own", "_law_param", "_law_first"]
abbrev PLTr : List Str := ["_law_pool_here"]
theorem scLTr : FnScope NLTr PLTr (defScope sLTr) := ⟨rfl, rfl, rfl, by decide +kernel, rfl, by decide +kernel, by decide +kernel⟩
def rCatU (K : PySem.W.Frag) : R2 := fun x y H Q => ∃ a b xs ys, x = .ref a ∧ y = .ref b ∧ SqT K H a xs ∧ SqT K H b ys ∧ xs ≠ [] ∧ xs.length + ys.length ≤ sizeLine ∧ ∀ p H', Same H H' → SqT K H' p (xs ++ ys) → Q (.ref p) H'
theorem op_catU {X : Cx} : OpR X (binaryOp .Add) (rCatU X.K) := fun pins s σ H x y v u Q I rx ry ⟨a, b, xs, ys, e1, e2, q1, q2, ne, sz, k⟩ =>
  op_catT pins s σ H x y v u Q I rx ry ⟨a, b, xs, ys, e1, e2, q1, q2, ne, sz, fun e => k a H (Same.refl _) (by rw [e, List.append_nil]; exact q1), fun _ p hp => k p _ (same_new hp) (SqT.of upd_same)⟩
structure LsAt (H : Hp) (p c q : Addr) (xs : List V) : Prop where
  e : H q = some (.lst xs)
  n1 : q ≠ p
  n2 : q ≠ c
theorem LsAt.but {H H' : Hp} {p c q : Addr} {xs : List V} (h : LsAt H p c q xs) (b : But p c H H') : LsAt H' p c q xs := ⟨b _ _ h.e h.n1 h.n2, h.n1, h.n2⟩
theorem LsAt.same {H H' : Hp} {p c q : Addr} {xs : List V} (h : LsAt H p c q xs) (b : Same H H') : LsAt H' p c q xs := ⟨b _ _ h.e, h.n1, h.n2⟩
theorem LsAt.new {H : Hp} {p c q : Addr} {xs : List V} {lim : V} {n : Nat} (h : PoolAt H p c lim n) (hq : H q = none) : LsAt (upd H q (.lst xs)) p c q xs := ⟨upd_same, h.ne1 hq, h.ne2 hq⟩
theorem LsAt.upd {H : Hp} {p c q r : Addr} {xs : List V} {o : HO} (h : LsAt H p c q xs) (n : q ≠ r) : LsAt (upd H r o) p c q xs := ⟨by rw [upd_ne n]; exact h.e, h.n1, h.n2⟩
theorem cut_3 {l : List Str} {r : Int} (r0 : 0 ≤ r) : cutV (l.map V.str) (some 3) (some (4 + r)) = ((l.drop 3).take (1 + r.toNat)).map V.str := by
  obtain ⟨a, rfl⟩ : ∃ a : Nat, r = (a : Int) := ⟨r.toNat, by omega⟩
  unfold cutV
  rw [show (3 : Int) = ((3 : Nat) : Int) from rfl, show ((4 : Int) + (a : Int)) = ((4 + a : Nat) : Int) by omega, HT.sIx_nat, HT.sIx_nat, List.length_map, List.map_take, List.map_drop, Int.toNat_natCast]
  rcases Nat.le_or_ge l.length 3 with h | h
  · rw [Nat.min_eq_right h, List.drop_of_length_le (by rw [List.length_map]; exact Nat.le_refl _), List.drop_of_length_le (by rw [List.length_map]; exact h)]
    simp
  · rw [Nat.min_eq_left h, List.take_eq_take_iff, List.length_drop, List.length_map]
    omega
theorem dpAll_take {K : PySem.W.Frag} {H : Hp} : ∀ {xs : List V} {ds : List PyData} (k : Nat), DpAll K H xs ds → DpAll K H (xs.take k) (ds.take k)
  | _, _, 0, _ => by rw [List.take_zero, List.take_zero]; exact .nil
  | _, _, _ + 1, .nil => by rw [List.take_nil, List.take_nil]; exact .nil
  | _, _, k + 1, .cons a b => by rw [List.take_succ_cons, List.take_succ_cons]; exact .cons a (dpAll_take k b)
theorem cut_last {l : List V} {x : V} : cutV (l ++ [x]) none (some (-1)) = l := by
  unfold cutV
  rw [HT.sIx_none, List.drop_zero]
  show (l ++ [x]).take ((if (-1 : Int) < 0 then ((-1 : Int) + ((l ++ [x]).length : Int)).toNat else min (-1 : Int).toNat (l ++ [x]).length) - 0) = l
  rw [if_pos (by decide), List.length_append]
  have e : ((-1 : Int) + ((l.length + [x].length : Nat) : Int)).toNat - 0 = l.length := by
    show ((-1 : Int) + ((l.length + 1 : Nat) : Int)).toNat - 0 = _
    omega
  rw [e, List.take_append_of_le_length (Nat.le_refl _), List.take_length]
theorem split8 {ws : List Str} {w8 w9 w10 : Str} (h8 : ws[8]? = some w8) (h9 : ws[9]? = some w9) (h10 : ws[10]? = some w10) : ∃ r, ws.drop 8 = w8 :: w9 :: w10 :: r := by
  have e : ∀ i, (ws.drop 8)[i]? = ws[8 + i]? := fun i => List.getElem?_drop
  have e0 := e 0
  have e1 := e 1
  have e2 := e 2
  rw [h8] at e0
  rw [h9] at e1
  rw [h10] at e2
  cases h : ws.drop 8 with
  | nil => rw [h] at e0; cases e0
  | cons a r =>
    rw [h] at e0 e1 e2
    cases r with
    | nil => cases e1
    | cons b r =>
      cases r with
      | nil => cases e2
      | cons d r =>
        simp at e0 e1 e2
        subst e0 e1 e2
        exact ⟨r, rfl⟩
theorem take2_sub {a b : Str} (k : Nat) : ([a, b].take k).Sublist [a, b] := List.take_sublist _ _
theorem own_sub {ws : List Str} {w8 w9 w10 : Str} (h8 : ws[8]? = some w8) (h9 : ws[9]? = some w9) (h10 : ws[10]? = some w10) {nN : Nat} (hN : nN ≤ 8) {q : List Str} (hq : q.Sublist [w8, w9]) : (ws.take nN ++ (q ++ [w10])).Sublist ws := by
  obtain ⟨r, e⟩ := split8 h8 h9 h10
  have z : ws = ws.take 8 ++ (w8 :: w9 :: w10 :: r) := by rw [← e, List.take_append_drop]
  have s1 : (ws.take nN).Sublist (ws.take 8) := List.take_sublist_take_left hN
  have s2 : (q ++ [w10]).Sublist (w8 :: w9 :: w10 :: r) := by
    have z2 : (q ++ [w10]).Sublist ([w8, w9] ++ (w10 :: r)) := List.Sublist.append hq (List.Sublist.cons₂ _ (List.nil_sublist _))
    exact z2
  exact (s1.append s2).trans (by rw [← z]; exact List.Sublist.refl _)
/-- what is drawn -/
structure DrawnT (t : Tr) : Prop where
  ex : ∃ ws : List Str, NamesOk ws ∧ ws.length = 16 ∧ ∃ nN nK : Nat, nN ≤ 2 ∧ 1 ≤ nK ∧ nK ≤ 2 ∧ t.names = ws.take nN ∧ t.kinds = (ws.drop 3).take nK ∧
    (∀ e ∈ t.keeps, e.c = 0 ∧ EX t.names e) ∧ t.keeps.length ≤ 1 ∧ 1 ≤ t.fns.length ∧ t.fns.length ≤ 3 ∧ t.fns.map Fn.name = (ws.drop 5).take t.fns.length ∧
    (t.fns.map fun f => szB f.b).sum ≤ 33 ∧
    ∃ w8 w9 w10, ws[8]? = some w8 ∧ ws[9]? = some w9 ∧ ws[10]? = some w10 ∧
      ∀ f ∈ t.fns, (∃ b1 b2 k, f.ps = [(w8, b1), (w9, b2)].take k) ∧ ∃ e blk, f.b = .set w10 e :: blk ∧ blk.length ≤ 3 ∧ dpB blk ≤ 5 ∧ EX (t.names ++ prs f) e ∧
        wL (t.names ++ (prs f ++ [w10])) t.kinds (t.fns.map fun f => (f.name, f.ps)) false blk
def ct : Nat := 200 + 3 * (100 + cb 5)
theorem ct_eq : ct = 200 + 3 * (100 + cb 5) := rfl
theorem cb5 : cb 5 ≤ 20000000 := by decide
def spLTr (K : PySem.W.Frag) : Sp := fun vs H Q _ => ∃ (p c : Addr) (n : Nat), vs = [.ref p] ∧ PoolAt H p c (Lim 30) n ∧ n ≤ 1000000000 ∧
  ∀ (v : V) (t : Tr) (bu : Nat) (H' : Hp), DrawnT t → Dp K H' v (trD t) → PoolAt H' p c (Lim bu) (n + ct) → But p c H H' → Q v H'
section
variable {P : Program} {w : World} {K : PySem.W.Frag} {mg : Str → Option Value} {base : Heap}
theorem ok_pb {fp fb : Addr} {dp db : FuncData} (FP : Fun K "_law_piece" "_law_piece" sLPi fp dp) (FB : Fun K "_law_block" "_law_block" sLBk fb db) (T : TxGen mg)
    (mp : mg "_law_piece" = some (.ref fp)) (kp : PySem.W.keepIn K (.ref fp) = true) (bp : Binds K dp PLPi []) (mb : mg "_law_block" = some (.ref fb)) (kb : PySem.W.keepIn K (.ref fb) = true) (bb : Binds K db PLBk [])
    (GD : Has P w K mg base CX0 2 "_law_draw" PDraw spDraw) (GE : Has P w K mg base CX0 3 "_law_expression" PLEx (spLEx K)) (GC : Has P w K mg base CX0 5 "_law_call" PLCa (spLCa K)) : ∀ m, FnOk P w K mg base CX0 (5 + 2 * m) fb db PLBk (spLBk K m) := by
  have vac : ∀ {vs : List V} {H : Hp} {Q : VK} {E : XK}, spLBk K 0 vs H Q E → False := fun h => by
    obtain ⟨p, c, v, n, bu, d, last, own, kinds, heads, rfl, P0, hn, ev, ok, hf, ht, k⟩ := h
    cases last with
    | true => have := ht rfl; omega
    | false => have := hf rfl; omega
  intro m
  induction m with
  | zero => exact ⟨fun vs H Q E h => (vac h).elim, fun _ _ _ _ _ _ _ _ _ _ _ _ _ h => (vac h).elim⟩
  | succ m ih =>
    have GB : Has P w K mg base CX0 (5 + 2 * m) "_law_block" PLBk (spLBk K m) := ⟨fb, db, ih, mb, kb, bb⟩
    have GP : Has P w K mg base CX0 (5 + 2 * m + 1) "_law_piece" PLPi (spLPi K m) := ⟨fp, dp, ok_LPi FP T GD GE GC GB, mp, kp, bp⟩
    rw [show 5 + 2 * m + 1 = 6 + 2 * m by omega] at GP
    have r := ok_LBk FB T GD GP
    rw [show 6 + 2 * m + 1 = 5 + 2 * (m + 1) by omega] at r
    exact r
theorem ok_LTr {f : Addr} {fd : FuncData} (F : Fun K "_law_tree" "_law_tree" sLTr f fd) (T : TxGen mg) (GD : Has P w K mg base CX0 2 "_law_draw" PDraw spDraw) (GN : Has P w K mg base CX0 3 "_law_names" PNames spNames) (GE : Has P w K mg base CX0 3 "_law_expression" PLEx (spLEx K)) (GB : Has P w K mg base CX0 15 "_law_block" PLBk (spLBk K 5)) : FnOk P w K mg base CX0 16 f fd PLTr (spLTr K) := by
  refine F.ok scLTr (fun vs H Q E h => ?_) (fun cdv A outer s H vs Q E hr h => ?_)
  · obtain ⟨p, c, n, rfl, _⟩ := h
    rfl
  · obtain ⟨p, c, n, rfl, P0, hn, k⟩ := h
    have hr2 := hr.mono (j := 2) (by omega)
    have hr3 := hr.mono (j := 3) (by omega)
    have hcb := cb5
    have hct := ct_eq
    obtain ⟨c5, hc5⟩ : ∃ c5, c5 = cb 5 := ⟨_, rfl⟩
    rw [← hc5] at hcb hct
    refine ⟨_, (pss_cons (ps_set (i := 1) scLTr.nd rfl (Or.inl rfl) (pe_callH GN hr3 rfl pass0 (pa_cons (pv 0) pa_nil)))
  (pss_cons (ps_set (i := 2) scLTr.nd rfl (Or.inl rfl) (pe_slice sl_list (pv 1) po_none (po_some (pe_callH GD hr2 rfl pass0 (pa_cons (pv 0) (pa_cons pe_int pa_nil))))))
  (pss_cons (ps_set (i := 3) scLTr.nd rfl (Or.inl rfl) (pe_slice sl_list (pv 1) (po_some pe_int) (po_some (pe_op op_add pe_int (pe_callH GD hr2 rfl pass0 (pa_cons (pv 0) (pa_cons pe_int pa_nil)))))))
  (pss_cons (ps_set (i := 4) scLTr.nd rfl (Or.inl rfl) (pe_lst pa_nil))
  (pss_cons (ps_for PassesOwn.never rfl (pi_range1 (by rfl) T.n_range (pa_cons (pe_op op_add pe_int (pe_callH GD hr2 rfl pass0 (pa_cons (pv 0) (pa_cons pe_int pa_nil)))) pa_nil)) (pg_name (i := 5) scLTr.nd rfl (Or.inl rfl))
  (pss_cons (ps_set (i := 6) scLTr.nd rfl (Or.inl rfl) (pe_lst (pa_cons (pe_tup (pa_cons (pe_ix (r := rIxL K) ix_list (pv 1) pe_int (fun _ _ => rfl)) (pa_cons (pe_cmpR op_eq (pe_callH GD hr2 rfl pass0 (pa_cons (pv 0) (pa_cons pe_int pa_nil))) pe_int (nomark _)) pa_nil))) (pa_cons (pe_tup (pa_cons (pe_ix (r := rIxL K) ix_list (pv 1) pe_int (fun _ _ => rfl)) (pa_cons (pe_cmpR op_eq (pe_callH GD hr2 rfl pass0 (pa_cons (pv 0) (pa_cons pe_int pa_nil))) pe_int (nomark _)) pa_nil))) pa_nil))))
  (pss_one (ps_expr (pe_bm PySem.F.plainAttrs_list PySem.F.slot_list_append PySem.F.type_list_append mt_append (pv 4) (pa_cons (pe_tup (pa_cons (pe_ix (r := rIxL K) ix_list (pv 1) (pe_op op_add pe_int (pv 5)) (fun _ _ => rfl)) (pa_cons (pe_callTy call_tuple_of (by rfl) T.n_tuple bb_tuple (pa_cons (pe_slice sl_list (pv 6) po_none (po_some (pe_callH GD hr2 rfl pass0 (pa_cons (pv 0) (pa_cons pe_int pa_nil))))) pa_nil)) pa_nil))) pa_nil))))))
  (pss_cons (ps_set (i := 7) scLTr.nd rfl (Or.inl rfl) (pe_lst pa_nil))
  (C8.pss_cut (ps_if (PW.pt (pw_and (pt_cmpR op_gt (pe_callB call_len_seq (by rfl) T.n_len bb_len (pa_cons (pv 2) pa_nil)) pe_int (nomark _)) (pw_and1 (pt_cmpR op_eq (pe_callH GD hr2 rfl pass0 (pa_cons (pv 0) (pa_cons pe_int pa_nil))) pe_int (nomark _)))))
  (pss_one (ps_expr (pe_bm PySem.F.plainAttrs_list PySem.F.slot_list_append PySem.F.type_list_append mt_append (pv 7) (pa_cons (pe_tup (pa_cons pe_int (pa_cons (pe_ix (r := rIxT K) ix_tup (pe_callH GE hr3 rfl pass0 (pa_cons (pv 0) (pa_cons (pv 2) (pa_cons pe_int pa_nil)))) pe_int (fun _ _ => rfl)) pa_nil))) pa_nil))))
  pss_nil)
  (pss_cons (ps_set (i := 8) scLTr.nd rfl (Or.inl rfl) (pe_lst pa_nil))
  (pss_cons (ps_for PassesOwn.never rfl (pi_list (pv 4)) (pg_name (i := 9) scLTr.nd rfl (Or.inl rfl))
  (pss_cons (ps_set (i := 10) scLTr.nd rfl (Or.inl rfl) (pe_op op_cat (pe_op op_cat (pv 2) (pe_lc (own := [("_law_param", 11)]) (g := gName 11) (tt := tYes) rfl scLTr.nd (pi_tup (pe_ix (r := rIxT K) ix_tup (pv 9) pe_int (fun _ _ => rfl))) (blkOk_by (own := [("_law_param", 11)]) (N := NLTr) (sc := (defScope sLTr)) (by decide +kernel)) (fun _ _ _ _ _ => (pg_name (i := 11) scLTr.nd rfl (Or.inl rfl))) (fun _ _ _ _ _ => pts_nil) (fun _ _ _ _ _ => (pe_ix (r := rIxT K) ix_tup (pv 11) pe_int (fun _ _ => rfl))))) (pe_lst (pa_cons (pe_ix (r := rIxL K) ix_list (pv 1) pe_int (fun _ _ => rfl)) pa_nil))))
  (pss_cons (ps_set (i := 12) scLTr.nd rfl (Or.inl rfl) (pe_tup (pa_cons pe_str (pa_cons (pe_ix (r := rIxL K) ix_list (pv 1) pe_int (fun _ _ => rfl)) (pa_cons (pe_callH GE hr3 rfl pass0 (pa_cons (pv 0) (pa_cons (pe_slice sl_list (pv 10) po_none (po_some (pe_un un_neg pe_int))) (pa_cons pe_int pa_nil)))) pa_nil)))))
  (pss_one (ps_expr (pe_bm PySem.F.plainAttrs_list PySem.F.slot_list_append PySem.F.type_list_append mt_append (pv 8) (pa_cons (pe_op op_catU (pv 9) (pe_tup (pa_cons (pe_op op_catU (pe_tup (pa_cons (pv 12) pa_nil)) (pe_callH GB hr rfl pass0 (pa_cons (pv 0) (pa_cons (pe_tup (pa_cons (pv 10) (pa_cons (pv 3) (pa_cons (pv 4) pa_nil)))) (pa_cons pe_int (pa_cons pe_bl pa_nil)))))) pa_nil))) pa_nil)))))))
  (pss_one (ps_ret (pe_tup (pa_cons (pe_callTy call_tuple_of (by rfl) T.n_tuple bb_tuple (pa_cons (pv 2) pa_nil)) (pa_cons (pe_callTy call_tuple_of (by rfl) T.n_tuple bb_tuple (pa_cons (pv 3) pa_nil)) (pa_cons (pe_callTy call_tuple_of (by rfl) T.n_tuple bb_tuple (pa_cons (pv 7) pa_nil)) (pa_cons (pe_callTy call_tuple_of (by rfl) T.n_tuple bb_tuple (pa_cons (pv 8) pa_nil)) pa_nil)))))))))))))))), ?_⟩
    refine ⟨_, rfl, p, c, Lim 30, n, rfl, P0, by omega, fun wl ws H1 nok l16 P1 b1 nw ew => ?_⟩
    have lw : LsAt H1 p c wl (ws.map V.str) := ⟨ew, P0.ne1 nw, P0.ne2 nw⟩
    have fw := nw
    clear ew nw
    refine ⟨_, rfl, _, rfl, p, c, Lim 30, n + 2, 3, rfl, P1, by omega, by decide, by decide, fun rN H2 rN0 rN1 P2 b2 => ?_⟩
    have lw := lw.but b2
    refine ⟨_, rfl, wl, _, rfl, SqL.of lw.e, fun nl hnl => ?_⟩
    rw [cut_upto rN0]
    have ln : LsAt (upd H2 nl (.lst ((ws.take rN.toNat).map V.str))) p c nl _ := LsAt.new P2 hnl
    have s3 := same_new (o := .lst ((ws.take rN.toNat).map V.str)) hnl
    have P3 := P2.same s3
    have lw := lw.same s3
    have b3 : But p c H _ := fun b o z h1 h2 => s3 _ _ (b2 _ _ (b1 _ _ z h1 h2) h1 h2)
    clear hnl s3 b2 P2 P1 b1
    generalize upd H2 nl (.lst ((ws.take rN.toNat).map V.str)) = H3 at *
    refine ⟨_, rfl, _, rfl, _, rfl, p, c, Lim 30, n + 3, 2, rfl, P3, by omega, by decide, by decide, fun rK H4 rK0 rK1 P4 b4 => ?_⟩
    have lw := lw.but b4
    have ln := ln.but b4
    refine ⟨_, _, rfl, rfl, _, rfl, wl, _, rfl, SqL.of lw.e, fun kl hkl => ?_⟩
    rw [cut_3 rK0]
    have lk : LsAt (upd H4 kl (.lst (((ws.drop 3).take (1 + rK.toNat)).map V.str))) p c kl _ := LsAt.new P4 hkl
    have s5 := same_new (o := .lst (((ws.drop 3).take (1 + rK.toNat)).map V.str)) hkl
    have P5 := P4.same s5
    have lw := lw.same s5
    have ln := ln.same s5
    have b5 : But p c H _ := fun b o z h1 h2 => s5 _ _ (b4 _ _ (b3 _ _ z h1 h2) h1 h2)
    clear hkl s5 b4 P4 P3 b3
    generalize upd H4 kl (.lst (((ws.drop 3).take (1 + rK.toNat)).map V.str)) = H5 at *
    refine ⟨(by show 0 ≤ sizeLine; decide), fun hl hhl => ?_⟩
    have lh : LsAt (upd H5 hl (.lst [])) p c hl [] := LsAt.new P5 hhl
    have s6 := same_new (o := .lst []) hhl
    have hw : hl ≠ wl := fun z => by rw [z, lw.e] at hhl; cases hhl
    have hN : hl ≠ nl := fun z => by rw [z, ln.e] at hhl; cases hhl
    have hK : hl ≠ kl := fun z => by rw [z, lk.e] at hhl; cases hhl
    have P6 := P5.same s6
    have lw := lw.same s6
    have ln := ln.same s6
    have lk := lk.same s6
    have b6 : But p c H _ := fun b o z h1 h2 => s6 _ _ (b5 _ _ z h1 h2)
    have hlp := P5.ne1 hhl
    have hlc := P5.ne2 hhl
    have fh : H hl = none := by
      cases q : H hl with
      | none => rfl
      | some o =>
        have z : H5 hl = some o := b5 _ _ q hlp hlc
        rw [hhl] at z; cases z
    clear hhl s6 b5 P5
    generalize upd H5 hl (.lst []) = H6 at *
    obtain ⟨w8, h8⟩ : ∃ x, ws[8]? = some x := ⟨_, List.getElem?_eq_getElem (by omega)⟩
    obtain ⟨w9, h9⟩ : ∃ x, ws[9]? = some x := ⟨_, List.getElem?_eq_getElem (by omega)⟩
    obtain ⟨w10, h10⟩ : ∃ x, ws[10]? = some x := ⟨_, List.getElem?_eq_getElem (by omega)⟩
    have a8 : atI (ws.map V.str) 8 = some (.str w8) := atI_nat (j := 8) (by rw [List.getElem?_map, h8]; rfl)
    have a9 : atI (ws.map V.str) 9 = some (.str w9) := atI_nat (j := 9) (by rw [List.getElem?_map, h9]; rfl)
    have a10 : atI (ws.map V.str) 10 = some (.str w10) := atI_nat (j := 10) (by rw [List.getElem?_map, h10]; rfl)
    refine ⟨_, rfl, p, c, Lim 30, n + 4, 3, rfl, P6, by omega, by decide, by decide, fun rh H7 rh0 rh1 P7 b7 => ?_⟩
    have b67 : But p c H H7 := fun b o z h1 h2 => b7 _ _ (b6 _ _ z h1 h2) h1 h2
    have lw := lw.but b7
    have ln := ln.but b7
    have lk := lk.but b7
    have lh := lh.but b7
    refine ⟨_, _, rfl, rfl, _, rfl, by omega, by omega, ?_⟩
    refine for_range (lo := 0) (n := (1 + rh).toNat) (fun i σ H' => (∃ x5 x6 : Option V, σ = [some (.ref p), some (.ref wl), some (.ref nl), some (.ref kl), some (.ref hl), x5, x6, none, none, none, none, none, none]) ∧ PoolAt H' p c (Lim 30) (n + 5 + 3 * i) ∧ But p c H H' ∧ LsAt H' p c wl (ws.map V.str) ∧ LsAt H' p c nl ((ws.take rN.toNat).map V.str) ∧ LsAt H' p c kl (((ws.drop 3).take (1 + rK.toNat)).map V.str) ∧
      ∃ hs heads, LsAt H' p c hl hs ∧ hs.length = i ∧ Paired (fun x h => Dp K H' x (hdaD h)) hs heads ∧ heads.map Prod.fst = (ws.drop 5).take i ∧ ∀ h ∈ heads, ∃ b1 b2 k, h.2 = [(w8, b1), (w9, b2)].take k)
      ⟨⟨_, _, rfl⟩, P7, b67, lw, ln, lk, [], [], lh, rfl, .nil, by simp, fun _ z => (nomatch z)⟩ ?_ ?_
    · rintro i σ H8 hi ⟨⟨x5, x6, rfl⟩, P8, b8, lw8, ln, lk, hs, heads, lh, lhs, ph, hf, hp⟩
      have lw := lw8
      have hi3 : i < 3 := by omega
      obtain ⟨wi, hwi⟩ : ∃ x, ws[5 + i]? = some x := ⟨_, List.getElem?_eq_getElem (by omega)⟩
      have ai : atI (ws.map V.str) (5 + (0 + (i : Int))) = some (.str wi) := by
        rw [show (5 + (0 + (i : Int))) = ((5 + i : Nat) : Int) by omega]
        exact atI_nat (by rw [List.getElem?_map, hwi]; rfl)
      refine ⟨_, rfl, wl, _, _, _, rfl, rfl, SqL.of lw.e, a8, ?_⟩
      refine ⟨_, rfl, p, c, Lim 30, n + 5 + 3 * i, 2, rfl, P8, by omega, by decide, by decide, fun r1 H9 r10 r11 P9 b9 => ?_⟩
      have lw := lw.but b9
      refine ⟨rfl, (by show 2 ≤ sizeLine; decide), fun t1 ht1 => ?_⟩
      have s10 := same_new (o := .tup [V.str w8, V.bl (decide (V.int r1 = V.int 1))]) ht1
      have P10 := P9.same s10
      have lw := lw.same s10
      have b810 : But p c H8 (upd H9 t1 (.tup [V.str w8, V.bl (decide (V.int r1 = V.int 1))])) := fun b o z h1 h2 => s10 _ _ (b9 _ _ z h1 h2)
      have e1 : upd H9 t1 (.tup [V.str w8, V.bl (decide (V.int r1 = V.int 1))]) t1 = some (.tup [V.str w8, V.bl (decide (V.int r1 = V.int 1))]) := upd_same
      generalize upd H9 t1 (.tup [V.str w8, V.bl (decide (V.int r1 = V.int 1))]) = H10 at *
      refine ⟨_, rfl, wl, _, _, _, rfl, rfl, SqL.of lw.e, a9, ?_⟩
      refine ⟨_, rfl, p, c, Lim 30, n + 5 + 3 * i + 1, 2, rfl, P10, by omega, by decide, by decide, fun r2 H11 r20 r21 P11 b11 => ?_⟩
      have lw := lw.but b11
      have t11 := b11.tps P10
      refine ⟨rfl, (by show 2 ≤ sizeLine; decide), fun t2 ht2 => ?_⟩
      have s12 := same_new (o := .tup [V.str w9, V.bl (decide (V.int r2 = V.int 1))]) ht2
      have P12 := P11.same s12
      have lw := lw.same s12
      have b812 : But p c H8 (upd H11 t2 (.tup [V.str w9, V.bl (decide (V.int r2 = V.int 1))])) := fun b o z h1 h2 => s12 _ _ (b11 _ _ (b810 _ _ z h1 h2) h1 h2)
      have e2 : upd H11 t2 (.tup [V.str w9, V.bl (decide (V.int r2 = V.int 1))]) t2 = some (.tup [V.str w9, V.bl (decide (V.int r2 = V.int 1))]) := upd_same
      have e1 := s12 _ _ (t11.1 _ _ e1)
      clear s12 P11 b11 t11 P10 ht1 s10 b9 P9 b810
      generalize upd H11 t2 (.tup [V.str w9, V.bl (decide (V.int r2 = V.int 1))]) = H12 at *
      refine ⟨(by show 2 ≤ sizeLine; decide), fun pl hpl => ?_⟩
      have lp : LsAt (upd H12 pl (.lst [V.ref t1, V.ref t2])) p c pl _ := LsAt.new P12 hpl
      have s13 := same_new (o := .lst [V.ref t1, V.ref t2]) hpl
      have P13 := P12.same s13
      have lw := lw.same s13
      have e1 := s13 _ _ e1
      have e2 := s13 _ _ e2
      have b813 : But p c H8 (upd H12 pl (.lst [V.ref t1, V.ref t2])) := fun b o z h1 h2 => s13 _ _ (b812 _ _ z h1 h2)
      clear s13 P12 hpl b812
      generalize upd H12 pl (.lst [V.ref t1, V.ref t2]) = H13 at *
      have lh13 := lh.but b813
      -- heads.append
      refine ⟨_, rfl, .inl ⟨rfl, _, SqL.of lh13.e⟩, _, rfl, _, rfl, _, _, rfl, rfl, wl, _, _, _, rfl, rfl, SqL.of lw.e, ai, ?_⟩
      refine ⟨_, rfl, _, rfl, p, c, Lim 30, n + 5 + 3 * i + 2, 3, rfl, P13, by omega, by decide, by decide, fun rk H14 rk0 rk1 P14 b14 => ?_⟩
      have lp := lp.but b14
      have t14 := b14.tps P13
      obtain ⟨kk, rfl⟩ : ∃ a : Nat, rk = (a : Int) := ⟨rk.toNat, by omega⟩
      refine ⟨_, rfl, pl, _, rfl, SqL.of lp.e, fun q hq => ?_⟩
      rw [cut_take]
      have s15 := same_new (o := .lst ([V.ref t1, V.ref t2].take kk)) hq
      refine ⟨q, _, rfl, .inl ⟨SqL.of upd_same, fun l hll => ?_⟩⟩
      have s16 := same_new (o := .tup ([V.ref t1, V.ref t2].take kk)) hll
      refine ⟨(by show 2 ≤ sizeLine; decide), fun t3 ht3 => ?_⟩
      have s17 := same_new (o := .tup [V.str wi, V.ref l]) ht3
      have s1417 := (s15.trans s16).trans s17
      have P17 := P14.same s1417
      have e1 := s1417 _ _ (t14.1 _ _ e1)
      have e2 := s1417 _ _ (t14.1 _ _ e2)
      have el := s17 _ _ (upd_same (H := upd H14 q (.lst ([V.ref t1, V.ref t2].take kk))) (a := l) (o := .tup ([V.ref t1, V.ref t2].take kk)))
      have e3 : upd (upd (upd H14 q (.lst ([V.ref t1, V.ref t2].take kk))) l (.tup ([V.ref t1, V.ref t2].take kk))) t3 (.tup [V.str wi, V.ref l]) t3 = some (.tup [V.str wi, V.ref l]) := upd_same
      have b817 : But p c H8 (upd (upd (upd H14 q (.lst ([V.ref t1, V.ref t2].take kk))) l (.tup ([V.ref t1, V.ref t2].take kk))) t3 (.tup [V.str wi, V.ref l])) := fun b o z h1 h2 => s1417 _ _ (b14 _ _ (b813 _ _ z h1 h2) h1 h2)
      clear s1417 s17 s16 s15 ht3 hll hq P14 lp
      generalize upd (upd (upd H14 q (.lst ([V.ref t1, V.ref t2].take kk))) l (.tup ([V.ref t1, V.ref t2].take kk))) t3 (.tup [V.str wi, V.ref l]) = H17 at *
      have lh17 := lh.but b817
      refine ⟨hl, _, _, rfl, rfl, lh17.e, small1000 (by omega), ?_⟩
      have t18 : Tps H17 (upd H17 hl (.lst (hs ++ [.ref t3]))) := Tps.lst lh17.e
      have dh : Dp K (upd H17 hl (.lst (hs ++ [.ref t3]))) (.ref t3) (hdaD (wi, [(w8, decide (V.int r1 = V.int 1)), (w9, decide (V.int r2 = V.int 1))].take kk)) := by
        have d1 : Dp K (upd H17 hl (.lst (hs ++ [.ref t3]))) (.ref t1) (prD (w8, decide (V.int r1 = V.int 1))) := .tup (SqT.of (t18.1 _ _ e1)) (.cons (.str _) (.cons (.bl _) .nil))
        have d2 : Dp K (upd H17 hl (.lst (hs ++ [.ref t3]))) (.ref t2) (prD (w9, decide (V.int r2 = V.int 1))) := .tup (SqT.of (t18.1 _ _ e2)) (.cons (.str _) (.cons (.bl _) .nil))
        refine .tup (SqT.of (t18.1 _ _ e3)) (.cons (.str _) (.cons (.tup (SqT.of (t18.1 _ _ el)) ?_) .nil))
        rw [List.map_take]
        exact dpAll_take kk (.cons d1 (.cons d2 .nil))
      refine ⟨⟨_, _, rfl⟩, ?_, fun b o z h1 h2 => ?_, (lw8.but b817).upd hw.symm, (ln.but b817).upd hN.symm, (lk.but b817).upd hK.symm, hs ++ [.ref t3], heads ++ [(wi, [(w8, decide (V.int r1 = V.int 1)), (w9, decide (V.int r2 = V.int 1))].take kk)], ⟨upd_same, hlp, hlc⟩, by rw [List.length_append, lhs]; rfl, Paired.snoc (Paired.mapP ph fun _ h z => Dp.tps ((b817.tps P8).trans t18) z (noL_hda h)) dh, ?_, fun h hh => ?_⟩
      · rw [show n + 5 + 3 * (i + 1) = n + 5 + 3 * i + 2 + 1 by omega]
        exact P17.upd hlp hlc
      · rw [upd_ne (ne_of_none z fh)]
        exact b817 _ _ (b8 _ _ z h1 h2) h1 h2
      · rw [List.map_append, hf, take_snoc (l := ws.drop 5) (z := wi) (by rw [List.getElem?_drop]; exact hwi)]
        rfl
      · rcases List.mem_append.mp hh with z | z
        · exact hp h z
        · rw [List.mem_singleton.mp z]
          exact ⟨_, _, kk, rfl⟩
    · rintro σ H8 ⟨⟨x5, x6, rfl⟩, P8, b8, lw, ln, lk, hs, heads, lh, lhs, ph, hf, hp⟩
      have lnn : (ws.take rN.toNat).length ≤ 2 := by rw [List.length_take]; omega
      have nnd : (ws.take rN.toNat).Nodup := nok.nd.sublist (List.take_sublist _ _)
      have lhs3 : hs.length ≤ 3 := by omega
      have lhd : hs.length = heads.length := Paired.length ph
      have e1h : (1 + rh).toNat = heads.length := by omega
      rw [e1h] at P8 hf
      have hd1 : 1 ≤ heads.length ∧ heads.length ≤ 3 := by omega
      clear e1h
      have P8 : PoolAt H8 p c (Lim 30) (n + 14) := P8.mono (by omega)
      refine ⟨(by show 0 ≤ sizeLine; decide), fun kp hkp => ?_⟩
      have s9 := same_new (o := .lst []) hkp
      have lkp : LsAt (upd H8 kp (.lst [])) p c kp [] := LsAt.new P8 hkp
      have kw : kp ≠ wl := fun z => by rw [z, lw.e] at hkp; cases hkp
      have kN : kp ≠ nl := fun z => by rw [z, ln.e] at hkp; cases hkp
      have kK : kp ≠ kl := fun z => by rw [z, lk.e] at hkp; cases hkp
      have kH : kp ≠ hl := fun z => by rw [z, lh.e] at hkp; cases hkp
      have fk : H kp = none := by
        cases q : H kp with
        | none => rfl
        | some o =>
          have z : H8 kp = some o := b8 _ _ q lkp.n1 lkp.n2
          rw [hkp] at z; cases z
      have P9 := P8.same s9
      have lw := lw.same s9
      have ln := ln.same s9
      have lk := lk.same s9
      have lh := lh.same s9
      have ph := Paired.mapP ph fun _ h z => Dp.same s9 z
      have b9 : But p c H (upd H8 kp (.lst [])) := fun b o z h1 h2 => s9 _ _ (b8 _ _ z h1 h2)
      clear hkp s9 P8 b8
      generalize upd H8 kp (.lst []) = H9 at *
      refine ⟨fun σ H' => σ = [some (.ref p), some (.ref wl), some (.ref nl), some (.ref kl), some (.ref hl), x5, x6, some (.ref kp), none, none, none, none, none] ∧ PoolAt H' p c (Lim 30) (n + 25) ∧ But p c H H' ∧ LsAt H' p c wl (ws.map V.str) ∧ LsAt H' p c nl ((ws.take rN.toNat).map V.str) ∧ LsAt H' p c kl (((ws.drop 3).take (1 + rK.toNat)).map V.str) ∧ LsAt H' p c hl hs ∧ Paired (fun x h => Dp K H' x (hdaD h)) hs heads ∧
        ∃ us keeps, LsAt H' p c kp us ∧ Paired (fun x e => Dp K H' x (exD e)) us keeps ∧ keeps.length ≤ 1 ∧ ∀ e ∈ keeps, e.c = 0 ∧ EX (ws.take rN.toNat) e, ?_, ?_⟩
      · refine ⟨_, rfl, nl, _, rfl, .inl (SqL.of ln.e), _, _, rfl, rfl, _, rfl, ?_⟩
        refine ite2 (fun hg => ?_) (fun hg => iteF ?_)
        · refine ⟨_, rfl, p, c, Lim 30, n + 14, 2, rfl, P9, by omega, by decide, by decide, fun rk H10 rk0 rk1 P10 b10 => ?_⟩
          have b910 : But p c H H10 := fun b o z h1 h2 => b10 _ _ (b9 _ _ z h1 h2) h1 h2
          have lw := lw.but b10
          have ln := ln.but b10
          have lk := lk.but b10
          have lh := lh.but b10
          have lkp := lkp.but b10
          have ph := Paired.mapP ph fun _ h z => Dp.tps (b10.tps P9) z (noL_hda h)
          refine ⟨rfl, _, rfl, ?_⟩
          refine ite2 (fun hg2 => ?_) (fun hg2 => ?_)
          · refine ⟨_, rfl, .inl ⟨rfl, _, SqL.of lkp.e⟩, _, rfl, _, rfl, p, c, nl, Lim 30, n + 15, ws.take rN.toNat, rfl, P10, by omega, ln.e, ln.n1, ln.n2, nnd, by omega, fun v e H11 hex dx P11 b11 => ?_⟩
            have dx : Dp K H11 v (.tuple [.int e.c, .tuple (e.ts.map fun p => .tuple [.str p.1, .int p.2])]) := dx
            obtain ⟨va, vx, rfl, hva, hvd⟩ := dx.tupInv
            obtain ⟨v1, v2, rfl, _, g2⟩ := hvd.two
            refine ⟨va, _, _, _, rfl, rfl, hva, rfl, (by show 2 ≤ sizeLine; decide), fun t ht => ?_⟩
            have s12 := same_new (o := .tup [V.int 0, v2]) ht
            have b1012 : But p c H10 (upd H11 t (.tup [V.int 0, v2])) := fun b o z h1 h2 => s12 _ _ (b11 _ _ z h1 h2)
            have lw := lw.but b1012
            have ln := ln.but b1012
            have lk := lk.but b1012
            have lh := lh.but b1012
            have lkp := lkp.but b1012
            have ph := Paired.mapP ph fun _ h z => Dp.tps (b1012.tps P10) z (noL_hda h)
            refine ⟨kp, _, _, rfl, rfl, lkp.e, by show 0 < sizeLine; decide, ?_⟩
            have t13 : Tps (upd H11 t (.tup [V.int 0, v2])) (upd (upd H11 t (.tup [V.int 0, v2])) kp (.lst ([] ++ [.ref t]))) := Tps.lst lkp.e
            refine ⟨rfl, ((P11.same s12).upd lkp.n1 lkp.n2).mono (by omega), fun b o z h1 h2 => ?_, lw.upd kw.symm, ln.upd kN.symm, lk.upd kK.symm, lh.upd kH.symm, Paired.mapP ph fun _ h z => Dp.tps t13 z (noL_hda h), [] ++ [.ref t], [⟨0, e.ts⟩], ⟨upd_same, lkp.n1, lkp.n2⟩, .cons ?_ .nil, Nat.le_refl _, fun x hx => ?_⟩
            · rw [upd_ne (ne_of_none z fk)]
              exact b1012 _ _ (b910 _ _ z h1 h2) h1 h2
            · exact .tup (t13.sqt (SqT.of upd_same)) (.cons (.int _) (.cons (Dp.tps t13 (g2.same s12) (noLs_map (fun _ => rfl) _)) .nil))
            · rw [List.mem_singleton.mp hx]
              exact ⟨rfl, ⟨by show (-3 : Int) ≤ 0; decide, by show (0 : Int) ≤ 3; decide⟩, hex.nm, hex.up, hex.ln⟩
          · exact ⟨rfl, P10.mono (by omega), b910, lw, ln, lk, lh, ph, [], [], lkp, .nil, by show 0 ≤ 1; decide, fun _ z => (nomatch z)⟩
        · exact ⟨rfl, P9.mono (by omega), b9, lw, ln, lk, lh, ph, [], [], lkp, .nil, by show 0 ≤ 1; decide, fun _ z => (nomatch z)⟩
      · rintro σ H10 ⟨rfl, P10, b10, lw, ln, lk, lh, ph, kus, keeps, lkp, pk, lkk, kk⟩
        refine ⟨(by show 0 ≤ sizeLine; decide), fun fl hfl => ?_⟩
        have s11 := same_new (o := .lst []) hfl
        have lf : LsAt (upd H10 fl (.lst [])) p c fl [] := LsAt.new P10 hfl
        have fw' : fl ≠ wl := fun z => by rw [z, lw.e] at hfl; cases hfl
        have fN : fl ≠ nl := fun z => by rw [z, ln.e] at hfl; cases hfl
        have fK : fl ≠ kl := fun z => by rw [z, lk.e] at hfl; cases hfl
        have fH : fl ≠ hl := fun z => by rw [z, lh.e] at hfl; cases hfl
        have fP : fl ≠ kp := fun z => by rw [z, lkp.e] at hfl; cases hfl
        have ff : H fl = none := by
          cases q : H fl with
          | none => rfl
          | some o =>
            have z : H10 fl = some o := b10 _ _ q lf.n1 lf.n2
            rw [hfl] at z; cases z
        have P11 := P10.same s11
        have lw := lw.same s11
        have ln := ln.same s11
        have lk := lk.same s11
        have lh := lh.same s11
        have lkp := lkp.same s11
        have ph := Paired.mapP ph fun _ h z => Dp.same s11 z
        have pk := Paired.mapP pk fun _ h z => Dp.same s11 z
        have b11 : But p c H (upd H10 fl (.lst [])) := fun b o z h1 h2 => s11 _ _ (b10 _ _ z h1 h2)
        clear hfl s11 P10 b10
        generalize upd H10 fl (.lst []) = H11 at *
        refine ⟨_, rfl, hl, rfl, ⟨_, SqL.of lh.e⟩, ?_⟩
        refine for_list (K := K) (a := hl) (xs := hs) (fun i σ H' => (∃ x9 x10 x12 : Option V, σ = [some (.ref p), some (.ref wl), some (.ref nl), some (.ref kl), some (.ref hl), x5, x6, some (.ref kp), some (.ref fl), x9, x10, none, x12]) ∧ But p c H H' ∧ LsAt H' p c wl (ws.map V.str) ∧ LsAt H' p c nl ((ws.take rN.toNat).map V.str) ∧ LsAt H' p c kl (((ws.drop 3).take (1 + rK.toNat)).map V.str) ∧ LsAt H' p c hl hs ∧ Paired (fun x h => Dp K H' x (hdaD h)) hs heads ∧ LsAt H' p c kp kus ∧ Paired (fun x e => Dp K H' x (exD e)) kus keeps ∧
          ∃ (us : List V) (fns : List Fn) (bu : Nat), PoolAt H' p c (Lim bu) (n + 25 + i * (10 + c5)) ∧ LsAt H' p c fl us ∧ us.length = i ∧ Paired (fun x f => Dp K H' x (fnD f)) us fns ∧ (fns.map fun f => (f.name, f.ps)) = heads.take i ∧ (fns.map fun f => szB f.b).sum + bu = 30 + i ∧
            ∀ f ∈ fns, ∃ e blk, f.b = .set w10 e :: blk ∧ blk.length ≤ 3 ∧ dpB blk ≤ 5 ∧ EX (ws.take rN.toNat ++ prs f) e ∧ wL (ws.take rN.toNat ++ (prs f ++ [w10])) ((ws.drop 3).take (1 + rK.toNat)) heads false blk)
          ⟨⟨_, _, _, rfl⟩, b11, lw, ln, lk, lh, ph, lkp, pk, [], [], 30, by rw [Nat.zero_mul]; exact P11, lf, rfl, .nil, by simp, rfl, fun _ z => (nomatch z)⟩ (fun i σ H' _ h' => SqL.of h'.2.2.2.2.2.1.e) ?_ ?_
        · rintro i x σ H12 hx ⟨⟨x9, x10, x12, rfl⟩, b12, lw, ln, lk, lh, ph, lkp, pk, us, fns, bu, P12, lf, lus, pf, hfn, hsz, hfs⟩
          obtain ⟨hd, hhd, hdd⟩ := Paired.at ph hx
          have hi : i < hs.length := (List.getElem?_eq_some_iff.mp hx).1
          have mh := List.mem_of_getElem? hhd
          obtain ⟨ba1, ba2, bk, hps⟩ := hp hd mh
          have hdd' : Dp K H12 x (.tuple [.str hd.1, .tuple (hd.2.map prD)]) := hdd
          obtain ⟨ha, hx2, rfl, hha, hhd2⟩ := hdd'.tupInv
          obtain ⟨hv1, hv2, rfl, hg1, hg2⟩ := hhd2.two
          rw [hg1.strInv] at hha
          obtain ⟨pa, px, rfl, hpa, hpd⟩ := hg2.tupInv
          have pp := DpAll.map hpd
          have lpx : px.length = hd.2.length := Paired.length pp
          have l22 : hd.2.length ≤ 2 := by rw [hps, List.length_take]; exact Nat.min_le_right _ _
          have nb : i * (10 + c5) ≤ 2 * (10 + c5) := Nat.mul_le_mul_right _ (by omega)
          refine ⟨_, rfl, _, rfl, ha, _, _, _, rfl, rfl, hha, rfl, pa, rfl, ⟨_, hpa⟩, fun D hD => ?_⟩
          have Dp' := P12.ne1 hD
          have Dc := P12.ne2 hD
          refine lc_tup (K := K) (a := pa) (xs := px) (fun j H' => Same H12 H' ∧ H' D = some (.lst (((hd.2.take j).map Prod.fst).map V.str))) ⟨same_new hD, upd_same⟩ (fun j H' _ h' => SqT.same h'.1 hpa) ?_ ?_
          · rintro j z H13 hz ⟨s13, eD⟩
            obtain ⟨pr, hpr, hpr2⟩ := Paired.at pp hz
            have hj : j < px.length := (List.getElem?_eq_some_iff.mp hz).1
            have hpr2 : Dp K H12 z (.tuple [.str pr.1, .bool pr.2]) := hpr2
            obtain ⟨pz, pzs, rfl, hpz, hpzd⟩ := hpr2.tupInv
            obtain ⟨z1, z2, rfl, zg1, _⟩ := hpzd.two
            rw [zg1.strInv] at hpz
            refine ⟨wipe1 (by decide), V.ref pz, by kernel_rfl, pz, _, _, _, rfl, rfl, SqT.same s13 hpz, rfl, ?_⟩
            refine ⟨_, eD, small1000 (by rw [List.length_map, List.length_map, List.length_take]; omega), fun b o z => ?_, ?_⟩
            · rw [upd_ne (ne_of_none z hD)]
              exact s13 _ _ z
            · rw [upd_same, take_snoc hpr, List.map_append, List.map_append]
              rfl
          · rintro H13 ⟨s13, eD⟩
            rw [lpx, List.take_length] at eD
            have lw13 := lw.same s13
            have ln13 := ln.same s13
            have lps : (hd.2.map Prod.fst).length ≤ 2 := by rw [List.length_map]; exact l22
            refine ⟨nl, D, _, _, rfl, rfl, ln13.e, eD, Nat.le_of_lt (small1000 (by rw [List.length_map, List.length_map]; omega)), fun q1 hq1 => ?_⟩
            have s14 := same_new (o := .lst ((ws.take rN.toNat).map V.str ++ (hd.2.map Prod.fst).map V.str)) hq1
            have eq1 : upd H13 q1 (.lst ((ws.take rN.toNat).map V.str ++ (hd.2.map Prod.fst).map V.str)) q1 = some (.lst ((ws.take rN.toNat).map V.str ++ (hd.2.map Prod.fst).map V.str)) := upd_same
            have s1214 := s13.trans s14
            have lw14 := lw.same s1214
            generalize upd H13 q1 (.lst ((ws.take rN.toNat).map V.str ++ (hd.2.map Prod.fst).map V.str)) = H14 at *
            refine ⟨_, rfl, wl, _, _, _, rfl, rfl, SqL.of lw14.e, a10, (by show 1 ≤ sizeLine; decide), fun q2 hq2 => ?_⟩
            have s15 := same_new (o := .lst [V.str w10]) hq2
            refine ⟨q1, q2, _, _, rfl, rfl, s15 _ _ eq1, upd_same, Nat.le_of_lt (small1000 (by rw [List.length_append, List.length_map, List.length_map]; show _ + _ + 1 ≤ _; omega)), fun ol hol => ?_⟩
            have s16 := same_new (o := .lst (((ws.take rN.toNat).map V.str ++ (hd.2.map Prod.fst).map V.str) ++ [V.str w10])) hol
            have s1216 := (s1214.trans s15).trans s16
            have eol : upd (upd H14 q2 (.lst [V.str w10])) ol (.lst (((ws.take rN.toNat).map V.str ++ (hd.2.map Prod.fst).map V.str) ++ [V.str w10])) ol = some (.lst (((ws.take rN.toNat).map V.str ++ (hd.2.map Prod.fst).map V.str) ++ [V.str w10])) := upd_same
            have nol : H12 ol = none := none_same (s1214.trans s15) hol
            clear s16 s15 s14 hq2 hq1 hol
            generalize upd (upd H14 q2 (.lst [V.str w10])) ol (.lst (((ws.take rN.toNat).map V.str ++ (hd.2.map Prod.fst).map V.str) ++ [V.str w10])) = H16 at *
            have P16 := P12.same s1216
            have lol : LsAt H16 p c ol _ := ⟨eol, P12.ne1 nol, P12.ne2 nol⟩
            -- first
            refine ⟨_, rfl, wl, _, _, _, rfl, rfl, SqL.of (lw.same s1216).e, a10, ?_⟩
            refine ⟨_, rfl, _, rfl, _, rfl, _, rfl, ol, _, rfl, SqL.of lol.e, fun q3 hq3 => ?_⟩
            rw [cut_last]
            have eqs : (ws.take rN.toNat).map V.str ++ (hd.2.map Prod.fst).map V.str = (ws.take rN.toNat ++ hd.2.map Prod.fst).map V.str := by rw [List.map_append]
            have s17 := same_new (o := .lst ((ws.take rN.toNat).map V.str ++ (hd.2.map Prod.fst).map V.str)) hq3
            have eq3 : upd H16 q3 (.lst ((ws.take rN.toNat).map V.str ++ (hd.2.map Prod.fst).map V.str)) q3 = some (.lst ((ws.take rN.toNat ++ hd.2.map Prod.fst).map V.str)) := by rw [upd_same, eqs]
            have nq3 := P16.ne1 hq3
            have nq4 := P16.ne2 hq3
            have P17 := P16.same s17
            have lol := lol.same s17
            have s1217 := s1216.trans s17
            generalize upd H16 q3 (.lst ((ws.take rN.toNat).map V.str ++ (hd.2.map Prod.fst).map V.str)) = H17 at *
            have psub : (hd.2.map Prod.fst).Sublist [w8, w9] := by rw [hps, List.map_take]; exact take2_sub bk
            have osub : (ws.take rN.toNat ++ (hd.2.map Prod.fst ++ [w10])).Sublist ws := own_sub h8 h9 h10 (by omega) psub
            have ond : (ws.take rN.toNat ++ (hd.2.map Prod.fst ++ [w10])).Nodup := nok.nd.sublist osub
            have ond2 : (ws.take rN.toNat ++ hd.2.map Prod.fst).Nodup := by
              rw [← List.append_assoc] at ond
              exact ond.sublist (List.sublist_append_left _ _)
            have l5 : (ws.take rN.toNat ++ hd.2.map Prod.fst).length ≤ 4 := by rw [List.length_append]; omega
            refine ⟨p, c, q3, Lim bu, _, ws.take rN.toNat ++ hd.2.map Prod.fst, rfl, P17, by omega, eq3, nq3, nq4, ond2, by rw [List.length_append]; omega, fun v e H18 hex dx P18 b18 => ?_⟩
            have lol := lol.but b18
            refine ⟨(by show 3 ≤ sizeLine; decide), fun ft hft => ?_⟩
            have s19 := same_new (o := .tup [V.str "set", V.str w10, v]) hft
            have P19 := P18.same s19
            have lol := lol.same s19
            have b1219 : But p c H12 (upd H18 ft (.tup [V.str "set", V.str w10, v])) := fun b o z h1 h2 => s19 _ _ (b18 _ _ (s1217 _ _ z) h1 h2)
            have eft : upd H18 ft (.tup [V.str "set", V.str w10, v]) ft = some (.tup [V.str "set", V.str w10, v]) := upd_same
            have dv := dx.same s19
            clear s19 hft P18 b18 dx P17 s1217 s17 hq3 eq3 P16 lw14 lw13 ln13
            generalize upd H18 ft (.tup [V.str "set", V.str w10, v]) = H19 at *
            have dfirst : Dp K H19 (.ref ft) (stD (.set w10 e)) := .tup (SqT.of eft) (.cons (.str _) (.cons (.str _) (.cons dv .nil)))
            -- functions.append(head + ((first,) + block,))
            have lf19 := lf.but b1219
            refine ⟨_, rfl, .inl ⟨rfl, _, SqL.of lf19.e⟩, _, rfl, _, rfl, (by show 1 ≤ sizeLine; decide), fun u1 hu1 => ?_⟩
            have s20 := same_new (o := .tup [V.ref ft]) hu1
            refine ⟨_, rfl, _, rfl, _, rfl, _, rfl, (by show 3 ≤ sizeLine; decide), fun ev hev => ?_⟩
            have s21 := same_new (o := .tup [V.ref ol, V.ref kl, V.ref hl]) hev
            have s1921 := s20.trans s21
            have P21 := P19.same s1921
            have b1221 : But p c H12 (upd (upd H19 u1 (.tup [V.ref ft])) ev (.tup [V.ref ol, V.ref kl, V.ref hl])) := fun b o z h1 h2 => s1921 _ _ (b1219 _ _ z h1 h2)
            have eu1 := s21 _ _ (upd_same (H := H19) (a := u1) (o := .tup [V.ref ft]))
            have eev : upd (upd H19 u1 (.tup [V.ref ft])) ev (.tup [V.ref ol, V.ref kl, V.ref hl]) ev = some (.tup [V.ref ol, V.ref kl, V.ref hl]) := upd_same
            have dfirst := dfirst.same s1921
            have lol := lol.same s1921
            clear s1921 s21 s20 hev hu1 P19
            generalize upd (upd H19 u1 (.tup [V.ref ft])) ev (.tup [V.ref ol, V.ref kl, V.ref hl]) = H21 at *
            have lk21 := lk.but b1221
            have lh21 := lh.but b1221
            have eown : (ws.take rN.toNat).map V.str ++ (hd.2.map Prod.fst).map V.str ++ [V.str w10] = (ws.take rN.toNat ++ (hd.2.map Prod.fst ++ [w10])).map V.str := by
              rw [List.map_append, List.map_append, List.append_assoc]
              rfl
            have env : EnvAt K H21 p c (.ref ev) (ws.take rN.toNat ++ (hd.2.map Prod.fst ++ [w10])) ((ws.drop 3).take (1 + rK.toNat)) heads :=
              ⟨ev, ol, kl, hl, hs, rfl, SqT.of eev, by rw [lol.e, eown], lk21.e, lh21.e, Paired.mapP ph fun _ h z => Dp.tps (b1221.tps P12) z (noL_hda h), ⟨lol.n1, lol.n2⟩, ⟨lk21.n1, lk21.n2⟩, ⟨lh21.n1, lh21.n2⟩⟩
            have envok : EnvOk (ws.take rN.toNat ++ (hd.2.map Prod.fst ++ [w10])) ((ws.drop 3).take (1 + rK.toNat)) heads := by
              refine ⟨⟨ond, by simp, by rw [List.length_append, List.length_append]; show _ + (_ + 1) ≤ 8; omega⟩, ⟨fun z => ?_, by rw [List.length_take]; omega⟩, ⟨List.ne_nil_of_mem mh, hd1.2⟩, fun h hh => ?_⟩
              · have := congrArg List.length z
                rw [List.length_take, List.length_drop, List.length_nil] at this
                omega
              · obtain ⟨c1, c2, ck, hc⟩ := hp h hh
                have m1 : h.1 ∈ ws := by
                  have : h.1 ∈ heads.map Prod.fst := List.mem_map.mpr ⟨h, hh, rfl⟩
                  rw [hf] at this
                  exact List.mem_of_mem_drop (List.mem_of_mem_take this)
                refine ⟨by rw [hc, List.length_take]; exact Nat.min_le_right _ _, nok.name _ m1, fun pr hpr => ?_⟩
                rw [hc] at hpr
                have hpr := List.mem_of_mem_take hpr
                simp only [List.mem_cons, List.not_mem_nil, or_false] at hpr
                rcases hpr with rfl | rfl
                · exact nok.name _ (List.mem_of_getElem? h8)
                · exact nok.name _ (List.mem_of_getElem? h9)
            refine ⟨p, c, .ref ev, _, bu, 2, false, _, _, heads, rfl, P21, by omega, env, envok, fun _ => (by decide), fun h => (nomatch h), fun bv blk bu2 H22 wl2 bl3 bdp bsz bdx P22 b22 => ?_⟩
            have bdx : Dp K H22 bv (.tuple (stsD blk)) := bdx
            obtain ⟨bb, bxs, rfl, hbb, hbbd⟩ := bdx.tupInv
            have t22 := b22.tps P21
            have t1222 := (b1221.tps P12).trans t22
            have b1222 : But p c H12 H22 := fun b o z h1 h2 => b22 _ _ (b1221 _ _ z h1 h2) h1 h2
            have lbx : bxs.length = blk.length := by rw [stsD_map] at hbbd; exact Paired.length hbbd.map
            refine ⟨u1, bb, _, _, rfl, rfl, t22.sqt (SqT.of eu1), hbb, (fun z => nomatch z), Nat.le_of_lt (small1000 (by show 1 + bxs.length ≤ 1000; omega)), fun bp H23 s23 hbp => ?_⟩
            refine ⟨(by show 1 ≤ sizeLine; decide), fun u2 hu2 => ?_⟩
            have s24 := same_new (o := .tup [V.ref bp]) hu2
            refine ⟨ha, u2, _, _, rfl, rfl, SqT.same (s23.trans s24) (t1222.sqt hha), SqT.of upd_same, (fun z => nomatch z), (by show 2 + 1 ≤ sizeLine; decide), fun fp H25 s25 hfp => ?_⟩
            have s2225 := (s23.trans s24).trans s25
            have s2325 := s24.trans s25
            have b1225 : But p c H12 H25 := fun b o z h1 h2 => s2225 _ _ (b1222 _ _ z h1 h2)
            have P25 := P22.same s2225
            have lf25 := lf.but b1225
            refine ⟨fl, _, _, rfl, rfl, lf25.e, small1000 (by omega), ?_⟩
            have t26 : Tps H25 (upd H25 fl (.lst (us ++ [.ref fp]))) := Tps.lst lf25.e
            have t1225 := t1222.trans (Tps.of s2225)
            have dblk : DpAll K H25 (V.ref ft :: bxs) (stsD (.set w10 e :: blk)) := .cons ((Dp.tps t22 dfirst (noL_st _)).same s2225) (DpAll.same s2225 hbbd)
            have dfn : Dp K H25 (.ref fp) (fnD ⟨hd.1, hd.2, .set w10 e :: blk⟩) := by
              refine .tup hfp (.cons (.str _) (.cons (.tup (t1225.sqt hpa) ?_) (.cons (.tup (SqT.same s2325 hbp) dblk) .nil)))
              exact DpAll.tps t1225 hpd (noLs_map noL_pr _)
            have prq : prs ⟨hd.1, hd.2, .set w10 e :: blk⟩ = hd.2.map Prod.fst := rfl
            refine ⟨⟨_, _, _, rfl⟩, fun b o z h1 h2 => ?_, (lw.but b1225).upd fw'.symm, (ln.but b1225).upd fN.symm, (lk.but b1225).upd fK.symm, (lh.but b1225).upd fH.symm, Paired.mapP ph fun _ h z => Dp.tps (t1225.trans t26) z (noL_hda h), (lkp.but b1225).upd fP.symm, Paired.mapP pk fun _ h z => Dp.tps (t1225.trans t26) z (noL_ex h), us ++ [.ref fp], fns ++ [⟨hd.1, hd.2, .set w10 e :: blk⟩], bu2, ?_, ⟨upd_same, lf.n1, lf.n2⟩, by rw [List.length_append, lus]; rfl, Paired.snoc (Paired.mapP pf fun _ f z => Dp.tps (t1225.trans t26) z (noL_fn f)) (Dp.tps t26 dfn (noL_fn _)), ?_, ?_, fun f hf => ?_⟩
            · rw [upd_ne (ne_of_none z ff)]
              exact b1225 _ _ (b12 _ _ z h1 h2) h1 h2
            · refine (P25.upd lf.n1 lf.n2).mono ?_
              rw [Nat.succ_mul]
              omega
            · rw [List.map_append, hfn, take_snoc hhd]
              rfl
            · rw [List.map_append, List.sum_append]
              show _ + (1 + 0 + szB blk + 0) + bu2 = _
              omega
            · rcases List.mem_append.mp hf with z | z
              · exact hfs f z
              · rw [List.mem_singleton.mp z]
                exact ⟨e, blk, rfl, bl3, bdp, hex, wl2⟩
        · rintro σ H12 ⟨⟨x9, x10, x12, rfl⟩, b12, lw, ln, lk, lh, ph, lkp, pk, us, fns, bu, P12, lf, lus, pf, hfn, hsz, hfs⟩
          rw [lhd, List.take_length] at hfn
          have lfn : fns.length = heads.length := by rw [← hfn, List.length_map]
          rw [lhd] at P12 hsz
          have nb : heads.length * (10 + c5) ≤ 3 * (10 + c5) := Nat.mul_le_mul_right _ hd1.2
          refine ⟨_, rfl, nl, _, rfl, .inl ⟨SqL.of ln.e, fun l1 hl1 => ?_⟩⟩
          have s1 := same_new (o := .tup ((ws.take rN.toNat).map V.str)) hl1
          refine ⟨_, rfl, kl, _, rfl, .inl ⟨SqL.of (s1 _ _ lk.e), fun l2 hl2 => ?_⟩⟩
          have s2 := same_new (o := .tup (((ws.drop 3).take (1 + rK.toNat)).map V.str)) hl2
          have s12 := s1.trans s2
          refine ⟨_, rfl, kp, _, rfl, .inl ⟨SqL.of (s12 _ _ lkp.e), fun l3 hl3 => ?_⟩⟩
          have s3 := same_new (o := .tup kus) hl3
          have s13 := s12.trans s3
          refine ⟨_, rfl, fl, _, rfl, .inl ⟨SqL.of (s13 _ _ lf.e), fun l4 hl4 => ?_⟩⟩
          have s4 := same_new (o := .tup us) hl4
          have s14 := s13.trans s4
          refine ⟨(by show 4 ≤ sizeLine; decide), fun tt htt => ?_⟩
          have s5 := same_new (o := .tup [V.ref l1, V.ref l2, V.ref l3, V.ref l4]) htt
          have s15 := s14.trans s5
          have e1 := s5 _ _ (s4 _ _ (s3 _ _ (s2 _ _ (upd_same (H := H12) (a := l1) (o := .tup ((ws.take rN.toNat).map V.str))))))
          have e2 := s5 _ _ (s4 _ _ (s3 _ _ (upd_same (H := upd H12 l1 (.tup ((ws.take rN.toNat).map V.str))) (a := l2) (o := .tup (((ws.drop 3).take (1 + rK.toNat)).map V.str)))))
          have e3 := s5 _ _ (s4 _ _ (upd_same (H := upd (upd H12 l1 (.tup ((ws.take rN.toNat).map V.str))) l2 (.tup (((ws.drop 3).take (1 + rK.toNat)).map V.str))) (a := l3) (o := .tup kus)))
          have e4 := s5 _ _ (upd_same (H := upd (upd (upd H12 l1 (.tup ((ws.take rN.toNat).map V.str))) l2 (.tup (((ws.drop 3).take (1 + rK.toNat)).map V.str))) l3 (.tup kus)) (a := l4) (o := .tup us))
          refine k _ ⟨ws.take rN.toNat, (ws.drop 3).take (1 + rK.toNat), keeps, fns⟩ bu _ ⟨ws, nok, l16, rN.toNat, 1 + rK.toNat, by omega, by omega, by omega, rfl, rfl, kk, lkk, by show 1 ≤ fns.length; omega, by show fns.length ≤ 3; omega, ?_, by show (fns.map fun f => szB f.b).sum ≤ 33; omega, w8, w9, w10, h8, h9, h10, fun f hf => ⟨?_, ?_⟩⟩ ?_ ((P12.same s15).mono (by omega)) (fun b o z h1 h2 => s15 _ _ (b12 _ _ z h1 h2))
          · show fns.map Fn.name = (ws.drop 5).take fns.length
            rw [lfn, ← hf, ← hfn, List.map_map]
            rfl
          · exact hp (f.name, f.ps) (by rw [← hfn]; exact List.mem_map.mpr ⟨f, hf, rfl⟩)
          · obtain ⟨e, blk, q1, q2, q3, q4, q5⟩ := hfs f hf
            refine ⟨e, blk, q1, q2, q3, q4, ?_⟩
            show wL _ _ (fns.map fun f => (f.name, f.ps)) false blk
            rw [hfn]
            exact q5
          · refine .tup (SqT.of upd_same) (.cons (.tup (SqT.of e1) (dpAll_strs _)) (.cons (.tup (SqT.of e2) (dpAll_strs _)) (.cons (.tup (SqT.of e3) ?_) (.cons (.tup (SqT.of e4) ?_) .nil))))
            · exact DpAll.ofPaired (Paired.mapP pk fun _ _ z => z.same s15)
            · exact DpAll.ofPaired (Paired.mapP pf fun _ _ z => z.same s15)
end

/-! ### plain law: what is drawn is a good tree -/
theorem len_szB : ∀ b : List St, b.length ≤ szB b
  | [] => Nat.le_refl _
  | s :: r => by show r.length + 1 ≤ 1 + szS s + szB r; have := len_szB r; omega
structure Nms (own kinds : List Str) (heads : List Head) : Prop where
  o : ∀ x ∈ own, okN1 x
  l : own.length ≤ 8
  k : ∀ x ∈ kinds, okN1 x
  kl : kinds.length ≤ 2
  h : ∀ x ∈ heads, okN1 x.1 ∧ x.2.length ≤ 2
section
variable {own kinds : List Str} {heads : List Head}
mutual
theorem w_allS : ∀ (s : St) (n : Nat) (last : Bool), wS own kinds heads last s → ∀ p ∈ allS s n, ∃ l, wS own kinds heads l p.2 ∧ (last = true → l = true)
  | .ite a b, n, last, h, p, hp => by
    have h : wL own kinds heads last a ∧ wL own kinds heads last b := h
    rcases List.mem_append.mp (show p ∈ allB a n ++ allB b (n + szB a) from hp) with z | z
    · exact w_allB a _ last h.1 p z
    · exact w_allB b _ last h.2 p z
  | .whl b, n, last, h, p, hp => by
    have h : last = false ∧ wL own kinds heads false b := h
    obtain ⟨l, hl, _⟩ := w_allB b n false h.2 p hp
    exact ⟨l, hl, fun z => by rw [h.1] at z; cases z⟩
  | .try_ b hs f, n, last, h, p, hp => by
    have h : last = false ∧ hs.length ≤ 2 ∧ wL own kinds heads false b ∧ wHs own kinds heads hs ∧ wL own kinds heads true f := h
    have fin : ∀ l, wS own kinds heads l p.2 → ∃ l, wS own kinds heads l p.2 ∧ (last = true → l = true) := fun l hl => ⟨l, hl, fun z => by rw [h.1] at z; cases z⟩
    rcases List.mem_append.mp (show p ∈ allB b n ++ (allHs hs (n + szB b) ++ allB f (n + szB b + szHs hs)) from hp) with z | z
    · obtain ⟨l, hl, _⟩ := w_allB b _ false h.2.2.1 p z
      exact fin l hl
    · rcases List.mem_append.mp z with z | z
      · obtain ⟨l, hl⟩ := w_allHs hs _ h.2.2.2.1 p z
        exact fin l hl
      · obtain ⟨l, hl, _⟩ := w_allB f _ true h.2.2.2.2 p z
        exact fin l hl
  | .undo ns b, n, last, h, p, hp => by
    have h : last = false ∧ (ns ≠ [] ∧ ns.length ≤ 3 ∧ ∀ n ∈ ns, n ∈ own) ∧ wL own kinds heads false b := h
    obtain ⟨l, hl, _⟩ := w_allB b n false h.2.2 p hp
    exact ⟨l, hl, fun z => by rw [h.1] at z; cases z⟩
  | .with_ e l ks b, n, last, h, p, hp => by
    have h : last = false ∧ WC own heads e ∧ WC own heads l ∧ (ks.length ≤ 2 ∧ ∀ k ∈ ks, k ∈ kinds) ∧ wL own kinds heads false b := h
    obtain ⟨l, hl, _⟩ := w_allB b n false h.2.2.2.2 p hp
    exact ⟨l, hl, fun z => by rw [h.1] at z; cases z⟩
  | .set _ _, _, _, _, p, hp => nomatch hp
  | .input _, _, _, _, p, hp => nomatch hp
  | .call _ _ _, _, _, _, p, hp => nomatch hp
  | .risk _, _, _, _, p, hp => nomatch hp
  | .raise _, _, _, _, p, hp => nomatch hp
  | .ret _, _, _, _, p, hp => nomatch hp
theorem w_allB : ∀ (b : List St) (n : Nat) (last : Bool), wL own kinds heads last b → ∀ p ∈ allB b n, ∃ l, wS own kinds heads l p.2 ∧ (last = true → l = true)
  | [], _, _, _, p, hp => nomatch hp
  | s :: r, n, last, h, p, hp => by
    have h : wS own kinds heads last s ∧ wL own kinds heads last r := h
    rcases List.mem_cons.mp (show p ∈ (n, s) :: (allS s (n + 1) ++ allB r (n + 1 + szS s)) from hp) with z | z
    · rw [z]; exact ⟨last, h.1, fun z => z⟩
    · rcases List.mem_append.mp z with z | z
      · exact w_allS s _ last h.1 p z
      · exact w_allB r _ last h.2 p z
theorem w_allH : ∀ (x : Hd) (n : Nat), wH own kinds heads x → ∀ p ∈ allH x n, ∃ l, wS own kinds heads l p.2
  | .mk ks b, n, h, p, hp => by
    have h : (ks ≠ [] ∧ ks.length ≤ 2 ∧ ∀ k ∈ ks, k ∈ kinds) ∧ wL own kinds heads false b := h
    obtain ⟨l, hl, _⟩ := w_allB b n false h.2 p hp
    exact ⟨l, hl⟩
theorem w_allHs : ∀ (hs : List Hd) (n : Nat), wHs own kinds heads hs → ∀ p ∈ allHs hs n, ∃ l, wS own kinds heads l p.2
  | [], _, _, p, hp => nomatch hp
  | x :: r, n, h, p, hp => by
    have h : wH own kinds heads x ∧ wHs own kinds heads r := h
    rcases List.mem_append.mp (show p ∈ allH x n ++ allHs r (n + szH x) from hp) with z | z
    · exact w_allH x _ h.1 p z
    · exact w_allHs r _ h.2 p z
end
theorem EX.ok {e : Ex} (h : EX own e) (N : Nms own kinds heads) : okEx e := by
  refine ⟨by have := h.ln; have := N.l; omega, fun p hp => ⟨N.o _ (h.nm p hp).1, (h.nm p hp).2.1⟩, fun i a b ha hb => ?_⟩
  have pw : e.ts.Pairwise fun a b => asc a.1 b.1 := List.pairwise_map.mp h.up
  obtain ⟨hi, ea⟩ := List.getElem?_eq_some_iff.mp ha
  obtain ⟨hj, eb⟩ := List.getElem?_eq_some_iff.mp hb
  have := List.pairwise_iff_getElem.mp pw i (i + 1) hi hj (Nat.lt_succ_self i)
  rw [ea, eb] at this
  exact this
theorem WC.ok {c : Cal} (h : WC own heads c) (N : Nms own kinds heads) : okCal c ∧ c.2.length ≤ 2 := by
  obtain ⟨x, hx, e1, e2⟩ := h.hd
  have l := congrArg List.length e2
  rw [List.length_map, List.length_map] at l
  have l2 := (N.h x hx).2
  refine ⟨⟨by rw [e1]; exact (N.h x hx).1, by omega, fun a ha => ?_⟩, by omega⟩
  have := h.as a ha
  cases a with
  | place n => exact N.o n this
  | value e => exact EX.ok this N
mutual
theorem w_okS (N : Nms own kinds heads) : ∀ (s : St) (last : Bool), wS own kinds heads last s → szS s ≤ 900 → okS s
  | .set t e, _, h, _ => ⟨N.o _ h.1, h.2.ok N⟩
  | .input t, _, h, _ => N.o _ h
  | .call t f as, _, h, _ => by
    have h : (∀ x, t = some x → x ∈ own) ∧ WC own heads (f, as) := h
    have c := (h.2.ok N).1
    exact ⟨fun x z => N.o _ (h.1 x z), c.1, c.2⟩
  | .risk ks, _, h, _ => by
    have h : ks ≠ [] ∧ ks.length ≤ 2 ∧ ∀ k ∈ ks, k ∈ kinds := h
    exact ⟨h.1, by omega, fun x hx => N.k _ (h.2.2 x hx)⟩
  | .raise k, _, h, _ => N.k _ h
  | .ret e, last, h, _ => EX.ok (show last = false ∧ EX own e from h).2 N
  | .ite a b, last, h, z => by
    have h : wL own kinds heads last a ∧ wL own kinds heads last b := h
    have z : szB a + szB b ≤ 900 := z
    exact ⟨w_okB N a last h.1 (by omega), w_okB N b last h.2 (by omega)⟩
  | .whl b, last, h, z => by
    have h : last = false ∧ wL own kinds heads false b := h
    exact w_okB N b false h.2 z
  | .try_ b hs f, last, h, z => by
    have h : last = false ∧ hs.length ≤ 2 ∧ wL own kinds heads false b ∧ wHs own kinds heads hs ∧ wL own kinds heads true f := h
    have z : szB b + (szHs hs + szB f) ≤ 900 := z
    exact ⟨w_okB N b false h.2.2.1 (by omega), ⟨by omega, w_okHs N hs h.2.2.2.1 (by omega)⟩, w_okB N f true h.2.2.2.2 (by omega)⟩
  | .undo ns b, last, h, z => by
    have h : last = false ∧ (ns ≠ [] ∧ ns.length ≤ 3 ∧ ∀ n ∈ ns, n ∈ own) ∧ wL own kinds heads false b := h
    exact ⟨⟨h.2.1.1, by have := h.2.1.2.1; omega, fun x hx => N.o _ (h.2.1.2.2 x hx)⟩, w_okB N b false h.2.2 z⟩
  | .with_ e l ks b, last, h, z => by
    have h : last = false ∧ WC own heads e ∧ WC own heads l ∧ (ks.length ≤ 2 ∧ ∀ k ∈ ks, k ∈ kinds) ∧ wL own kinds heads false b := h
    exact ⟨⟨(h.2.1.ok N).1, (h.2.2.1.ok N).1, by have := h.2.2.2.1.1; omega, fun x hx => N.k _ (h.2.2.2.1.2 x hx)⟩, w_okB N b false h.2.2.2.2 z⟩
theorem w_okB (N : Nms own kinds heads) : ∀ (b : List St) (last : Bool), wL own kinds heads last b → szB b ≤ 900 → b.length ≤ 900 ∧ okL b
  | [], _, _, _ => ⟨Nat.zero_le _, trivial⟩
  | s :: r, last, h, z => by
    have h : wS own kinds heads last s ∧ wL own kinds heads last r := h
    have l := len_szB (s :: r)
    have z2 : 1 + szS s + szB r ≤ 900 := z
    exact ⟨by omega, w_okS N s last h.1 (by omega), (w_okB N r last h.2 (by omega)).2⟩
theorem w_okH (N : Nms own kinds heads) : ∀ (x : Hd), wH own kinds heads x → szH x ≤ 900 → okH x
  | .mk ks b, h, z => by
    have h : (ks ≠ [] ∧ ks.length ≤ 2 ∧ ∀ k ∈ ks, k ∈ kinds) ∧ wL own kinds heads false b := h
    exact ⟨⟨h.1.1, by have := h.1.2.1; omega, fun x hx => N.k _ (h.1.2.2 x hx)⟩, w_okB N b false h.2 z⟩
theorem w_okHs (N : Nms own kinds heads) : ∀ (hs : List Hd), wHs own kinds heads hs → szHs hs ≤ 900 → okHs hs
  | [], _, _ => trivial
  | x :: r, h, z => by
    have h : wH own kinds heads x ∧ wHs own kinds heads r := h
    have z : szH x + szHs r ≤ 900 := z
    exact ⟨w_okH N x h.1 (by omega), w_okHs N r h.2 (by omega)⟩
end
theorem argsN_le (N : Nms own kinds heads) : ∀ {as : List Arg}, (∀ a ∈ as, WA own a) → (argsN as).length ≤ 9 * as.length ∧ ∀ x ∈ argsN as, x ∈ own
  | [], _ => ⟨Nat.zero_le _, fun _ z => (nomatch z)⟩
  | a :: r, h => by
    have ih := argsN_le N (as := r) fun a ha => h a (List.mem_cons_of_mem _ ha)
    have ha := h a List.mem_cons_self
    have e : argsN (a :: r) = argN a ++ argsN r := by unfold argsN; rw [List.flatMap_cons]
    rw [e, List.length_append, List.length_cons]
    have n8 := N.l
    have h2 : (argN a).length ≤ 9 ∧ ∀ x ∈ argN a, x ∈ own := by
      cases a with
      | place n => exact ⟨by show 1 ≤ 9; omega, fun x hx => by rw [List.mem_singleton.mp hx]; exact ha⟩
      | value ex =>
        have ha : EX own ex := ha
        refine ⟨by show (ex.ts.map Prod.fst).length ≤ 9; rw [List.length_map]; have := ha.ln; omega, fun x hx => ?_⟩
        obtain ⟨p, hp, rfl⟩ := List.mem_map.mp hx
        exact (ha.nm p hp).1
    exact ⟨by omega, fun x hx => (List.mem_append.mp hx).elim (h2.2 x) (ih.2 x)⟩
/-- what a good statement names -/
theorem w_named (N : Nms own kinds heads) {vn ks fs : List Str} (hv : ∀ x ∈ own, x ∈ vn) (hk : ∀ x ∈ kinds, x ∈ ks) (hf : ∀ h ∈ heads, h.1 ∈ fs) : ∀ (s : St) (last : Bool), wS own kinds heads last s → (namedS s).length ≤ 900 ∧ ∀ q ∈ namedS s, (q.1 = wv ∨ q.1 = wk ∨ q.1 = wf) ∧ q.2 ∈ knG vn ks fs q.1 := by
  have v1 : ∀ x ∈ own, x ∈ knG vn ks fs wv := fun x hx => by unfold knG; rw [if_pos rfl]; exact hv x hx
  have k1 : ∀ x ∈ kinds, x ∈ knG vn ks fs wk := fun x hx => by unfold knG; rw [if_neg (by decide +kernel), if_pos rfl]; exact hk x hx
  have f1 : ∀ x ∈ heads, x.1 ∈ knG vn ks fs wf := fun x hx => by unfold knG; rw [if_neg (by decide +kernel), if_neg (by decide +kernel)]; exact hf x hx
  have n8 := N.l
  have ex : ∀ e : Ex, EX own e → (e.ts.map fun p => (wv, p.1)).length ≤ 900 ∧ ∀ q ∈ (e.ts.map fun p => (wv, p.1)), (q.1 = wv ∨ q.1 = wk ∨ q.1 = wf) ∧ q.2 ∈ knG vn ks fs q.1 := fun e h => by
    refine ⟨by rw [List.length_map]; have := h.ln; omega, fun q hq => ?_⟩
    obtain ⟨p, hp, rfl⟩ := List.mem_map.mp hq
    exact ⟨.inl rfl, v1 _ (h.nm p hp).1⟩
  have kx : ∀ l : List Str, (∀ x ∈ l, x ∈ kinds) → ∀ q ∈ (l.map fun n => (wk, n)), (q.1 = wv ∨ q.1 = wk ∨ q.1 = wf) ∧ q.2 ∈ knG vn ks fs q.1 := fun l h q hq => by
    obtain ⟨p, hp, rfl⟩ := List.mem_map.mp hq
    exact ⟨.inr (.inl rfl), k1 _ (h p hp)⟩
  have cx : ∀ c : Cal, WC own heads c → ((wf, c.1) :: (argsN c.2).map fun n => (wv, n)).length ≤ 19 ∧ ∀ q ∈ ((wf, c.1) :: (argsN c.2).map fun n => (wv, n)), (q.1 = wv ∨ q.1 = wk ∨ q.1 = wf) ∧ q.2 ∈ knG vn ks fs q.1 := fun c h => by
    have l := (h.ok N).2
    have a := argsN_le N h.as
    refine ⟨by rw [List.length_cons, List.length_map]; omega, fun q hq => ?_⟩
    rcases List.mem_cons.mp hq with z | z
    · obtain ⟨x, hx, e1, _⟩ := h.hd
      rw [z]
      exact ⟨.inr (.inr rfl), by show c.1 ∈ _; rw [e1]; exact f1 x hx⟩
    · obtain ⟨p, hp, rfl⟩ := List.mem_map.mp z
      exact ⟨.inl rfl, v1 _ (a.2 p hp)⟩
  intro s last h
  cases s with
  | set t e => exact ex e h.2
  | ret e => exact ex e (show last = false ∧ EX own e from h).2
  | input t => exact ⟨Nat.zero_le _, fun _ z => (nomatch z)⟩
  | whl b => exact ⟨Nat.zero_le _, fun _ z => (nomatch z)⟩
  | ite a b => exact ⟨Nat.zero_le _, fun _ z => (nomatch z)⟩
  | raise k => exact ⟨by show 1 ≤ 900; omega, kx [k] fun x hx => by rw [List.mem_singleton.mp hx]; exact h⟩
  | risk l =>
    have h : l ≠ [] ∧ l.length ≤ 2 ∧ ∀ k ∈ l, k ∈ kinds := h
    exact ⟨by show (l.map fun n => (wk, n)).length ≤ 900; rw [List.length_map]; omega, kx l h.2.2⟩
  | call t f as =>
    have h : (∀ x, t = some x → x ∈ own) ∧ WC own heads (f, as) := h
    have c := cx (f, as) h.2
    exact ⟨Nat.le_trans c.1 (by decide), c.2⟩
  | undo ns b =>
    have h : last = false ∧ (ns ≠ [] ∧ ns.length ≤ 3 ∧ ∀ n ∈ ns, n ∈ own) ∧ wL own kinds heads false b := h
    refine ⟨by show (ns.map fun n => (wv, n)).length ≤ 900; rw [List.length_map]; have := h.2.1.2.1; omega, fun q hq => ?_⟩
    obtain ⟨p, hp, rfl⟩ := List.mem_map.mp (show q ∈ ns.map fun n => (wv, n) from hq)
    exact ⟨.inl rfl, v1 _ (h.2.1.2.2 p hp)⟩
  | try_ b hs f =>
    have h : last = false ∧ hs.length ≤ 2 ∧ wL own kinds heads false b ∧ wHs own kinds heads hs ∧ wL own kinds heads true f := h
    have g : ∀ hs : List Hd, wHs own kinds heads hs → (hs.flatMap fun h => h.ks.map fun n => (wk, n)).length ≤ 2 * hs.length ∧ ∀ q ∈ (hs.flatMap fun h => h.ks.map fun n => (wk, n)), (q.1 = wv ∨ q.1 = wk ∨ q.1 = wf) ∧ q.2 ∈ knG vn ks fs q.1 := fun hs => by
      induction hs with
      | nil => intro _; exact ⟨Nat.zero_le _, fun _ z => (nomatch z)⟩
      | cons x r ih =>
        intro h
        have h : wH own kinds heads x ∧ wHs own kinds heads r := h
        have i := ih h.2
        cases x with
        | mk l b =>
          have h1 : (l ≠ [] ∧ l.length ≤ 2 ∧ ∀ k ∈ l, k ∈ kinds) ∧ wL own kinds heads false b := h.1
          rw [List.flatMap_cons, List.length_append, List.length_cons]
          refine ⟨?_, fun q hq => (List.mem_append.mp hq).elim (kx l h1.1.2.2 q) (i.2 q)⟩
          show (l.map fun n => (wk, n)).length + _ ≤ _
          rw [List.length_map]
          have := h1.1.2.1
          omega
    have r := g hs h.2.2.2.1
    exact ⟨by show (hs.flatMap fun h => h.ks.map fun n => (wk, n)).length ≤ 900; omega, r.2⟩
  | with_ e l k b =>
    have h : last = false ∧ WC own heads e ∧ WC own heads l ∧ (k.length ≤ 2 ∧ ∀ x ∈ k, x ∈ kinds) ∧ wL own kinds heads false b := h
    have c1 := cx e h.2.1
    have c2 := cx l h.2.2.1
    refine ⟨?_, fun q hq => ?_⟩
    · show ((((wf, e.1) :: (argsN e.2).map fun n => (wv, n)) ++ ((wf, l.1) :: (argsN l.2).map fun n => (wv, n))) ++ k.map fun n => (wk, n)).length ≤ 900
      rw [List.length_append, List.length_append, List.length_map (as := k)]
      omega
    · have hq : q ∈ (((wf, e.1) :: (argsN e.2).map fun n => (wv, n)) ++ ((wf, l.1) :: (argsN l.2).map fun n => (wv, n))) ++ k.map fun n => (wk, n) := hq
      rcases List.mem_append.mp hq with z | z
      · rcases List.mem_append.mp z with z | z
        · exact c1.2 q z
        · exact c2.2 q z
      · exact kx k h.2.2.2.1.2 q z
/-- expressions of a good statement -/
theorem w_exprs (N : Nms own kinds heads) : ∀ (s : St) (last : Bool), wS own kinds heads last s → (exprS s).length ≤ 4 ∧ ∀ e ∈ exprS s, EX own e := by
  have ax : ∀ as : List Arg, (∀ a ∈ as, WA own a) → (as.filterMap valE).length ≤ as.length ∧ ∀ e ∈ as.filterMap valE, EX own e := fun as h => by
    refine ⟨List.length_filterMap_le _ _, fun e he => ?_⟩
    obtain ⟨a, ha, hv⟩ := List.mem_filterMap.mp he
    have := h a ha
    cases a with
    | place n => cases hv
    | value x => cases hv; exact this
  intro s last h
  cases s with
  | set t e => exact ⟨by show 1 ≤ 4; omega, fun x hx => by rw [List.mem_singleton.mp hx]; exact h.2⟩
  | ret e => exact ⟨by show 1 ≤ 4; omega, fun x hx => by rw [List.mem_singleton.mp hx]; exact (show last = false ∧ EX own e from h).2⟩
  | call t f as =>
    have h : (∀ x, t = some x → x ∈ own) ∧ WC own heads (f, as) := h
    have l := (h.2.ok N).2
    have a := ax as h.2.as
    exact ⟨Nat.le_trans a.1 (Nat.le_trans l (by decide)), a.2⟩
  | with_ e l k b =>
    have h : last = false ∧ WC own heads e ∧ WC own heads l ∧ (k.length ≤ 2 ∧ ∀ x ∈ k, x ∈ kinds) ∧ wL own kinds heads false b := h
    have l1 := (h.2.1.ok N).2
    have l2 := (h.2.2.1.ok N).2
    have a := ax (e.2 ++ l.2) fun a ha => (List.mem_append.mp ha).elim (h.2.1.as a) (h.2.2.1.as a)
    rw [List.length_append] at a
    exact ⟨Nat.le_trans a.1 (by omega), a.2⟩
  | _ => exact ⟨Nat.zero_le _, fun _ z => (nomatch z)⟩
/-- assigned names -/
theorem w_asg : ∀ (s : St) (last : Bool), wS own kinds heads last s → ∀ x, asgS s = some x → x ∈ own := by
  intro s last h x e
  cases s with
  | set t ex => injection e with e; rw [← e]; exact h.1
  | input t => injection e with e; rw [← e]; exact h
  | call t f as => exact (show (∀ x, t = some x → x ∈ own) ∧ WC own heads (f, as) from h).1 x e
  | _ => cases e
end
theorem EX.mono {a b : List Str} {e : Ex} (h : EX a e) (s : ∀ x ∈ a, x ∈ b) (l : a.length ≤ b.length) : EX b e := ⟨h.c, fun p hp => ⟨s _ (h.nm p hp).1, (h.nm p hp).2⟩, h.up, Nat.le_trans h.ln l⟩
structure ShapeT (t : Tr) : Prop where
  ex : ∃ (ws : List Str) (w8 w9 w10 : Str) (nN nK : Nat), NamesOk ws ∧ ws.length = 16 ∧ ws[8]? = some w8 ∧ ws[9]? = some w9 ∧ ws[10]? = some w10 ∧ nN ≤ 2 ∧ 1 ≤ nK ∧ nK ≤ 2 ∧ t.names = ws.take nN ∧ t.kinds = (ws.drop 3).take nK ∧
    (∀ e ∈ t.keeps, e.c = 0 ∧ EX t.names e) ∧ t.keeps.length ≤ 1 ∧ 1 ≤ t.fns.length ∧ t.fns.length ≤ 3 ∧ t.fns.map Fn.name = (ws.drop 5).take t.fns.length ∧ (t.fns.map fun f => szB f.b).sum ≤ 40 ∧
      ∀ f ∈ t.fns, (∃ b1 b2 k, f.ps = [(w8, b1), (w9, b2)].take k) ∧ wL (t.names ++ (prs f ++ [w10])) t.kinds (t.fns.map fun f => (f.name, f.ps)) false f.b ∧ dpB f.b ≤ 6 ∧ w10 ∈ asgB f.b
theorem fold_full {gl ps : List Str} {w : Str} : ∀ {l : List Str}, (∀ x ∈ l, x ∈ gl ++ (ps ++ [w])) → l.foldl (stepO gl) (ps ++ [w]) = ps ++ [w]
  | [], _ => rfl
  | x :: r, h => by
    have e : stepO gl (ps ++ [w]) x = ps ++ [w] := by
      unfold stepO
      rw [if_pos]
      rcases List.mem_append.mp (h x List.mem_cons_self) with z | z
      · exact .inr z
      · exact .inl z
    rw [List.foldl_cons, e]
    exact fold_full fun y hy => h y (List.mem_cons_of_mem _ hy)
theorem fold_one {gl ps : List Str} {w : Str} (ng : w ∉ gl) (np : w ∉ ps) : ∀ {l : List Str}, (∀ x ∈ l, x ∈ gl ++ (ps ++ [w])) → w ∈ l → l.foldl (stepO gl) ps = ps ++ [w]
  | x :: r, h, m => by
    have hr : ∀ y ∈ r, y ∈ gl ++ (ps ++ [w]) := fun y hy => h y (List.mem_cons_of_mem _ hy)
    rw [List.foldl_cons]
    by_cases e : x = w
    · subst e
      have : stepO gl ps x = ps ++ [x] := by
        unfold stepO
        rw [if_neg (fun z => z.elim np ng)]
      rw [this]
      exact fold_full hr
    · have : stepO gl ps x = ps := by
        unfold stepO
        rw [if_pos]
        rcases List.mem_append.mp (h x List.mem_cons_self) with z | z
        · exact .inr z
        · rcases List.mem_append.mp z with z | z
          · exact .inl z
          · exact absurd (List.mem_singleton.mp z) e
      rw [this]
      exact fold_one ng np hr ((List.mem_cons.mp m).resolve_left fun z => e z.symm)
theorem inj_of_nodup {α β : Type} {f : α → β} : ∀ {l : List α}, (l.map f).Nodup → ∀ {x y : α}, x ∈ l → y ∈ l → f x = f y → x = y
  | a :: r, h, x, y, hx, hy, e => by
    rw [List.map_cons, List.nodup_cons] at h
    rcases List.mem_cons.mp hx with h1 | h1
    · rcases List.mem_cons.mp hy with h2 | h2
      · rw [h1, h2]
      · exact absurd (List.mem_map.mpr ⟨y, h2, by rw [← e, h1]⟩) h.1
    · rcases List.mem_cons.mp hy with h2 | h2
      · exact absurd (List.mem_map.mpr ⟨x, h1, by rw [e, h2]⟩) h.1
      · exact inj_of_nodup h.2 h1 h2 e
theorem flatMap_le {α β : Type} {f : α → List β} {g : α → Nat} : ∀ {l : List α}, (∀ x ∈ l, (f x).length ≤ g x) → (l.flatMap f).length ≤ (l.map g).sum
  | [], _ => Nat.le_refl _
  | x :: r, h => by
    rw [List.flatMap_cons, List.length_append, List.map_cons, List.sum_cons]
    have := h x List.mem_cons_self
    have := flatMap_le (l := r) fun y hy => h y (List.mem_cons_of_mem _ hy)
    omega
theorem sum4 {α : Type} {g : α → Nat} : ∀ {l : List α}, (l.map fun x => 4 * g x).sum = 4 * (l.map g).sum
  | [] => rfl
  | x :: r => by rw [List.map_cons, List.sum_cons, sum4 (l := r), List.map_cons, List.sum_cons]; omega
theorem sum_const {α : Type} : ∀ (l : List α), (l.map fun _ => 4).sum = 4 * l.length
  | [] => rfl
  | x :: r => by rw [List.map_cons, List.sum_cons, sum_const r, List.length_cons]; omega
theorem ShapeT.tree {t : Tr} (h : ShapeT t) : TreeOk 6 t := by
  obtain ⟨ws, w8, w9, w10, nN, nK, nok, l16, h8, h9, h10, hN, hK1, hK, eN, eK, hke, lke, lf1, lf3, ef, hsz, hf⟩ := h.ex
  have okw : ∀ x ∈ ws, okN1 x := fun x hx => ⟨nok.name x hx, Nat.le_trans (nok.len x hx) (by decide)⟩
  have lN : t.names.length ≤ 2 := by rw [eN, List.length_take]; omega
  have lK : t.kinds.length ≤ 2 := by rw [eK, List.length_take]; omega
  have mN : ∀ x ∈ t.names, x ∈ ws := fun x hx => List.mem_of_mem_take (by rw [eN] at hx; exact hx)
  have mK : ∀ x ∈ t.kinds, x ∈ ws := fun x hx => List.mem_of_mem_drop (List.mem_of_mem_take (by rw [eK] at hx; exact hx))
  have mF : ∀ f ∈ t.fns, f.name ∈ ws := fun f hx => by
    have : f.name ∈ t.fns.map Fn.name := List.mem_map.mpr ⟨f, hx, rfl⟩
    rw [ef] at this
    exact List.mem_of_mem_drop (List.mem_of_mem_take this)
  have psub : ∀ f ∈ t.fns, (prs f).Sublist [w8, w9] := fun f hx => by
    obtain ⟨⟨b1, b2, k, e⟩, _⟩ := hf f hx
    unfold prs
    rw [e, List.map_take]
    exact take2_sub k
  have lP : ∀ f ∈ t.fns, (prs f).length ≤ 2 := fun f hx => (psub f hx).length_le
  have lps : ∀ f ∈ t.fns, f.ps.length ≤ 2 := fun f hx => by have := lP f hx; unfold prs at this; rwa [List.length_map] at this
  have osub : ∀ f ∈ t.fns, (t.names ++ (prs f ++ [w10])).Sublist ws := fun f hx => by rw [eN]; exact own_sub h8 h9 h10 (by omega) (psub f hx)
  have ond : ∀ f ∈ t.fns, (t.names ++ (prs f ++ [w10])).Nodup := fun f hx => nok.nd.sublist (osub f hx)
  have nmd : (t.fns.map Fn.name).Nodup := by rw [ef]; exact nok.nd.sublist ((List.take_sublist _ _).trans (List.drop_sublist _ _))
  have N : ∀ f ∈ t.fns, Nms (t.names ++ (prs f ++ [w10])) t.kinds (t.fns.map fun f => (f.name, f.ps)) := fun f hx =>
    ⟨fun x hx2 => okw x ((osub f hx).subset hx2), by have := lP f hx; rw [List.length_append, List.length_append]; show _ + (_ + 1) ≤ 8; omega, fun x hx => okw x (mK x hx), lK, fun x hx => by
      obtain ⟨g, hg, rfl⟩ := List.mem_map.mp hx
      exact ⟨okw _ (mF g hg), lps g hg⟩⟩
  have szf : ∀ f ∈ t.fns, szB f.b ≤ 40 := fun f hx => Nat.le_trans (sum_mem (f := fun f : Fn => szB f.b) hx) hsz
  have asg : ∀ f ∈ t.fns, ∀ x ∈ asgB f.b, x ∈ t.names ++ (prs f ++ [w10]) := fun f hx x hm => by
    obtain ⟨p, hp, e⟩ := List.mem_filterMap.mp hm
    obtain ⟨l, hl, _⟩ := w_allB f.b 0 false (hf f hx).2.1 p hp
    exact w_asg p.2 l hl x e
  have inn : ∀ f ∈ t.fns, innerF t.names (prs f) f.b = [w10] := fun f hx => by
    have nd := ond f hx
    have ng : w10 ∉ t.names := fun z => (List.nodup_append.mp nd).2.2 w10 z w10 (by simp) rfl
    have nd2 := (List.nodup_append.mp nd).2.1
    have np : w10 ∉ prs f := fun z => (List.nodup_append.mp nd2).2.2 w10 z w10 (by simp) rfl
    unfold innerF ownF
    rw [fold_one ng np (asg f hx) (hf f hx).2.2.2, List.drop_left]
  have vn : ∀ f ∈ t.fns, vnT t f = t.names ++ (prs f ++ [w10]) := fun f hx => by unfold vnT; rw [inn f hx]
  have okb : ∀ f ∈ t.fns, okB f.b := fun f hx => w_okB (N f hx) f.b false (hf f hx).2.1 (by have := szf f hx; omega)
  -- names differ
  have z3 : ws = ws.take 3 ++ ((ws.drop 3).take 2 ++ ((ws.drop 5).take 3 ++ ws.drop 8)) := by
    have a1 : (ws.drop 5).take 3 ++ ws.drop 8 = ws.drop 5 := by
      have : ws.drop 8 = (ws.drop 5).drop 3 := by rw [List.drop_drop]
      rw [this, List.take_append_drop]
    have a2 : (ws.drop 3).take 2 ++ ws.drop 5 = ws.drop 3 := by
      have : ws.drop 5 = (ws.drop 3).drop 2 := by rw [List.drop_drop]
      rw [this, List.take_append_drop]
    rw [a1, a2, List.take_append_drop]
  have sN : t.names.Sublist (ws.take 3) := by rw [eN]; exact List.take_sublist_take_left (by omega)
  have sK : t.kinds.Sublist ((ws.drop 3).take 2) := by rw [eK]; exact List.take_sublist_take_left hK
  have sF : (t.fns.map Fn.name).Sublist ((ws.drop 5).take 3) := by rw [ef]; exact List.take_sublist_take_left lf3
  have sP : ∀ f ∈ t.fns, (prs f ++ [w10]).Sublist (ws.drop 8) := fun f hx => by
    obtain ⟨r, e⟩ := split8 h8 h9 h10
    rw [e]
    have z2 : (prs f ++ [w10]).Sublist ([w8, w9] ++ (w10 :: r)) := List.Sublist.append (psub f hx) (List.Sublist.cons₂ _ (List.nil_sublist _))
    exact z2
  have evs : ∀ f ∈ t.fns, (evT t ++ (prs f ++ [w10])).Sublist ws := fun f hx => by
    have : (t.names ++ (t.kinds ++ (t.fns.map Fn.name ++ (prs f ++ [w10])))).Sublist ws := by
      rw [z3]
      exact sN.append (sK.append (sF.append (sP f hx)))
    unfold evT
    rw [List.append_assoc, List.append_assoc]
    exact this
  obtain ⟨f0, hf0⟩ : ∃ f, f ∈ t.fns := by
    cases e : t.fns with
    | nil => rw [e] at lf1; exact absurd lf1 (by decide)
    | cons a r => exact ⟨a, List.mem_cons_self⟩
  have exn : ∀ e ∈ t.keeps, EX (t.names ++ (prs f0 ++ [w10])) e := fun e he => (hke e he).2.mono (fun x hx => List.mem_append_left _ hx) (by rw [List.length_append]; omega)
  refine ⟨⟨⟨by omega, fun x hx => okw x (mN x hx)⟩, ⟨by omega, fun x hx => okw x (mK x hx)⟩, ⟨by omega, fun e he => ⟨(exn e he).ok (N f0 hf0), (hke e he).1⟩⟩, by omega, fun f hx => ⟨okw _ (mF f hx), ⟨by have := lps f hx; omega, fun p hp => ?_⟩, okb f hx, (hf f hx).2.2.1, by have := (hf f hx).2.2.1; omega⟩⟩, ?_, ?_⟩
  · have : p.1 ∈ prs f := List.mem_map.mpr ⟨p, hp, rfl⟩
    exact okw _ ((osub f hx).subset (List.mem_append_right _ (List.mem_append_left _ this)))
  · refine ⟨by omega, by omega, by omega, by omega, fun f hx => by have := lps f hx; omega, fun f hx => ?_, fun f hx => by rw [inn f hx]; show 1 ≤ 3; omega, by omega, fun f hx => (hf f hx).2.2.1, ?_, ?_⟩
    · unfold plN
      rw [List.length_map]
      exact Nat.le_trans (List.length_filter_le _ _) (lps f hx)
    · have e1 : ∀ f ∈ t.fns, (exsF f).length ≤ 4 * szB f.b := fun f hx => by
        have := flatMap_le (f := fun p : Nat × St => exprS p.2) (g := fun _ => 4) (l := allB f.b 0) fun p hp => by
          obtain ⟨l, hl, _⟩ := w_allB f.b 0 false (hf f hx).2.1 p hp
          exact (w_exprs (N f hx) p.2 l hl).1
        rw [sum_const, allB_len] at this
        exact this
      have e2 := flatMap_le (f := exsF) (g := fun f => 4 * szB f.b) e1
      rw [sum4] at e2
      unfold exsT
      rw [List.length_append]
      omega
    · intro e he
      have small : ∀ {own : List Str}, EX own e → own.length ≤ 8 → smallE e ∧ e.ts.length ≤ 900 := fun h l => by
        have l2 : LIM = 1000000000000 := rfl
        exact ⟨⟨by have := h.c; omega, fun p hp => by have := h.nm p hp; omega⟩, by have := h.ln; omega⟩
      rcases List.mem_append.mp he with z | z
      · exact small (hke e z).2 (by omega)
      · obtain ⟨f, hx, hm⟩ := List.mem_flatMap.mp z
        obtain ⟨p, hp, hm⟩ := List.mem_flatMap.mp hm
        obtain ⟨l, hl, _⟩ := w_allB f.b 0 false (hf f hx).2.1 p hp
        exact small ((w_exprs (N f hx) p.2 l hl).2 e hm) (N f hx).l
  · refine ⟨nok.nd.sublist ((List.sublist_append_left _ _).trans (evs f0 hf0)), fun f hx => by rw [inn f hx]; exact nok.nd.sublist (evs f hx), fun e he p hp => ((hke e he).2.nm p hp).1, fun f hx p hp => ?_⟩
    obtain ⟨l, hl, _⟩ := w_allB f.b 0 false (hf f hx).2.1 p hp
    have nn := w_named (N f hx) (vn := vnT t f) (ks := t.kinds) (fs := t.fns.map Fn.name) (fun x hx2 => by rw [vn f hx]; exact hx2) (fun _ z => z) (fun x hx2 => by
      obtain ⟨g, hg, rfl⟩ := List.mem_map.mp hx2
      exact List.mem_map.mpr ⟨g, hg, rfl⟩) p.2 l hl
    refine ⟨nn.1, nn.2, ?_⟩
    have fit : ∀ c : Cal, WC (t.names ++ (prs f ++ [w10])) (t.fns.map fun f => (f.name, f.ps)) c → Fit t c.1 c.2 := fun c h => by
      obtain ⟨x, hx2, e1, e2⟩ := h.hd
      obtain ⟨g, hg, rfl⟩ := List.mem_map.mp hx2
      refine ⟨⟨g, hg, e1.symm⟩, fun g2 hg2 e => ?_⟩
      have : g2 = g := inj_of_nodup nmd hg2 hg (by rw [e, e1])
      rw [this]
      exact e2.symm
    obtain ⟨num, st⟩ := p
    cases st with
    | call tg fn as => exact fit (fn, as) (show (∀ x, tg = some x → x ∈ _) ∧ WC _ _ (fn, as) from hl).2
    | with_ e2 l2 k2 b2 =>
      have hl : l = false ∧ WC _ _ e2 ∧ WC _ _ l2 ∧ (k2.length ≤ 2 ∧ ∀ x ∈ k2, x ∈ t.kinds) ∧ wL _ _ _ false b2 := hl
      exact ⟨fit _ hl.2.1, fit _ hl.2.2.1⟩
    | try_ b2 hs2 f2 =>
      have hl : l = false ∧ hs2.length ≤ 2 ∧ wL _ _ _ false b2 ∧ wHs _ _ _ hs2 ∧ wL (t.names ++ (prs f ++ [w10])) t.kinds (t.fns.map fun f => (f.name, f.ps)) true f2 := hl
      intro q hq
      obtain ⟨l2, hl2, hl3⟩ := w_allB f2 0 true hl.2.2.2.2 q hq
      have hl3 := hl3 rfl
      subst hl3
      obtain ⟨qn, qs⟩ := q
      cases qs with
      | whl b3 => exact absurd (show true = false ∧ wL _ _ _ false b3 from hl2).1 (by decide)
      | try_ b3 h3 f3 => exact absurd (show true = false ∧ _ from hl2).1 (by decide)
      | undo n3 b3 => exact absurd (show true = false ∧ _ from hl2).1 (by decide)
      | with_ e3 l3 k3 b3 => exact absurd (show true = false ∧ _ from hl2).1 (by decide)
      | ret e3 => exact absurd (show true = false ∧ _ from hl2).1 (by decide)
      | _ => rfl
    | _ => trivial
theorem DrawnT.shape {t : Tr} (h : DrawnT t) : ShapeT t := by
  obtain ⟨ws, nok, l16, nN, nK, hN, hK1, hK, eN, eK, hke, lke, lf1, lf3, ef, hsz, w8, w9, w10, h8, h9, h10, hf⟩ := h.ex
  refine ⟨ws, w8, w9, w10, nN, nK, nok, l16, h8, h9, h10, hN, hK1, hK, eN, eK, hke, lke, lf1, lf3, ef, by omega, fun f hx => ?_⟩
  obtain ⟨hps, e, blk, eb, bl, db, hex, wl⟩ := hf f hx
  refine ⟨hps, ?_, ?_, ?_⟩
  · rw [eb]
    have m10 : w10 ∈ t.names ++ (prs f ++ [w10]) := by simp
    exact ⟨⟨m10, hex.mono (fun x hx => by
      rcases List.mem_append.mp hx with z | z
      · exact List.mem_append_left _ z
      · exact List.mem_append_right _ (List.mem_append_left _ z)) (by rw [List.length_append, List.length_append, List.length_append]; omega)⟩, wl⟩
  · have := dpB_eq blk
    rw [eb, dpB_eq]
    show 1 + max 0 (dpIn blk) ≤ 6
    omega
  · rw [eb]
    show w10 ∈ ((0, St.set w10 e) :: ([] ++ allB blk 1)).filterMap fun p => asgS p.2
    rw [List.filterMap_cons]
    exact List.mem_cons_self

/-! ### errors of own classes over any of the built-in ones: made with their one field -/
namespace XC
open PySem.W PySem.Calls PyProof.Rows
/-- which built-in makes the class: the tail of its mro, its maker -/
structure Bas (bmB : List Value) (newId : String) : Prop where
  ex : ∃ (B initId : String) (bm0 : List Value), ExcBaseFacts B newId initId bm0 ∧ bmB.contains (.type B) = true
  noA : bmB.contains (.type "AttributeError") = false
  noN : bmB.contains (.type "NameError") = false
  ob : bmB.contains (.type "object") = true
  pass : ∀ self, PySem.refuseLoop self "__setattr__" bmB = pure ()
abbrev tlV : List Value := [.type "ValueError", .type "Exception", .type "BaseException", .type "object"]
abbrev tlR : List Value := [.type "RuntimeError", .type "Exception", .type "BaseException", .type "object"]
abbrev tlK : List Value := [.type "KeyError", .type "LookupError", .type "Exception", .type "BaseException", .type "object"]
theorem basV : Bas tlV "ValueError.__new__" := ⟨⟨_, _, _, F.excBase_ValueError, by decide +kernel⟩, by decide +kernel, by decide +kernel, by decide +kernel, fun _ => by kernel_rfl⟩
theorem basR : Bas tlR "RuntimeError.__new__" := ⟨⟨_, _, _, F.excBase_RuntimeError, by decide +kernel⟩, by decide +kernel, by decide +kernel, by decide +kernel, fun _ => by kernel_rfl⟩
theorem basK : Bas tlK "LookupError.__new__" := ⟨⟨_, _, _, F.excBase_LookupError, by decide +kernel⟩, by decide +kernel, by decide +kernel, by decide +kernel, fun _ => by kernel_rfl⟩

abbrev xObj (C t : Addr) : Obj := { cls := .ref C, data := .fields #[.ref t, .none, .none, .none, .bool false, .none] }
section
variable {prog : Program} {w : World} {A : Around} {R : Result → Shared → Prop} {h : Heap} {g : Array GenState} {d : Drawn} {t : Nat} {os : OsState}
variable {nm q : Str} {C N : Addr} {bs bm bm0 : List Value} {hdct : Bool} {sn : List Str} {sub : List Value} {ab : Bool} {col : Option Bool} {dd : Option Addr} {k0 k1 k2 k3 k5 : Option Value} {B newId initId : String}
/-- C(..): the maker, then C's own __init__ -/
theorem call_x (F : ExcBaseFacts B newId initId bm0) (hB : bm.contains (.type B) = true) (hA : bm.contains (.type "AttributeError") = false) (hN : bm.contains (.type "NameError") = false) {us : List Value} {fI : Addr}
    (hC : h.get? C = some (excClassObj nm q C N bs bm hdct sn sub ab col dd k0 k1 k2 k3 k5 newId)) (hi : Looks (model prog w) h (typeLookup (.ref C) "__init__") (some (.ref fI)))
    (hb : ∀ self, Looks (model prog w) h (bindSpecial (.ref fI) self) (.ref fI, [self])) (hz : us.length ≤ sizeLine)
    (go : codeAny (model prog w) (A.under (.builtin "type.__call__" ⟨.ref C :: us, []⟩)) (.call (.ref fI) ⟨.ref (h.objs.size + 1) :: us, []⟩) (InitBack (h.objs.size + 1) R) ⟨(h.push (kdv_tup us)).push (xObj C h.objs.size), g, d, t, os⟩) :
    codeAny (model prog w) A (.call (.ref C) ⟨us, []⟩) R ⟨h, g, d, t, os⟩ := by
  have cB : (Value.ref C :: bm).contains (.type B) = true := by rw [List.contains_cons, hB, Bool.or_true]
  have cA : (Value.ref C :: bm).contains (.type "AttributeError") = false := by rw [List.contains_cons, hA]; rfl
  have cN : (Value.ref C :: bm).contains (.type "NameError") = false := by rw [List.contains_cons, hN]; rfl
  have lk := tc_lookup; have bd := tc_bind (.ref C); have st := F.noStar; have en := F.ends
  have ty : (⟨h, g, d, t, os⟩ : Shared).TypeIs (.ref C) "type" := ⟨_, hC, rfl⟩
  -- what the maker is asked
  have ask : ∀ {A' : Around} {Q : Unit → Shared → Prop} {E : Value → Shared → Prop}, Q () ⟨h, g, d, t, os⟩ → wpAny (model prog w) A' (checkBuiltinCall newId ⟨.ref C :: us, []⟩) Q E ⟨h, g, d, t, os⟩ := fun {A' Q E} y => by
    simp only [checkBuiltinCall, F.newSplit, F.newKind, F.newRow]
    repeat (first | refine wpAny_loadPart_at hC ?_ | (refine wpAny_isSubtype_exc hC ?_; rw [cB]) | refine wpAny_madeBy_exc hC ?_ | refine wpAny_staticBase_exc hC ?_ | simp only [bne_self_eq_false, Bool.false_eq_true, if_false] | wp_step)
    exact y
  -- the maker
  have make : ∀ {A' : Around} {S : Result → Shared → Prop}, S (.ok (.ret (.ref (h.objs.size + 1)))) ⟨(h.push (kdv_tup us)).push (xObj C h.objs.size), g, d, t, os⟩ → codeAny (model prog w) A' (.builtin newId ⟨.ref C :: us, []⟩) S ⟨h, g, d, t, os⟩ := fun {A' S} y => by
    refine PySem.codeAny_builtinAt F.entry ?_; unfold Builtin.«BaseException.__new__»
    refine PySem.wpAt_bind ?_; show PySem.wpAt _ _ _ (stack >>= _) _ _ _
    refine PySem.wpAt_bind (PySem.wpAt_stack fun p below => PySem.wpAt_of_wpAny ?_); wp_walk
    refine PySem.wpAt_of_wpAny ?_; rw [F.owner]
    repeat (first | with_reducible refine wpAny_madeHere_exc F.canon hC ?_ | with_reducible refine wpAny_loadPart_at hC ?_ | (with_reducible refine wpAny_isSubtype_exc hC ?_; first | rw [cB] | rw [cA] | rw [cN]) | wp_step)
    show S _ _; rw [Heap.size_push]; exact y
  have k : ∀ b o, h.get? b = some o → ((h.push (kdv_tup us)).push (xObj C h.objs.size)).get? b = some o := fun b o e => Heap.get?_push_of_some _ (Heap.get?_push_of_some _ e)
  have hC1 := k _ _ hC
  have hx : ((h.push (kdv_tup us)).push (xObj C h.objs.size)).get? (h.objs.size + 1) = some (xObj C h.objs.size) := by heap_get
  have cC : (Value.ref C :: bm).contains (.ref C) = true := by simp
  have i1 := hi.keeps k; have b1 := (hb (.ref (h.objs.size + 1))).keeps k
  refine codeAny_of_tree ?_; show wpAny _ _ (callAny (.ref C) _) _ _ _
  repeat (any_goals (first | assumption | with_reducible refine wpAny_loadPart_at hC ?_ | wp_step))
  refine ⟨rfl, codeAny_call_builtin_at (Code.quiet_builtin _ (by decide +kernel)) entry_typeCall (wpAny_check_type_call_sub hC ?_)⟩
  repeat (first | with_reducible refine wpAny_loadPart_at hC ?_ | with_reducible refine wpAny_madeBy_exc hC ?_ | wp_step)
  refine codeAny_call_builtin_code (Code.quiet_builtin _ F.quiet) (ask (make ?_))
  show wpAny _ _ _ _ _ _
  unfold isInstance
  repeat (first | with_reducible refine wpAny_loadPart_at hx ?_ | (with_reducible refine wpAny_isSubtype_exc hC1 ?_; rw [cC]) | wp_step)
  show wpAny _ _ (typeLookup (.ref C) _) _ _ _
  refine i1.at (wpAny_holding (wpAny_bind (b1.at (wpAny_bind (wpAny_call (codeAny_mono go fun r s' z => ?_))))))
  rcases r with e | (v | _ | _ | _) <;> first | exact z | exact z.elim | skip
  obtain ⟨rfl, z⟩ := z
  first
    | exact wpAny_pure (wpAny_pure z)
    | (wp_walk; exact z)
end
end XC
namespace XC
open PySem.W PySem.Calls PyProof.Rows Builtin Builtin.ObjectAttr
section
variable {prog : Program} {w : World} {A : Around} {R : Result → Shared → Prop} {hp : Heap} {g : Array GenState} {d : Drawn} {t : Nat} {os : OsState}
/-- self.f = v on an error that has no dict as yet -/
theorem osa_x {K : Frag} {f : Str} {tk : Tok} {v : Value} {x C : Addr} {fv : Array Value} {bmB : List Value} {newId : String} (B : Bas bmB newId) (X : K.In hp) (hx : hp.get? x = some { cls := .ref C, data := .fields fv }) (ho : excOver K C bmB = true) (hh : hasDictIn K C = true)
    (ha : findIn K (.ref C) f = some none)
    (go : ∀ h' tk' dx, (∀ b o, b ≠ x → hp.get? b = some o → h'.get? b = some o) → hp.objs.size ≤ dx → dx ≠ x → h'.get? x = some { cls := .ref C, dict := some dx, data := .fields fv } → h'.Ns1 dx (fun y => if y = f then some v else none) → R (.ok (.ret .none)) ⟨h', g, d, tk', os⟩) :
    codeAny (model prog w) A (.call (.builtin "object.__setattr__") ⟨[.ref x, .str f tk, v], []⟩) R ⟨hp, g, d, t, os⟩ := by
  obtain ⟨cd, hcd, hdct⟩ := any_some hh
  obtain ⟨bm, hm, ht⟩ : ∃ bm, cd.mro = .ref C :: bm ∧ excTail bmB bm = true := by
    unfold excOver at ho
    rw [hcd] at ho
    have ho : (match cd.mro with | .ref C' :: bm => C' == C && excTail bmB bm | _ => false) = true := ho
    split at ho
    · rename_i C' bm e
      obtain ⟨h1, h2⟩ := Bool.and_eq_true_iff.mp ho
      rw [beq_iff_eq.mp h1] at e
      exact ⟨bm, e, h2⟩
    · cases ho
  have ob : cd.mro.contains (.type "object") = true := by rw [hm, List.contains_cons, excTail_contains _ _ ht, B.ob, Bool.or_true]
  have ne : cd.mro.isEmpty = false := by rw [hm]; rfl
  have ps : ∀ self, PySem.refuseLoop self "__setattr__" cd.mro = pure () := fun self => excTail_pass self (B.pass self) _ (by rw [hm]; exact ht)
  have I : InstAt hp x { cls := .ref C, data := .fields fv } C none := ⟨hx, rfl, rfl, trivial⟩
  have xs : x ≠ hp.objs.size := Nat.ne_of_lt (Heap.lt_size hx)
  have SF := F.store_object
  have su : Looks (model prog w) hp (isInstance (.ref x) (.type "object")) true := I.type.andThen (looks_mroIn X (by unfold mroIn; rw [hcd, Option.bind_some, if_neg (by rw [ne]; decide), ob]))
  have lm : Looks (model prog w) hp (mroOf (.ref C)) cd.mro := (looks_clsIn X hcd).andThen .now
  have ls : Looks (model prog w) hp (storeTaker? none) none := .now
  have lc : Looks (model prog w) hp (classData C) cd := looks_clsIn X hcd
  refine codeAny_call_builtin SF.slot.plain SF.entry (@check_slot (model prog w) _ _ ⟨hp, g, d, t, os⟩ "object.__setattr__" "object" "__setattr__" (.ref x) [.str f tk, v] [] _ SF.kind SF.split su (SF.args (.ref x) (.str f tk) v) ?_)
  rw [osa_eq, refuse_eq]
  refine wpAny_bind (wpAny_bind (I.type.at (wpAny_bind (lm.at ?_)))); rw [ps]
  refine wpAny_pure (wpAny_bind (I.type.at (wpAny_bind ((looks_findIn X ha).at (wpAny_bind (ls.at ?_)))))); show wpAny _ _ (storeInOwnDict (.ref x) (.ref C) (.str f tk) f v false) _ _ _
  obtain ⟨nm, bs, mro, ns, qn, hd, sn, sb, ab, col, del⟩ := cd
  have hdct : hd = true := hdct
  subst hdct
  unfold storeInOwnDict ownDictForStores
  repeat (first | with_reducible refine HandSPX.store_in_new ?_ ?_ | with_reducible refine wpAny_loadPart_at hx ?_ | with_reducible refine lc.at ?_ | wp_step)
  · exact ⟨_, #[], _, (Heap.get?_update_ne _ _ _ _ xs.symm).trans (Heap.get?_push_at rfl rfl), rfl, fun e he => absurd he (by simp), fun _ => rfl⟩
  · intro h' tk' hn' hs
    have hx1 : (hp.push { cls := .type "dict", data := .dict #[] }).get? x = some { cls := .ref C, data := .fields fv } := Heap.get?_push_of_some _ hx
    exact go h' tk' hp.objs.size (fun b o hb ho => (hs.2 b (Nat.ne_of_lt (Heap.lt_size ho))).trans ((Heap.get?_update_ne _ _ _ _ hb).trans (Heap.get?_push_of_some _ ho))) (Nat.le_refl _) xs.symm ((hs.2 x xs).trans (Heap.get?_update_self _ hx1 rfl)) hn'
end
end XC
/-- what the written part says of an error class -/
structure OexG (K : PySem.W.Frag) (C : Addr) : Prop where
  ex : ∃ (bmB : List Value) (newId : String), XC.Bas bmB newId ∧ PySem.W.excInitIn K C bmB newId = true ∧ PySem.W.excOver K C bmB = true
  hd : PySem.W.hasDictIn K C = true
  sa : PySem.W.findIn K (.ref C) "__setattr__" = some (some (.builtin "object.__setattr__"))
  exC : PySem.W.subIn K (.ref C) (.type "BaseException") = some true
  tyC : PySem.W.typeIn K (.ref C) = some (.type "type")
  kC : PySem.W.keepIn K (.ref C) = true
section
variable {X : Cx} {pins : List (Addr × Obj)} {σ : L2.St} {H : Hp} {s : Shared} {a C : Addr} {f : Str} {y : V} {u : Value} {Q : Unit → Shared → Prop} {E : Value → Shared → Prop} {A : Around}
/-- self.f = y, the first one -/
theorem ostG (T : OexG X.K C) (I : Inv X pins σ H s) (e : H a = some (exo a C none)) (hno : PySem.W.findIn X.K (.ref C) f = some none) (ry : RelV y u)
    (go : ∀ dx s', H dx = none → dx ≠ a → Inv X pins σ (upd (upd H dx (exd dx [(f, y)])) a (exo a C (some dx))) s' → Q () s') : wpAny (model X.prog X.w) A (setAttr (.ref a) f u) Q E s := by
  obtain ⟨bmB, newId, B, _, ov⟩ := T.ex
  obtain ⟨t1, ho⟩ := exo_at I.hok e
  obtain ⟨hp, g, d, t, os⟩ := s
  refine PySem.W.set_plain I.kIn (ox := { cls := .ref C, dict := none, data := .fields #[.ref t1, .none, .none, .none, .bool false, .none] }) (od := none) ⟨ho, rfl, rfl, trivial⟩ T.sa (XC.osa_x B I.kIn ho ov T.hd hno fun h' tk' dx k dn dne hx hn => ?_)
  have hnd : H dx = none := I.hok.fresh dn
  have ndx : ∀ {b : Addr} {o : Obj}, hp.get? b = some o → b ≠ dx := fun {b o} q => Nat.ne_of_lt (Nat.lt_of_lt_of_le (Heap.lt_size q) dn)
  have nea : ∀ {b : Addr}, H b = none → b ≠ a := fun {b} n z => by rw [z, e] at n; cases n
  have U : Un X.fs [] H (upd (upd H dx (exd dx [(f, y)])) a (exo a C (some dx))) hp h' := {
    keep := fun b o q n _ _ => k b o (nea n) q
    slot := fun b o q n _ _ => ⟨o.slots, k b o (nea n) q⟩
    free := fun b o q n _ => (upd_ne (nea n)).trans ((upd_ne (ndx q)).trans n)
    there := fun b o q _ => by
      by_cases hb : b = a
      · exact ⟨_, hb ▸ hx⟩
      · exact ⟨o, k b o hb q⟩
    tups := fun b xs q => (upd_ne (at_ne e q exo_tup)).trans ((upd_ne (ne_of_none q hnd)).trans q)
    frzs := fun b o v q => (upd_ne (at_ne e q exo_frz)).trans ((upd_ne (ne_of_none q hnd)).trans q)
    tbls := fun b ps q => ⟨#[], by rw [upd_ne (at_ne e q exo_tbl), upd_ne (ne_of_none q hnd), q]; simp⟩ }
  refine go dx _ hnd dne (I.un (t' := tk') U fun b o q => ?_)
  by_cases hb : b = a
  · subst hb
    rw [upd_same] at q
    cases q
    exact exo_ok hx
  · rw [upd_ne hb] at q
    by_cases hbd : b = dx
    · subst hbd
      rw [upd_same] at q
      cases q
      refine exd_ok hn fun g => ?_
      rw [lookup_put]
      by_cases hg : g = f
      · rw [if_pos hg, if_pos hg]; exact ry
      · rw [if_neg hg, if_neg hg]; exact trivial
    · rw [upd_ne hbd] at q
      refine (I.hok b o q).stay (fun c v hc z => k c v ?_ z) (fun c hc => (upd_ne (at_ne e hc exo_own)).trans ((upd_ne (ne_of_none hc hnd)).trans hc)) (fun c xs hc => (upd_ne (at_ne e hc exo_tup)).trans ((upd_ne (ne_of_none hc hnd)).trans hc))
      rcases hc with hc | hc
      · rw [hc]; exact hb
      · exact at_ne e hc exo_own
end
/-- self.f = e in an error's __init__ -/
def tOstG (K : PySem.W.Frag) (f : Str) (to te : TE) : TS := fun D σ H => te σ H fun y H1 => to σ H1 fun x H2 => ∃ a C : Addr, x = .ref a ∧ OexG K C ∧ PySem.W.findIn K (.ref C) f = some none ∧ H2 a = some (exo a C none) ∧
  ∀ dx, H2 dx = none → dx ≠ a → D.nx σ (upd (upd H2 dx (exd dx [(f, y)])) a (exo a C (some dx)))
theorem ps_ostG {X : Cx} {o e : Expr} {to te : TE} {f : Str} {p' pos : Pos} (ho : PE X o to) (he : PE X e te) (hs : swapsWith e (some (.Attribute o f p')) pos.line X.env = pure false := by rfl) : PS X (.Assign [.Attribute o f p'] e pos) (tOstG X.K f to te) := by
  refine ⟨fun pins s σ H D I h => plainObj_wpAny_Assign_Attribute (thn (he.run pins s σ H _ I h) fun v s1 ⟨y, H1, I1, r1, q1⟩ => thn (ho.run pins s1 σ H1 _ I1 q1) fun u s2 ⟨x, H2, I2, r2, a, C, ex, T, hno, ea, q⟩ => ?_) hs⟩
  subst ex
  obtain rfl : u = Value.ref a := r2
  exact ostG T I2 ea hno r1 fun dx s' n ne J => ⟨σ, _, J, q dx n ne⟩
/-- what the __init__ of an error class with one field does -/
def spX (C : Addr) (f : Str) : Sp := fun vs H Q _ => ∃ (a : Addr) (v : V), vs = [.ref a, v] ∧ H a = some (exo a C none) ∧ ∀ dx, H dx = none → dx ≠ a → Q .non (upd (upd H dx (exd dx [(f, v)])) a (exo a C (some dx)))
/-- an error class under its name -/
structure HasX (P : Program) (w : World) (K : PySem.W.Frag) (mg : Str → Option Value) (base : Heap) (k : Nat) (x : Str) (C : Addr) (f : Str) : Prop where
  ex : ∃ (fI : Addr) (fd : FuncData) (ps : List Str), OexG K C ∧ PySem.W.findIn K (.ref C) "__init__" = some (some (.ref fI)) ∧ PySem.W.typeIn K (.ref fI) = some (.type "function") ∧ FnOk P w K mg base CX0 k fI fd ps (spX C f) ∧ mg x = some (.ref C) ∧ Binds K fd ps []
/-- C(e), to be raised -/
def tMkX (C : Addr) (f : Str) (ta : TA) : L2.St → Hp → XK → Prop := fun σ H Q => ta σ H fun vs H1 => ∃ v, vs = [v] ∧ ∀ d, H1 d = none → Q (.ref C) (some d) (upd H1 d (.xd [(f, v)]))
theorem pmk_x {X : Cx} {x : Str} {C : Addr} {f : Str} {k : Nat} {e : Expr} {ta : TA} {p pos : Pos} (T : HasX X.prog X.w X.K X.mg X.base k x C f) (hr : Room (k + 1) X.A) (hg : Gl X x) (ha : PA X [e] ta)
    (hdb : (x == ("__debug__" : Str)) = false := by decide) (he : starEach [e] X.env = (false, eval e X.env) :: starEach [] X.env := by rfl) : L2N.PMk X (.Call (.Name x p) [e] [] pos) (tMkX C f ta) := by
  intro pins s σ H Q I h
  obtain ⟨fI, fd, ps, T, iC, tI, F1, hm, hb⟩ := T.ex
  obtain ⟨bmB, newId, B, hini, ov⟩ := T.ex
  refine wpAny_Call_Name_kw (ld_glob I hg hm ?_ hdb)
  refine PySem.W.callWith_K (h₀ := X.base) I.ok.mod.kin T.kC (thn (ha.run pos pins s σ H _ I h) fun us s1 ⟨vs, H1, I1, r1, v, ev, q1⟩ => ⟨I1.kIn, ?_⟩) he rfl
  subst ev
  cases r1 with
  | @cons _ u _ ur ru rn =>
    cases rn
    show wpAny _ _ (call (.ref C) [u]) _ _ _
    obtain ⟨hp, g, dr, tk, os⟩ := s1
    obtain ⟨nm, N, qn, bs, bm, hdct, sn, sub, ab, col, dd, k0, k1, k2, k3, k5, hC, hT⟩ := PySem.W.excInit_of I1.kIn hini
    obtain ⟨B0, i0, bm0, FB, cB⟩ := B.ex
    have hn : H1 (hp.objs.size + 1) = none := I1.hok.fresh (Nat.le_succ _)
    have kk : ∀ b o, hp.get? b = some o → ((hp.push (PySem.W.kdv_tup [u])).push (XC.xObj C hp.objs.size)).get? b = some o := fun b o z => Heap.get?_push_of_some _ (Heap.get?_push_of_some _ z)
    have hget : ((hp.push (PySem.W.kdv_tup [u])).push (XC.xObj C hp.objs.size)).get? (hp.objs.size + 1) = some (XC.xObj C hp.objs.size) := by heap_get
    have I2 : Inv X pins σ (upd H1 (hp.objs.size + 1) (exo (hp.objs.size + 1) C none)) ⟨(hp.push (PySem.W.kdv_tup [u])).push (XC.xObj C hp.objs.size), g, dr, tk, os⟩ :=
      I1.laid (t' := tk) (a := hp.objs.size + 1) (o := exo (hp.objs.size + 1) C none) kk (Nat.le_succ _) (exo_ok hget)
    have r2 : Vals [V.ref (hp.objs.size + 1), v] [Value.ref (hp.objs.size + 1), u] := .cons rfl (.cons ru .nil)
    have hq : spX C f [.ref (hp.objs.size + 1), v] (upd H1 (hp.objs.size + 1) (exo (hp.objs.size + 1) C none)) (fun r H2 => r = .non ∧ ∃ d, H1 d = none ∧ d ≠ hp.objs.size + 1 ∧ H2 = upd (upd (upd H1 (hp.objs.size + 1) (exo (hp.objs.size + 1) C none)) d (exd d [(f, v)])) (hp.objs.size + 1) (exo (hp.objs.size + 1) C (some d))) (fun _ _ _ => False) :=
      ⟨_, _, rfl, upd_same, fun dx z ne => ⟨rfl, dx, by rw [upd_ne ne] at z; exact z, ne, rfl⟩⟩
    have hl : ([Value.ref (hp.objs.size + 1), u] ++ []).length = ps.length := by
      rw [List.append_nil, ← F1.len _ _ _ _ hq, ← r2.length]
    have b2 := hb _ [Value.ref (hp.objs.size + 1), u] I2.kIn hl
    rw [List.append_nil] at b2
    refine wpAny_call (XC.call_x FB (by rw [hT]; exact cB) (by rw [hT]; exact B.noA) (by rw [hT]; exact B.noN) hC (PySem.W.looks_findIn I1.kIn iC) (fun self => PySem.W.bind_fn I1.kIn self tI) (by show 1 ≤ sizeLine; rw [sizeLine_eq]; omega)
      (codeAny_mono (F1.run _ X.stack _ _ ⟨[Value.ref (hp.objs.size + 1), u], []⟩ [Value.ref (hp.objs.size + 1), u] _ _ (fun _ _ _ => False) (hr.make C [u] []) (I2.env0.make C [u] []) b2 r2 hq) fun r s' hq' => ?_))
    cases r with
    | error er => exact hq'.elim
    | ok fl =>
      cases fl with
      | ret y =>
        obtain ⟨v2, H2, os2, bare2, un2, hok2, rv, ev, d, hd1, dne, eH⟩ := hq'
        subst ev
        obtain ⟨h2, g2, d2, t2, os'⟩ := s'
        obtain ⟨t0, G, J, kG, ge, hoe, na⟩ := mk_end0 (d2 := d2) (t2 := t2) (fs := [(f, v)]) I1 (Nat.le_succ _) kk un2 hok2 os2 bare2 (by rw [eH, upd_same]) (by rw [eH, upd_ne dne, upd_same]) hd1
        have eq : upd (del H2 (hp.objs.size + 1)) d (.xd [(f, v)]) = upd H1 d (.xd [(f, v)]) := by
          funext b
          by_cases hbd : b = d
          · rw [hbd, upd_same, upd_same]
          · rw [upd_ne hbd, upd_ne hbd]
            by_cases hba : b = hp.objs.size + 1
            · rw [hba, del_same, hn]
            · rw [del_ne hba, eH, upd_ne hba, upd_ne hbd, upd_ne hba]
        rw [eq] at J na
        exact ⟨rv, ⟨hp.objs.size + 1, _, _, ⟨G, g2, d2, t2, os'⟩, _, .ref C, some d, rfl, J, kG, ge, hoe, ⟨rfl, rfl, fun vs hv => by cases hv; rfl⟩, rfl, rfl, na, rfl, bare2, raises_own T.exC T.tyC, q1 d hd1⟩⟩
      | next => exact hq'.elim
      | brk => exact hq'.elim
      | cont => exact hq'.elim

/-! ### try with several clauses, each with a class or a tuple of classes, with or without a name -/
namespace TX
open PySem.W PySem.Calls PyProof.Rows
section
variable {M : Model} {h : Heap} {K : Frag}
theorem look_each {α : Type} {f : α → PUnit → Sem (ForInStep PUnit)} : ∀ {cs : List α}, (∀ c ∈ cs, Looks M h (f c ⟨⟩) (.yield ⟨⟩)) → Looks M h (forIn cs PUnit.unit f) ⟨⟩
  | [], _ => fun A Q E s k q => wpAny_pure q
  | c :: r, hf => by
    rw [List.forIn_cons]
    exact (hf c List.mem_cons_self).andThen (look_each fun d hd => hf d (List.mem_cons_of_mem _ hd))
theorem look_first {α β : Type} {f : α → β → Sem (ForInStep β)} {b0 bd : β} {p : α → Bool} : ∀ {cs : List α}, (∀ c ∈ cs, Looks M h (f c b0) (if p c = true then .done bd else .yield b0)) → Looks M h (forIn cs b0 f) (if cs.any p = true then bd else b0)
  | [], _ => fun A Q E s k q => wpAny_pure q
  | c :: r, hf => by
    rw [List.forIn_cons, List.any_cons]
    have h1 := hf c List.mem_cons_self
    cases hp : p c with
    | true =>
      rw [hp, if_pos rfl] at h1
      rw [Bool.true_or, if_pos rfl]
      exact h1.andThen fun A Q E s k q => wpAny_pure q
    | false =>
      rw [hp, if_neg Bool.false_ne_true] at h1
      rw [Bool.false_or]
      exact h1.andThen (look_first fun d hd => hf d (List.mem_cons_of_mem _ hd))
theorem exmAny_all {cls : Value} : ∀ {cs : List Value} {b : Bool}, exmAny K cls cs = some b → (∀ c ∈ cs, exmOne K cls c = some ((exmOne K cls c).getD false)) ∧ b = cs.any fun c => (exmOne K cls c).getD false
  | [], b, e => ⟨fun c hc => (by cases hc), (Option.some.inj (show some false = some b from e)).symm⟩
  | c :: r, b, e => by
    obtain ⟨b1, d1, x1, y1, z1⟩ := exmAny_cons e
    obtain ⟨i1, i2⟩ := exmAny_all y1
    refine ⟨fun d hd => ?_, ?_⟩
    · rcases List.mem_cons.mp hd with rfl | hd
      · rw [x1]; rfl
      · exact i1 d hd
    · rw [List.any_cons, x1, ← i2]; exact z1
/-- the clause's tuple of classes -/
theorem exm_tupN {cls : Value} {tp e : Addr} {cs : List Value} {b : Bool} (X : K.In h) (LT : Looks M h (typeOf (.ref e)) cls) (hp : h.get? tp = some { cls := .type "tuple", data := .seq cs.toArray }) (hx : exmAny K cls cs = some b) : Looks M h (excMatches (.ref e) (.ref tp)) b := by
  obtain ⟨h1, h2⟩ := exmAny_all hx
  have tt : Looks M h (isInstance (.ref tp) (.type "tuple")) true := ((Looks.ld hp).andThen .now).andThen (Looks.of_pure isSubtype_tuple_tuple)
  intro A Q E s k q
  unfold excMatches
  refine wpAny_bind ((tt.keeps k).here ?_)
  rw [if_pos rfl]
  first
    | refine wpAny_bind (wpAny_seqItems (k _ _ hp) rfl ?_)
    | refine wpAny_bind (wpAny_bind (wpAny_seqItems (k _ _ hp) rfl (wpAny_pure ?_)))
  dsimp only [Option.getD_some, Option.getD]
  refine wpAny_bind (wpAny_pure ?_)
  refine wpAny_bind ((look_each (h := h) (cs := cs) fun c hc => ?_) _ _ _ _ k ?_)
  · intro A' Q' E' s' k' q'
    refine wpAny_bind ((((exm_cls (M := M) X (h1 c hc)).1).keeps k').here ?_)
    simp only [Bool.not_true, Bool.false_eq_true, if_false]
    exact wpAny_pure q'
  · refine wpAny_bind ((LT.keeps k).here ?_)
    refine wpAny_bind ((look_first (h := h) (p := fun c => (exmOne K cls c).getD false) (bd := (some true, ())) (cs := cs) fun c hc => ?_) _ _ _ _ k ?_)
    · intro A' Q' E' s' k' q'
      refine wpAny_bind ((((exm_cls (M := M) X (h1 c hc)).2).keeps k').here ?_)
      cases hv : (exmOne K cls c).getD false with
      | true => rw [hv, if_pos rfl] at q'; rw [if_pos rfl]; exact wpAny_pure q'
      | false => rw [hv, if_neg Bool.false_ne_true] at q'; rw [if_neg Bool.false_ne_true]; exact wpAny_pure q'
    · rw [← h2]
      cases b with
      | true => rw [if_pos rfl]; exact wpAny_pure q
      | false => rw [if_neg Bool.false_ne_true]; exact wpAny_pure q
end
end TX
/-- own classes under these names -/
inductive NamesAll (X : Cx) : List Expr → List Value → Prop
  | nil : NamesAll X [] []
  | cons {x : Str} {p : Pos} {c : Value} {es : List Expr} {cs : List Value} (h : Names X x c) (r : NamesAll X es cs) : NamesAll X (.Name x p :: es) (c :: cs)
/-- what an except clause tests -/
inductive Tst (X : Cx) : Expr → List Value → Prop
  | one {x : Str} {p : Pos} {c : Value} (h : Names X x c) : Tst X (.Name x p) [c]
  | tup {es : List Expr} {cs : List Value} {k : Nat} {p : Pos} (h : NamesAll X es cs) (hl : cs.length ≤ 100) : Tst X (.Tuple es k p) cs
section
variable {X : Cx} {a : Addr} {pn : List (Addr × Obj)} {σ : L2.St} {H : Hp} {s : Shared}
theorem name_test {x : Str} {c : Value} {p : Pos} (h : Names X x c) (I : Inv (X.suite a pn) [] σ H s) {Q : Value → Shared → Prop} {E : Value → Shared → Prop} (q : Q c s) : wpAny (model X.prog X.w) (X.A.mark (some (.ref a))) (eval (.Name x p) X.env) Q E s := by
  obtain ⟨hg, hd, hm | ⟨hm, hv, hn⟩⟩ := h
  · exact ld_glob (X := X.suite a pn) I hg hm q hd
  · exact ld_blt (X := X.suite a pn) I hg hm hv q hn hd
theorem names_test {es : List Expr} {cs : List Value} {pos : Pos} (h : NamesAll X es cs) (I : Inv (X.suite a pn) [] σ H s) : ∀ {Q : List Value → Shared → Prop} {E : Value → Shared → Prop}, Q cs s → wpAny (model X.prog X.w) (X.A.mark (some (.ref a))) (spliced (backTo pos (starEach es X.env))) Q E s := by
  induction h with
  | nil => exact fun q => wpAny_pure q
  | cons h r ih => exact fun q => wpAny_items_cons (name_test h I (ih q))
theorem Tst.run {t : Expr} {cs : List Value} {cls : Value} {b : Bool} (T : Tst X t cs) (I : Inv (X.suite a pn) [] σ H s) (LT : PySem.W.Looks (model X.prog X.w) s.heap (typeOf (.ref a)) cls) (hx : PySem.W.exmAny X.K cls cs = some b) {Q : Bool → Shared → Prop} {E : Value → Shared → Prop}
    (q : ∀ h', (∀ b o, s.heap.get? b = some o → h'.get? b = some o) → Q b { s with heap := h' }) :
    wpAny (model X.prog X.w) (X.A.mark (some (.ref a))) (eval t X.env) (fun c s1 => wpAny (model X.prog X.w) (X.A.mark (some (.ref a))) (excMatches (.ref a) c) Q E s1) E s := by
  cases T with
  | one h =>
    obtain ⟨b1, d1, x1, y1, z1⟩ := PySem.W.exmAny_cons hx
    have e : d1 = false := (Option.some.inj (show some false = some d1 from y1)).symm
    subst e
    rw [Bool.or_false] at z1
    subst z1
    exact name_test h I ((PySem.W.exm_one (M := model X.prog X.w) I.kIn LT x1).here (q _ fun _ _ z => z))
  | tup h hl =>
    refine wpAny_Tuple_spliced (names_test h I ⟨by rw [sizeLine_eq]; omega, ?_⟩)
    have k : ∀ b o, s.heap.get? b = some o → (s.heap.push { cls := .type "tuple", data := .seq cs.toArray }).get? b = some o := fun b o z => Heap.get?_push_of_some _ z
    exact (TX.exm_tupN (I.kIn.keeps k) (LT.keeps k) (Heap.get?_push_size _ rfl) hx).here (q _ k)
end
/-- the suite of a clause, for any error that it takes -/
abbrev SuOk (X : Cx) (suite : List Stmt) (ts : Addr → Value → Option Addr → TS) : Prop :=
  ∀ (a : Addr) (oe : Obj) (cls : Value) (d : Option Addr) (pn : List (Addr × Obj)), L2N.Zn cls d oe → (∃ vs, oe.data = .fields vs) → PSs (X.suite a ((a, oe) :: pn)) suite (ts a cls d)
inductive HdX (X : Cx) : List ExceptHandler → List (List Value × Option Nat × (Addr → Value → Option Addr → TS)) → Prop
  | nil : HdX X [] []
  | only {t : Expr} {cs : List Value} {ts : Addr → Value → Option Addr → TS} {b₀ : Stmt} {suite : List Stmt} {pos' : Pos} {hds : List ExceptHandler} {l : List (List Value × Option Nat × (Addr → Value → Option Addr → TS))} (ht : Tst X t cs) (hsu : SuOk X (b₀ :: suite) ts) (r : HdX X hds l) :
      HdX X (.ExceptHandler (some t) none (b₀ :: suite) pos' :: hds) ((cs, none, ts) :: l)
  | named {t : Expr} {n : Str} {i : Nat} {cs : List Value} {ts : Addr → Value → Option Addr → TS} {b₀ : Stmt} {suite : List Stmt} {pos' : Pos} {hds : List ExceptHandler} {l : List (List Value × Option Nat × (Addr → Value → Option Addr → TS))} (ht : Tst X t cs)
      (hi : X.N[i]? = some n) (hln : X.env.kindOf n = some .local) (hsu : SuOk X (b₀ :: suite) ts) (r : HdX X hds l) : HdX X (.ExceptHandler (some t) (some n) (b₀ :: suite) pos' :: hds) ((cs, some i, ts) :: l)
/-- a slot that is emptied behind the suite -/
def Ends.less (D : Ends) (i : Nat) : Ends := { nx := fun σ H => D.nx (σ.set i none) H, rt := D.rt, bk := fun σ H => D.bk (σ.set i none) H, ct := fun σ H => D.ct (σ.set i none) H }
/-- what the clauses wish of an error of the body -/
def wX (K : PySem.W.Frag) (Wout : WX) (D : Ends) : List (List Value × Option Nat × (Addr → Value → Option Addr → TS)) → WX
  | [] => Wout
  | (cs, none, ts) :: r => fun cls d σ H => ∃ b, PySem.W.exmAny K cls cs = some b ∧ (b = true → ∀ a, H a = none → ts a cls d D σ H) ∧ (b = false → wX K Wout D r cls d σ H)
  | (cs, some i, ts) :: r => fun cls d σ H => ∃ b, PySem.W.exmAny K cls cs = some b ∧ (b = true → ∀ a, H a = none → ts a cls d (Ends.less D i) (σ.set i (some (.ref a))) H) ∧ (b = false → wX K Wout D r cls d σ H)
theorem flying_keeps {B h h' : Heap} {l : List Env} {a : Addr} {Z : Obj → Prop} (k : ∀ b o, h.get? b = some o → h'.get? b = some o) (x : HandSPX.FlyingZ B l a Z h) : HandSPX.FlyingZ B l a Z h' := by
  obtain ⟨k1, k2, k3, oe, vs, T, oT, ts, he, hz, hd, h1, hT0, hne, hT, hdT, h3⟩ := x
  exact ⟨fun b o z => k b o (k1 b o z), k2, k3.of_keeps fun b o z _ => ⟨o, k b o z, rfl⟩, oe, vs, T, oT, ts, k _ _ he, hz, hd, h1, hT0, hne, k _ _ hT, hdT, h3⟩
theorem up_keeps {h h' : Heap} (k : ∀ b o, h.get? b = some o → h'.get? b = some o) : h.UpToSlots h' := fun b o z _ => ⟨o.slots, k b o z⟩
section
variable {X : Cx} {body : List Stmt} {h₀ : ExceptHandler} {hds : List ExceptHandler} {l : List (List Value × Option Nat × (Addr → Value → Option Addr → TS))} {pos : Pos} {tb : WX → TS} {Wout : WX}
/-- the clauses, one after the other, at an error that has landed -/
theorem clauses (hs : X.stack = X.env :: X.outer) (hf : X.env.frame = some X.env.locals) (hN : X.N.Nodup) (tk : L2N.Takes X Wout) {pins : List (Addr × Obj)} {σ : L2.St} {H : Hp} {sI : Shared} {a : Addr} {B : Heap} {cls : Value} {d : Option Addr} {D : Ends}
    (J : Inv X pins σ H sI) (nb : ∀ b o, sI.heap.get? b = some o → b ∉ frs X.stack → B.get? b = some o) (na : H a = none) (hh : HdX X hds l) : wX X.K Wout D l cls d σ H →
    ∀ s : Shared, HandSPX.FlyingZ B (X.env :: X.outer) a (L2N.Zn cls d) s.heap → sI.heap.UpToSlots s.heap → s.os = sI.os → PyProof.Rows.AllBare s.gens → wpAny (model X.prog X.w) X.A (handleBy (.ref a) X.env hds) (SP X pins D) X.xe s := by
  have ok := J.ok
  have land : ∀ {h : Heap} {s : Shared}, HandSPX.FlyingZ B (X.env :: X.outer) a (L2N.Zn cls d) h → sI.heap.UpToSlots h → s.os = sI.os → PyProof.Rows.AllBare s.gens → Inv X pins σ H { s with heap := h } := fun {h s} fl up os ag => J.landed (s' := { s with heap := h }) nb fl.1 up os ag
  have suit : ∀ {h : Heap} {s : Shared}, HandSPX.FlyingZ B (X.env :: X.outer) a (L2N.Zn cls d) h → sI.heap.UpToSlots h → s.os = sI.os → PyProof.Rows.AllBare s.gens →
      ∃ oe, L2N.Zn cls d oe ∧ (∃ vs, oe.data = .fields vs) ∧ h.get? a = some oe ∧ Inv (X.suite a ((a, oe) :: (X.pn ++ pins))) [] σ H { s with heap := h } := fun {h s} fl up os ag => by
    obtain ⟨oe, vs, he, hz, hd⟩ := fl.there
    have nfr : a ∉ frs (X.env :: X.outer) := fun hm => by
      obtain ⟨_, o', e', hnf⟩ := fl.2.2.1.mem hm
      rw [he] at e'; cases e'
      exact hnf _ hd
    have nL : a ≠ X.env.locals := fun z => nfr (List.mem_filterMap.mpr ⟨X.env, List.mem_cons_self, by rw [hf, z]⟩)
    have nF : a ∉ X.fs := fun hm => by
      obtain ⟨e, he, q⟩ := List.mem_filterMap.mp hm
      exact nfr (List.mem_filterMap.mpr ⟨e, List.mem_cons_of_mem _ he, q⟩)
    exact ⟨oe, hz, ⟨vs, hd⟩, he, (land fl up os ag).suite he hd na nL nF⟩
  induction hh with
  | nil =>
    intro w s fl up os ag
    refine wpAny_handleBy_nil ?_
    obtain ⟨k1, k2, k3, oe, vs, T, oT, ts', he, hz, hd, h1, hr⟩ := id fl
    unfold PySem.passOn
    refine wpAny_bind (wpAny_field he hd h1 ?_); rw [if_neg (show ¬ ((Value.ref T == Value.none) = true) from by simp)]
    have last : wpAny (model X.prog X.w) X.A (setFlight (.ref a) X.env.frame) (fun _ s4 => wpAny (model X.prog X.w) X.A (throw (.ref a) : Sem Flow) (SP X pins D) X.xe s4) X.xe s := by
      rw [hf]
      exact HandSPX.setFlight_upZ fl fun h4 hh4 up4 => wpAny_throw (tk _ _ ⟨a, B, sI, pins, σ, H, cls, d, rfl, J, nb, up.trans up4, .inr (.inr (by rw [hs]; exact hh4)), na, os, ag, w⟩)
    first
      | exact wpAny_bind (wpAny_pure (wpAny_bind last))
      | exact wpAny_bind last
  | @only t cs ts b₀ suite pos' hds2 l2 ht hsu r ih =>
    rintro ⟨b, hb1, yes, no⟩ s fl up os ag
    obtain ⟨oe, hz, hd, he, S⟩ := suit (s := s) fl up os ag
    have LT : PySem.W.Looks (model X.prog X.w) s.heap (typeOf (.ref a)) cls := fun A Q E s' k q => wpAny_typeOf_ref (k _ _ he) (by rw [hz.1]; exact q)
    refine wpAny_handleBy_cons (codeAny_handlers_test (ht.run S LT hb1 fun h1 k => ?_)) (by intro q; cases q)
    have fl1 := flying_keeps k fl; have up1 := up.trans (up_keeps k)
    cases b with
    | false => exact ih (no rfl) { s with heap := h1 } fl1 up1 os ag
    | true =>
      refine codeAny_handlers_suite (HandSPX.lands_againZ (s := { s with heap := h1 }) fl1 fun h4 fl4 up4 => ?_)
      obtain ⟨oe4, hz4, hd4, he4, S4⟩ := suit (s := s) fl4 (up1.trans up4) os ag
      refine wpAny_mono ((hsu a oe4 cls d (X.pn ++ pins) hz4 hd4).run [] _ _ H _ S4 (yes rfl a na)) (fun f s6 hsp => ?_) (fun _ _ z => False.elim z)
      cases f with
      | ret u => obtain ⟨v6, σ6, H6, S6, r6, q6⟩ := hsp; exact ⟨_, _, _, S6.unsuite ok, r6, q6⟩
      | next => obtain ⟨σ6, H6, S6, q6⟩ := hsp; exact ⟨_, _, S6.unsuite ok, q6⟩
      | brk => obtain ⟨σ6, H6, S6, q6⟩ := hsp; exact ⟨_, _, S6.unsuite ok, q6⟩
      | cont => obtain ⟨σ6, H6, S6, q6⟩ := hsp; exact ⟨_, _, S6.unsuite ok, q6⟩
  | @named t n i cs ts b₀ suite pos' hds2 l2 ht hi hln hsu r ih =>
    rintro ⟨b, hb1, yes, no⟩ s fl up os ag
    obtain ⟨oe, hz, hd, he, S⟩ := suit (s := s) fl up os ag
    have LT : PySem.W.Looks (model X.prog X.w) s.heap (typeOf (.ref a)) cls := fun A Q E s' k q => wpAny_typeOf_ref (k _ _ he) (by rw [hz.1]; exact q)
    refine wpAny_handleBy_cons (codeAny_handlers_test (ht.run S LT hb1 fun h1 k => ?_)) (by intro q; cases q)
    have fl1 := flying_keeps k fl; have up1 := up.trans (up_keeps k)
    cases b with
    | false => exact ih (no rfl) { s with heap := h1 } fl1 up1 os ag
    | true =>
      refine codeAny_handlers_suite_as (HandSPX.lands_againZ (s := { s with heap := h1 }) fl1 fun h4 fl4 up4 => ?_)
      obtain ⟨oe4, hz4, hd4, he4, S4⟩ := suit (s := s) fl4 (up1.trans up4) os ag
      refine store_ok (X := X.suite a ((a, oe4) :: (X.pn ++ pins))) (v := .ref a) S4 hN hi (.inl hln) rfl (fun s5 S5 => ?_) (.inr hln)
      refine wpAny_mono ((hsu a oe4 cls d (X.pn ++ pins) hz4 hd4).run [] s5 _ H _ S5 (yes rfl a na)) (fun f s6 hsp => ?_) (fun _ _ z => False.elim z)
      have back : ∀ {σ6 : L2.St} {H6 : Hp} {Q : Shared → Prop}, Inv (X.suite a ((a, oe4) :: (X.pn ++ pins))) [] σ6 H6 s6 → (∀ s7, Inv X pins (σ6.set i none) H6 s7 → Q s7) → wpAny (model X.prog X.w) X.A (do bindName X.env n .none; unbindBehindTheSuite X.env n pos') (fun _ s7 => Q s7) X.xe s6 :=
        fun {σ6 H6 Q} S6 hq => gone_ok (S6.unsuite ok) hN hi hln hq
      cases f with
      | ret u => obtain ⟨v6, σ6, H6, S6, r6, q6⟩ := hsp; exact back S6 fun s7 J7 => ⟨_, _, _, J7, r6, q6⟩
      | next => obtain ⟨σ6, H6, S6, q6⟩ := hsp; exact back S6 fun s7 J7 => ⟨_, _, J7, q6⟩
      | brk => obtain ⟨σ6, H6, S6, q6⟩ := hsp; exact back S6 fun s7 J7 => ⟨_, _, J7, q6⟩
      | cont => obtain ⟨σ6, H6, S6, q6⟩ := hsp; exact back S6 fun s7 J7 => ⟨_, _, J7, q6⟩
theorem ps_tryX (hs : X.stack = X.env :: X.outer) (hf : X.env.frame = some X.env.locals) (hN : X.N.Nodup) (tk : L2N.Takes X Wout)
    (hb : ∀ (W : WX) (pn : List (Addr × Obj)) (xe : Value → Shared → Prop), L2N.Takes (X.tr pn xe) W → PassesOwn (model X.prog X.w) X.A X.env xe → PSs (X.tr pn xe) body (tb W))
    (hh : HdX X (h₀ :: hds) l) : PS X (.Try body (h₀ :: hds) [] [] pos) (fun D σ H => tb (wX X.K Wout D l) D σ H) := by
  refine ⟨fun pins s σ H D I h => wpAny_Try_except ?_⟩
  have ok := I.ok
  have hfr : X.A.frames = some (X.env :: X.outer) := by rw [ok.frames, hs]
  refine wpAny_mono ((hb (wX X.K Wout D l) (X.pn ++ pins) (fun e s1 => wpAny (model X.prog X.w) X.A (noteFrame e X.env) (fun _ s2 => wpAny (model X.prog X.w) X.A (setFlight e none) (fun _ s3 =>
    wpAny (model X.prog X.w) X.A (handleBy e X.env (h₀ :: hds)) (SP X pins D) X.xe s3) X.xe s2) X.xe s1) (fun u s' xx => ?_) PassesOwn.looking).run [] s σ H D (I.toTry _) h) (fun f s1 hsp => ?_) (fun e s1 he => he)
  · obtain ⟨a, B, sI, pins', σ', H', cls, d, rfl, J', nb, up, sky, na, os, ag, w⟩ := xx
    exact L2N.Sky.land L2N.Zn.steady hfr hf (by rw [← hs]; exact sky) fun h3 fl3 up3 => clauses hs hf hN tk (J'.ofTry ok) nb na hh w { s' with heap := h3 } fl3 (up.trans up3) os ag
  · cases f with
    | ret u => obtain ⟨v, σ', H', J', r, q⟩ := hsp; exact ⟨v, σ', H', J'.ofTry ok, r, q⟩
    | next => obtain ⟨σ', H', J', q⟩ := hsp; exact wpAny_execs_nil ⟨σ', H', J'.ofTry ok, q⟩
    | brk => obtain ⟨σ', H', J', q⟩ := hsp; exact ⟨σ', H', J'.ofTry ok, q⟩
    | cont => obtain ⟨σ', H', J', q⟩ := hsp; exact ⟨σ', H', J'.ofTry ok, q⟩
end

/-! ### isinstance of an error that is pinned, its dict tracked -/
namespace TX
open PySem.W PySem.Calls PyProof.Rows
section
variable {prog : Program} {w : World} {A : Around} {E : Value → Shared → Prop} {s : Shared} {K : Frag} {x D : Addr} {ox od : Obj}
theorem class_x {Q : Option Value → Shared → Prop} (C : ExcC K D) (X : K.In s.heap) (I : InstAt s.heap x ox D (some od)) (go : Q (some (.ref D)) { s with toks := s.toks + 1 }) : wpAny (model prog w) A (getAttr? (.ref x) "__class__") Q E s := by
  have hf : findObj K D (some od) "__class__" = some (.bind (.builtin "getset_descriptor.__get__") (.builtin "object.__class__")) := by
    obtain ⟨cd, hc, _⟩ := any_some C.hd
    unfold findObj
    rw [hc, Option.bind_some, C.ha, Option.bind_some]
    simp [C.hn, C.ht]
  obtain ⟨hp, g, d, t, os⟩ := s
  have L0 := I.type (M := model prog w); have L1 := looks_findIn (M := model prog w) X C.hg; have L2 := looks_findIn (M := model prog w) X C.hk; have L3 := looks_find (M := model prog w) X I hf
  have sub : Looks (model prog w) hp (isInstance (.ref x) (.type "BaseException")) true := L0.andThen (looks_subIn X C.hs)
  have n0 : (false && onTheHeap (Value.builtin "BaseException.__getattribute__")) = false := rfl
  have n2 : (Value.builtin "BaseException.__getattribute__" == Value.builtin "object.__getattribute__") = false := by decide +kernel
  have n1 : (onTheHeap (Value.ref D) && Value.builtin "BaseException.__getattribute__" == Value.builtin "object.__getattribute__") = false := by rw [n2]; rfl
  unfold getAttr? getAttrBy? getAttrBy
  refine wpAny_bind (wpAny_mkText (wpAny_bind (wpAny_attempt (wpAny_holding (wpAny_bind (L0.at (wpAny_bind (L1.at ?_)))))))); show wpAny _ _ (if (onTheHeap (Value.ref D) && Value.builtin "BaseException.__getattribute__" == Value.builtin "object.__getattribute__") = true then _ else _) _ _ _
  rw [n1, if_neg Bool.false_ne_true]; unfold getAttrByItsOwn hookBefore
  refine wpAny_bind ?_; rw [if_pos (show onTheHeap (Value.ref D) = true from rfl)]
  refine L2.at (wpAny_bind (wpAny_attempt (wpAny_holding ?_))); unfold callGetattribute
  rw [n0, if_neg Bool.false_ne_true]; unfold boundAndCalled; rw [PySem.F.excAttr_ValueError.ga.bind (.ref x)]
  refine wpAny_bind (wpAny_pure ?_); show wpAny _ _ (call (.builtin "BaseException.__getattribute__") [.ref x, .str "__class__" t]) _ _ _
  refine wpAny_call (codeAny_call_builtin PySem.F.excAttr_ValueError.ga.plain PySem.F.entry_bexc_ga (@check_slot (model prog w) _ _ ⟨hp, g, d, t + 1, os⟩ "BaseException.__getattribute__" "BaseException" "__getattribute__" (.ref x) [.str "__class__" t] [] _ (by decide +kernel) (by decide +kernel) sub (PySem.F.args_bexc_ga (.ref x) (.str "__class__" t)) ?_))
  unfold Builtin.«object.__getattribute__»
  refine wpAny_bind (wpAny_of_eq (a := ((Value.ref x : Value), [Value.str "__class__" t])) (by first | rfl | (simp only [slotArgs]; rfl)) (wpAny_bind (wpAny_pure (wpAny_bind (L0.at (wpAny_bind (L3.at ?_)))))))
  show wpAny _ _ (holding [Value.builtin "object.__class__"] (call (.builtin "getset_descriptor.__get__") [.builtin "object.__class__", .ref x, .ref D]) >>= ret) _ _ _
  refine wpAny_bind (wpAny_holding (wpAny_call (class_get (s := ⟨hp, g, d, t + 1, os⟩) X I C.hm (wpAny_pure ?_)))); show wpAny _ _ (handedOut (.ref D)) _ _ _
  rw [handedOut_of (v := .ref D) rfl]
  first
    | exact wpAny_pure (wpAny_pure go)
    | exact wpAny_pure go
    | exact wpAny_pure (wpAny_bind (wpAny_pure (wpAny_pure go)))
theorem kitx_x (C : ExcC K D) : KitX K (.ref x) (.ref D) (fun h => InstAt h x ox D (some od)) := by
  obtain ⟨cd, hc, _⟩ := any_some C.hd
  have hc2 := hc
  unfold clsIn at hc
  split at hc
  · rename_i c' d' cd' sl' ho
    refine ⟨fun _ _ _ I => I.type, fun _ _ X _ => ?_, fun h tp dd its n sl X htp => Bool.eq_false_iff.mpr fun q => ?_, fun X I k => class_x C X I k⟩
    · intro A' Q' E' s' k q
      unfold isType loadHead
      exact wpAny_bind (wpAny_loadPart (k _ _ (X _ _ ho)) (wpAny_pure q))
    · have e : D = tp := Value.ref.inj (beq_iff_eq.mp q)
      subst e
      have z := (X _ _ ho).symm.trans htp
      cases z
  · cases hc
end
end TX
/-- isinstance(e, c), e a pinned error of the class at D with its dict at dd -/
def rIsX (K : PySem.W.Frag) (D a dd : Addr) : List V → Hp → VK → Prop := fun xs H Q => ∃ (c : V) (cv : Value) (b : Bool) (fs : List (Str × V)), xs = [.ref a, c] ∧ (∀ u, RelV c u → u = cv) ∧ PySem.W.kitOne K (.ref D) cv = some b ∧ H dd = some (.xd fs) ∧ Q (.bl b) H
theorem call_isX {X : Cx} {a D dd : Addr} {oe : Obj} (C : ExcC X.K D) (hz : L2N.Zn (.ref D) (some dd) oe) (hf : ∃ vs, oe.data = .fields vs) (hp : (a, oe) ∈ X.pn) : CallR X (.builtin "isinstance") (rIsX X.K D a dd) := by
  intro pins s σ H xs us Q I r h
  obtain ⟨c, cv, b, fs, rfl, hcv, e, ed, q⟩ := h
  cases r with
  | cons rx rr =>
    cases rr with
    | cons rt rr =>
      cases rr
      cases rx
      have ec := hcv _ rt
      subst ec
      obtain ⟨hget, _⟩ := I.pin (a, oe) (List.mem_append.mpr (.inl hp))
      obtain ⟨vs, hv⟩ := hf
      have hx : ObjOk X.prog X.w H s.heap dd (.xd fs) := I.hok dd _ ed
      obtain ⟨mA, hns, _⟩ := hx
      obtain ⟨od, es, ep, ho, _⟩ := hns
      have J : PySem.W.InstAt s.heap a oe D (some od) := ⟨hget, hz.1, by unfold PySem.W.notCls; rw [hv] <;> rfl, by rw [hz.2.1]; exact ho⟩
      exact PySem.W.kia_one (TX.kitx_x C) I.kIn J e (fun z => nomatch z) fun tk => ⟨.bl b, H, I.kept (t' := tk) fun _ _ z => z, rfl, q⟩
/-! ### a def that is called within an except suite and handed the error -/
open L2H in
/-- its promise may speak of the error p that is handled -/
structure FnP (P : Program) (w : World) (K : PySem.W.Frag) (mg : Str → Option Value) (base : Heap) (k : Nat) (f : Addr) (fd : FuncData) (ps : List Str) (sp : Addr × Obj → Sp) : Prop where
  len : ∀ p vs H Q E, sp p vs H Q E → vs.length = ps.length
  run : ∀ (A : Around) (outer : List Env) (s : Shared) (H : Hp) (us : List Value) (vs : List V) (Q : VK) (E : XK) (p : Addr × Obj), RoomH k A → Hot1 A p → PinOk outer H s p → Env0 P w K mg base A outer s H → BindsTo s fd ⟨us, []⟩ (ps.zip us) → Vals vs us → sp p vs H Q E →
    codeAny (model P w) A (.call (.ref f) ⟨us, []⟩) (CR CX0 outer P w H s Q E) s
open L2H PyProof.Rows in
theorem Fun.okP {P : Program} {w : World} {K : PySem.W.Frag} {mg : Str → Option Value} {base : Heap} {x qual : Str} {st : Stmt} {f : Addr} {fd : FuncData} {N ps : List Str} {k : Nat} {sp : Addr × Obj → Sp} (F : Fun K x qual st f fd) (S : FnScope N ps (defScope st)) (len : ∀ p vs H Q E, sp p vs H Q E → vs.length = ps.length)
    (hbody : ∀ (cdv : Value) (A : Around) (outer : List Env) (s : Shared) (H : Hp) (vs : List V) (Q : VK) (E : XK) (p : Addr × Obj), Hot1 A p → RoomH k (A.deeper (envOfC qual (defScope st) s.heap.objs.size f cdv)) → sp p vs H Q E →
      ∃ t, PSs (cxH CX0 P w K mg base N qual (defScope st) f cdv A outer s H E p).nox (defBody st) t ∧ t { nx := fun _ H' => Q .non H', rt := Q } (start N vs) H) : FnP P w K mg base (k + 1) f fd ps sp := by
  obtain ⟨oc, od, kV, doc, pm, an, cdv, ct, osl, rfl, lk, hcd⟩ := F.ex
  refine ⟨len, fun A outer s H us vs Q E p hr hot hpin e0 hb r hsp => ?_⟩
  have hl := len _ _ _ _ _ hsp
  have KX : K.In s.heap := e0.mod.kin.keeps fun b o e => (e0.bs b o e).1
  have lim : s.heap.NoLimit := e0.mod.nolimit.keeps fun b o e => (e0.bs b o e).1
  refine codeAny_call_function hr.depth (KX _ _ lk) rfl S.co S.gen rfl (PySem.W.codeRec_of KX hcd) (hb _ _ _ _ (wpAny_newFunctionEnv_cells S.kind (fun ⟨n, v⟩ hy => ?_) fun env he s1 x => ?_))
  · rcases S.par n (List.of_mem_zip hy).1 with q | q
    · exact .inl q
    · exact .inr ⟨q, PySem.W.cellsFrom_some _ _ _ (.inl q)⟩
  · subst he
    obtain ⟨t, ht, hq⟩ := hbody cdv A outer s H vs Q E p hot (hr.deeper _) hsp
    have I : Inv (cxH CX0 P w K mg base N qual (defScope st) f cdv A outer s H E p) [] (start N vs) H s1 := inv_startH S hpin e0 hl r x
    refine ⟨lim.keeps x.toInCall.keep, codeAny_func (wpAny_mono (ht.nox.run [] s1 (start N vs) H _ I hq) (fun fl s' hs => ?_) fun e s' hs => hs)⟩
    cases fl with
    | ret u => obtain ⟨v, σ', H', J, rv, q⟩ := hs; exact ⟨v, H', J.os, J.bare, J.base, J.hok, rv, q⟩
    | next => obtain ⟨σ', H', J, q⟩ := hs; exact ⟨.non, H', J.os, J.bare, J.base, J.hok, rfl, q⟩
    | brk => obtain ⟨_, _, _, q⟩ := hs; exact q.elim
    | cont => obtain ⟨_, _, _, q⟩ := hs; exact q.elim
/-- f(e, ..), p the error that is handled here -/
def tCallP (sp : Sp) (t : TA) : TE := fun σ H Q => t σ H fun vs H1 => sp vs H1 Q (fun _ _ _ => False)
open L2H PyProof.Rows in
theorem pe_callP {X : Cx} {k : Nat} {f : Addr} {fd : FuncData} {ps : List Str} {sp : Addr × Obj → Sp} {x : Str} {q pos : Pos} {e : Expr} {es : List Expr} {t : TA} {p : Addr × Obj} (F : FnP X.prog X.w X.K X.mg X.base k f fd ps sp) (hr : RoomH k X.A) (hot : Hot1 X.A p) (hp : p ∈ X.pn) (hg : Gl X x) (hm : X.mg x = some (.ref f))
    (hk : PySem.W.keepIn X.K (.ref f) = true) (hb : Binds X.K fd ps []) (ha : PA X (e :: es) t) (hdb : (x == ("__debug__" : Str)) = false := by decide) (he : starEach (e :: es) X.env = (false, eval e X.env) :: starEach es X.env := by rfl) (hpl : (backTo pos (starEach es X.env)).any (·.1) = false := by rfl) :
    PE X (.Call (.Name x q) (e :: es) [] pos) (tCallP (sp p) t) := by
  refine ⟨fun pins s σ H Q I h => wpAny_Call_Name_kw (ld_glob I hg hm (PySem.W.callWith_K (h₀ := X.base) I.ok.mod.kin hk (thn (ha.run pos pins s σ H _ I h) fun us s1 ⟨vs, H1, I1, r, q⟩ => ⟨I1.kIn, ?_⟩) he hpl) hdb)⟩
  have hl : us.length = ps.length := by rw [← r.length]; exact F.len _ _ _ _ _ q
  have b := hb s1 us I1.kIn (by rw [List.append_nil]; exact hl)
  rw [List.append_nil] at b
  have P1 := I1.pin p (List.mem_append_left _ hp)
  show wpAny _ _ (call (.ref f) us) _ _ _
  refine wpAny_call (codeAny_mono (F.run X.A X.stack s1 H1 us vs Q (fun _ _ _ => False) p hr hot ⟨P1.1, P1.2.1, fun hm => (List.mem_cons.mp (I1.stkSub p.1 hm)).elim P1.2.2.1 P1.2.2.2.1, P1.2.2.2.2⟩ I1.env0 b r q) fun r s' hq => ?_)
  cases r with
  | error e => exact hq.elim
  | ok fl =>
    cases fl with
    | ret u => exact I1.after hq
    | next => exact hq.elim
    | brk => exact hq.elim
    | cont => exact hq.elim
/-- the error that a suite holds is handled there -/
theorem hot_suite {X : Cx} {a : Addr} {oe : Obj} {cls : Value} {d : Option Addr} {pn : List (Addr × Obj)} (hz : L2N.Zn cls d oe) (hf : ∃ vs, oe.data = .fields vs) : L2H.Hot1 (X.suite a ((a, oe) :: pn)).A (a, oe) := by
  obtain ⟨vs, hv⟩ := hf
  exact ⟨rfl, vs, hv, hz.2.2 vs hv⟩
/-! ### [elt for name in range(..)] within an except suite -/
/-- a comprehension's block, the handled error pinned -/
abbrev blkP (X : Cx) (p : Addr × Obj) (s : Shared) (H : Hp) (scope : Scope) (ce : Env) (fp : List Addr) : Cx := { X.blk s H scope ce fp with pn := [p] }
section
open L2H PyProof.Rows
variable {X : Cx} {p : Addr × Obj}
theorem blk_pin {pins : List (Addr × Obj)} {σ : L2.St} {H H0 : Hp} {s s0 : Shared} {scope : Scope} {ce : Env} {fp : List Addr} (I : Inv (X.blk s0 H0 scope ce fp) pins σ H s) (h : s.heap.get? p.1 = some p.2 ∧ H p.1 = none ∧ p.1 ≠ ce.locals ∧ p.1 ∉ frs X.stack ∧ ∀ v, p.2.data ≠ .cell v) : Inv (blkP X p s0 H0 scope ce fp) pins σ H s :=
  ⟨⟨I.ok.mod, I.ok.kind, I.ok.glob, I.ok.blt, I.ok.above, I.ok.inj, I.ok.has, I.ok.cab, I.ok.hd, I.ok.frames, I.ok.stk, I.ok.exf, I.ok.bs, I.ok.bsz, I.ok.noex, I.ok.exfs, I.ok.funs, I.ok.frf⟩, I.os, I.bare, I.base, I.loc, I.cell, I.free, I.freeC, fun q hq => by
    rcases List.mem_append.mp hq with hq | hq
    · rw [List.mem_singleton.mp hq]; exact h
    · exact I.pin q (List.mem_append_right _ hq), I.hok, I.len⟩
theorem pe_lcP {elt tg iter : Expr} {scope : Scope} {own : List (Str × Nat)} {pos : Pos} {wi : TI} {g : TG} {te : TE} (hot : Hot1 X.A p) (hp : p ∈ X.pn) (hN : X.N.Nodup) (hi : PIH X tg iter wi) (ok : BlkOk X.N X.env.scope scope own)
    (hg : ∀ (s : Shared) (H : Hp) (C : Addr) (cl : List (Str × Addr)) (fp : List Addr), PG (blkP X p s H scope (compEnvC scope cl C X.env) fp) tg g)
    (he : ∀ (s : Shared) (H : Hp) (C : Addr) (cl : List (Str × Addr)) (fp : List Addr), PE (blkP X p s H scope (compEnvC scope cl C X.env) fp) elt te) (hs : ∀ x, foldedSetIterable iter X.env x = pure x := by intro _; rfl) :
    PE X (.ListComp elt [⟨tg, iter, [], 0⟩] scope pos) (tLc wi g tYes te (own.map (·.2))) := by
  refine ⟨fun pins s σ H Q I h => ?_⟩
  rw [eval_ListComp]
  refine wpAny_comprehension_free (use := none) rfl hs (closure_ok fun y hy e => ?_) ok.kind (fun y hy e => by rw [ok.uniq y hy, e]) (thn (hi.run pins s σ H _ I h) fun xv s1 hx => thn hx fun itv s2 h2 => ?_)
  · rcases ok.free y hy e with k | k
    · exact I.ok.has _ (.inl k)
    · exact I.ok.has _ (.inr k)
  obtain ⟨it, fp, tn, J, H2, e, I2, T, st2, f2, q⟩ := h2
  subst e
  refine wpAny_newObj_type (newEnv_comp ?_) (by show 0 ≤ sizeLine; decide)
  generalize hD : s2.heap.objs.size = D
  obtain ⟨W, ⟨m0, w0⟩, turn⟩ := q D (I2.hok.fresh (Nat.le_of_eq hD))
  generalize hs3 : ({ s2 with heap := s2.heap.push { cls := .type "list", data := .seq ([] : List Value).toArray } } : Shared) = s3
  have h3 : s3.heap = s2.heap.push { cls := .type "list", data := .seq ([] : List Value).toArray } := by rw [← hs3]
  have I3 : Inv X pins σ (upd H2 D (.lst [])) s3 := by
    rw [← hs3]
    exact I2.laid (t' := s2.toks) (fun b o e => Heap.get?_push_of_some _ e) (Nat.le_of_eq hD) ⟨Nat.zero_le _, [], 0, .nil, by rw [← hD]; exact Heap.get?_push_size _ rfl⟩
  have f3 : ∀ b ∈ fp, FpOk X pins (upd H2 D (.lst [])) b ∧ b < s3.heap.objs.size := fun b hb => by
    obtain ⟨o, e, _⟩ := T.obj _ _ st2 b hb
    have lt := Heap.lt_size e
    exact ⟨⟨by rw [upd_ne (by rw [← hD]; exact Nat.ne_of_lt lt)]; exact (f2 b hb).1, (f2 b hb).2⟩, by rw [h3, Heap.size_push]; exact Nat.lt_succ_of_lt lt⟩
  have P3 := I3.pin p (List.mem_append_left _ hp)
  have I4 := block_start I3 ok hN f3
  have pg := hg s3 (upd H2 D (.lst [])) s3.heap.objs.size (cellsFrom (s3.heap.objs.size + 1) scope.names (cloFrom X.env.cells scope.names [])) fp
  have pe := he s3 (upd H2 D (.lst [])) s3.heap.objs.size (cellsFrom (s3.heap.objs.size + 1) scope.names (cloFrom X.env.cells scope.names [])) fp
  have nfp : ∀ b ∈ fp, (upd H2 D (.lst [])) b = none := fun b hb => (f3 b hb).1.1
  show codeAny _ _ (.compStart (.ListComp elt [⟨tg, iter, [], 0⟩] scope pos) 0 (.ref it) (.ref D) (compEnvC scope (cellsFrom (s3.heap.objs.size + 1) scope.names (cloFrom X.env.cells scope.names [])) s3.heap.objs.size X.env)) (compPost (model X.prog X.w) X.A X.xe none (EP X pins σ Q) (.ref D) s3.heap.objs.size) { s3 with heap := pushCells (s3.heap.push { cls := .type "dict", data := .dict #[] }) scope.names }
  generalize hce : compEnvC scope (cellsFrom (s3.heap.objs.size + 1) scope.names (cloFrom X.env.cells scope.names [])) s3.heap.objs.size X.env = ce at I4 pg pe ⊢
  have cL : ce.locals = s3.heap.objs.size := by subst hce; rfl
  generalize hH3 : upd H2 D (.lst []) = H3 at I3 I4 pg pe w0 nfp f3 P3
  generalize hs4 : ({ s3 with heap := pushCells (s3.heap.push { cls := .type "dict", data := .dict #[] }) scope.names } : Shared) = s4 at I4 ⊢
  have kp4 : ∀ b o, s3.heap.get? b = some o → s4.heap.get? b = some o := fun b o e => by rw [← hs4]; exact pushCells_keeps _ _ _ _ (Heap.get?_push_of_some _ e)
  have st4 : tn 0 s4.heap := T.keep _ _ _ st2 fun b _ o e => kp4 b o (by rw [h3]; exact Heap.get?_push_of_some _ e)
  have I5 : Inv (blkP X p s3 H3 scope ce fp) [] (wipe σ (own.map (·.2))) H3 s4 := blk_pin I4 ⟨kp4 _ _ P3.1, P3.2.1, by rw [cL]; exact Nat.ne_of_lt (Heap.lt_size P3.1), fun hm => (List.mem_cons.mp (I3.stkSub p.1 hm)).elim P3.2.2.1 P3.2.2.2.1, P3.2.2.2.2⟩
  have hotB : HotC (blkP X p s3 H3 scope ce fp) := ⟨p, hot, List.mem_singleton.mpr rfl⟩
  have stat : ∀ {σ' : L2.St} {H' : Hp} {s' : Shared}, Inv (blkP X p s3 H3 scope ce fp) [] σ' H' s' → (∀ b ∈ fp, H' b = none) → ∀ b ∈ fp, FpOk (blkP X p s3 H3 scope ce fp) [] H' b := fun {σ' H' s'} I' hn b hb =>
    ⟨hn b hb, (I'.ok.exf b hb).1, I'.ok.exfs b hb, .inl hb, fun x c e => (I'.ok.exf b hb).2 x c e, fun r hr => by
      have er : r = p := by simpa using (show r ∈ [p] ++ ([] : List (Addr × Obj)) from hr)
      rw [er]
      exact (f3 b hb).1.2.2.2.2.2 p (List.mem_append_left _ hp)⟩
  have loop : codeAny (model X.prog X.w) X.A (.compLoop (.ListComp elt [⟨tg, iter, [], 0⟩] scope pos) 0 (.ref it) (.ref D) ce) (compPost (model X.prog X.w) X.A X.xe none (EP X pins σ Q) (.ref D) s3.heap.objs.size) s4 := by
    refine compLoop_any (fun n s' => ∃ i H', Inv (blkP X p s3 H3 scope ce fp) [] (wipe σ (own.map (·.2))) H' s' ∧ tn i s'.heap ∧ (∀ b ∈ fp, H' b = none) ∧ W i n H') ?_ m0 ⟨0, H3, I5, st4, nfp, w0⟩
    rintro n s5 ⟨i, H5, I5, st5, n5, w5⟩
    rcases turn i n H5 w5 with ⟨stop, qq⟩ | ⟨go, Nx, hNx, step⟩
    · refine thnF (T.done (blkP X p s3 H3 scope ce fp) rfl rfl rfl hotB i [] s5 _ H5 (fun _ _ => False) I5 (stat I5 n5) st5 stop) fun r s6 ⟨hr, I6⟩ => ?_
      subst hr
      have I7 : Inv X pins σ H5 s6 := I3.call' (ch := fp) I6.os I6.base I6.hok I6.bare fun b hb => ⟨(f3 b hb).1.2.2.2.1, (f3 b hb).1.2.1, (f3 b hb).1.2.2.2.2.1, (f3 b hb).1.2.2.2.2.2⟩
      have nC : H5 s3.heap.objs.size = none := cL ▸ (show H5 ce.locals = none from I6.free)
      obtain ⟨m, hn, _⟩ := I6.loc
      have hn : s6.heap.Ns s3.heap.objs.size m := cL ▸ (show s6.heap.Ns ce.locals m from hn)
      obtain ⟨f0, f1, f2', f3', f4, f5⟩ := I3.fpOk (Nat.le_refl _) nC
      exact ⟨m, hn, fun h'' sb => ⟨.ref D, H5, I7.turned (t' := s6.toks) (fun b o hb e => (sb.2 b hb).trans e) f0 f1 f3' f4 f5, rfl, qq⟩⟩
    · refine thnF (T.item (blkP X p s3 H3 scope ce fp) rfl rfl rfl hotB i [] s5 _ H5 (fun _ _ => False) I5 (stat I5 n5) st5 go) fun r s6 ⟨u, hr, h6⟩ => ?_
      subst hr
      refine thnF h6 fun _ s7 ⟨x, H7, I7, r7, y7, st7, n7⟩ => thnF (pg.run _ s7 _ H7 x u _ (I7.pinned (stat I7 n7) (T.obj _ _ st7)) r7 (step x H7 y7)) fun _ s8 ⟨σ8, H8, I8, hw8, q8⟩ => thnF ((pts_nil (X := blkP X p s3 H3 scope ce fp)).run _ s8 σ8 H8 _ I8 q8) fun b s9 ⟨H9, I9, q9⟩ => ?_
      have fin : ∀ {s' : Shared} {H' : Hp}, Inv (blkP X p s3 H3 scope ce fp) ([] ++ pinsAt fp s7.heap) σ8 H' s' → Nx H' → ∃ m, m < n ∧ ∃ i H', Inv (blkP X p s3 H3 scope ce fp) [] (wipe σ (own.map (·.2))) H' s' ∧ tn i s'.heap ∧ (∀ b ∈ fp, H' b = none) ∧ W i m H' := fun {s' H'} I' nx => by
        obtain ⟨m', hm, w'⟩ := hNx H' nx
        have pin' : ∀ b ∈ fp, ∀ o, s7.heap.get? b = some o → s'.heap.get? b = some o ∧ H' b = none := fun b hb o e => ⟨(I'.pin (b, o) (List.mem_append_right _ (List.mem_append_right _ (mem_pinsAt hb e)))).1, (I'.pin (b, o) (List.mem_append_right _ (List.mem_append_right _ (mem_pinsAt hb e)))).2.1⟩
        refine ⟨m', hm, i + 1, H', (I'.unpinned (pins := [])).weak (by rw [← hw8, wipe_length]) (fun j v e => (wipe_some (by rw [← hw8] at e; exact e)).1), T.keep _ _ _ st7 fun b hb o e => (pin' b hb o e).1, fun b hb => ?_, w'⟩
        obtain ⟨o, e, _⟩ := T.obj _ _ st7 b hb
        exact (pin' b hb o e).2
      cases b with
      | false =>
        simp only [Bool.false_eq_true, if_false] at q9 ⊢
        exact fin I9 q9
      | true =>
        simp only [if_true] at q9 ⊢
        exact thnF (pe.run _ s9 σ8 H9 _ I9 q9) fun z s10 ⟨yv, H10, I10, r10, acc, hD10, hz10, nx⟩ => app_ok (X := blkP X p s3 H3 scope ce fp) I10 hD10 hz10 r10 fun s11 I11 => fin I11 nx
  exact codeAny_compStart_list loop (T.self X.A 0 _ _ _ st4 loop)
end

/-! ### the errors -/
abbrev sXI8 : Stmt := inClass (topS 11) 0
abbrev NXI8 : List Str := ["self", "value"]
abbrev PXI8 : List Str := ["self", "value"]
theorem scXI8 : FnScope NXI8 PXI8 (defScope sXI8) := ⟨rfl, rfl, rfl, by decide +kernel, rfl, by decide +kernel, by decide +kernel⟩
theorem ok_XI8 {P : Program} {w : World} {K : PySem.W.Frag} {mg : Str → Option Value} {base : Heap} {f C : Addr} {fd : FuncData} (F : Fun K "__init__" "InvalidCase.__init__" sXI8 f fd) (T : OexG K C) (hn : PySem.W.findIn K (.ref C) "value" = some none) : FnOk P w K mg base CX0 1 f fd PXI8 (spX C "value") := by
  refine F.ok scXI8 (fun vs H Q E h => ?_) fun cdv A outer s H vs Q E hr h => ⟨_, pss_one (ps_ostG (pv 0) (pv 1)), ?_⟩
  · obtain ⟨a, v, rfl, _⟩ := h; rfl
  · obtain ⟨a, v, rfl, ea, q⟩ := h; exact ⟨_, rfl, _, rfl, a, C, rfl, T, hn, ea, q⟩
abbrev sXI9 : Stmt := inClass (topS 12) 0
abbrev NXI9 : List Str := ["self", "name"]
abbrev PXI9 : List Str := ["self", "name"]
theorem scXI9 : FnScope NXI9 PXI9 (defScope sXI9) := ⟨rfl, rfl, rfl, by decide +kernel, rfl, by decide +kernel, by decide +kernel⟩
theorem ok_XI9 {P : Program} {w : World} {K : PySem.W.Frag} {mg : Str → Option Value} {base : Heap} {f C : Addr} {fd : FuncData} (F : Fun K "__init__" "UnknownFunction.__init__" sXI9 f fd) (T : OexG K C) (hn : PySem.W.findIn K (.ref C) "name" = some none) : FnOk P w K mg base CX0 1 f fd PXI9 (spX C "name") := by
  refine F.ok scXI9 (fun vs H Q E h => ?_) fun cdv A outer s H vs Q E hr h => ⟨_, pss_one (ps_ostG (pv 0) (pv 1)), ?_⟩
  · obtain ⟨a, v, rfl, _⟩ := h; rfl
  · obtain ⟨a, v, rfl, ea, q⟩ := h; exact ⟨_, rfl, _, rfl, a, C, rfl, T, hn, ea, q⟩
structure ErrH (P : Program) (w : World) (K : PySem.W.Frag) (mg : Str → Option Value) (base : Heap) (C : Nat → Addr) : Prop where
  h8 : HasX P w K mg base 1 "InvalidCase" (C 8) "value"
  h9 : HasX P w K mg base 1 "UnknownFunction" (C 9) "name"
open PyProof.Rows in
/-- as Fun.ok, for a def that errors leave -/
theorem Fun.okN {P : Program} {w : World} {K : PySem.W.Frag} {mg : Str → Option Value} {base : Heap} {x qual : Str} {st : Stmt} {f : Addr} {fd : FuncData} {N ps : List Str} {k : Nat} {sp : Sp} (F : Fun K x qual st f fd) (S : FnScope N ps (defScope st)) (len : ∀ vs H Q E, sp vs H Q E → vs.length = ps.length)
    (hbody : ∀ (cdv : Value) (A : Around) (outer : List Env) (s : Shared) (H : Hp) (vs : List V) (Q : VK) (E : XK), Room k (A.deeper (envOfC qual (defScope st) s.heap.objs.size f cdv)) → sp vs H Q E →
      ∃ t, PSs (cxOf (L2N.CX P w) P w K mg base N qual (defScope st) f cdv A outer s H E) (defBody st) t ∧ t { nx := fun _ H' => Q .non H', rt := Q } (start N vs) H) : FnOk P w K mg base (L2N.CX P w) (k + 1) f fd ps sp := by
  obtain ⟨oc, od, kV, doc, pm, an, cdv, ct, osl, rfl, lk, hcd⟩ := F.ex
  exact fn_of lk hcd S len fun A outer s H vs Q E hr hsp => hbody cdv A outer s H vs Q E hr hsp
theorem pe_callSH {X : Cx} {CX : CXT} {k : Nat} {x : Str} {ps : List Str} {sp : Sp} {E : L2.St → XK} {e : Expr} {es : List Expr} {t : TA} {p pos : Pos} (F : Has X.prog X.w X.K X.mg X.base CX k x ps sp) (hr : Room k X.A) (hg : Gl X x) (hx : ∀ σ, PassesAt CX X σ (E σ)) (ha : PA X (e :: es) t)
    (hd : (x == ("__debug__" : Str)) = false := by decide) (he : starEach (e :: es) X.env = (false, eval e X.env) :: starEach es X.env := by rfl) (hpl : (backTo pos (starEach es X.env)).any (·.1) = false := by rfl) :
    PE X (.Call (.Name x p) (e :: es) [] pos) (tCallS sp E t) := by
  obtain ⟨f, fd, F, m, kp, b⟩ := F.ex
  exact pe_callS F hr hg m kp b hx ha hd he hpl
/-- raise C(e) in a def that errors leave -/
theorem ps_raiseX {X : Cx} {W : WX} {x : Str} {C : Addr} {f : Str} {k : Nat} {e : Expr} {ta : TA} {p pos pos' : Pos} (hc : X.calm = true) (tk : L2N.Takes X W) (T : HasX X.prog X.w X.K X.mg X.base k x C f) (hr : Room (k + 1) X.A) (hg : Gl X x) (ha : PA X [e] ta)
    (hdb : (x == ("__debug__" : Str)) = false := by decide) (he : starEach [e] X.env = (false, eval e X.env) :: starEach [] X.env := by rfl) : PS X (.Raise (some (.Call (.Name x p) [e] [] pos)) none pos') (fun _ σ H => tMkX C f ta σ H fun cls d H' => W cls d σ H') :=
  L2N.ps_raise hc tk (pmk_x T hr hg ha hdb he)

/-! ### enumerate(t), t a tuple -/
set_option maxHeartbeats 1000000 in
theorem meets_enumT (a : Addr) (xs : Array Value) : Meets (Builtin.«enumerate.__new__» ⟨[.type "enumerate", .ref a], []⟩) (fun _ R s => s.heap.IsTuple a xs ∧
    R (.ok (.ret (.ref (s.heap.objs.size + 1)))) { s with heap := (s.heap.push { cls := .type "tuple_iterator", data := .fields #[.ref a, .int 0 0] }).push { cls := .type "enumerate", data := .fields #[.none, .bool false, .ref s.heap.objs.size, rawInt 0, .none, .none] } }) :=
  .of_wp fun prog w A R s h => by
    obtain ⟨hp, g, d, tk, os⟩ := s
    obtain ⟨h1, h⟩ := h
    have hsub := sub_enumerate
    have e : ∀ o : Obj, (hp.push o).objs.size = hp.objs.size + 1 := fun _ => Heap.size_push ..
    have k1 : ∀ {A' : Around} {E : Value → Shared → Prop} {Q : Value → Shared → Prop}, Q (.ref hp.objs.size) ⟨hp.push { cls := .type "tuple_iterator", data := .fields #[.ref a, .int 0 0] }, g, d, tk, os⟩ → wpAny (model prog w) A' (pyIter (.ref a)) Q E ⟨hp, g, d, tk, os⟩ := fun q => wpAny_pyIter_tuple (s := ⟨hp, g, d, tk, os⟩) h1 q
    wp_walk using k1
    refine wpAny_stack_any fun st => wpAny_pure ?_
    split
    · rename_i c _ _ _ _ _
      cases (c == Value.type "enumerate")
      · wp_walk using k1
        exact ⟨.ref (hp.objs.size + 1), congrArg (fun n => PySem.Fin.done (Flow.ret (Value.ref n))) (e _), h⟩
      · wp_walk using k1
        exact ⟨.ref (hp.objs.size + 1), congrArg (fun n => PySem.Fin.done (Flow.ret (Value.ref n))) (e _), h⟩
    · wp_walk using k1
      exact ⟨.ref (hp.objs.size + 1), congrArg (fun n => PySem.Fin.done (Flow.ret (Value.ref n))) (e _), h⟩
theorem call_enumT {prog : Program} {w : World} {A : Around} {E : Value → Shared → Prop} {s : Shared} {a : Addr} {xs : Array Value} {Q : Value → Shared → Prop} (hL : s.heap.IsTuple a xs)
    (h : ∀ h', IsEnum h' (s.heap.objs.size + 1) s.heap.objs.size 0 .none → h'.IsTupleIter s.heap.objs.size a 0 → (∀ b o, s.heap.get? b = some o → h'.get? b = some o) → Q (.ref (s.heap.objs.size + 1)) { s with heap := h' }) :
    wpAny (model prog w) A (call (.type "enumerate") [.ref a]) Q E s := by
  refine callType_new F.called_enumerate (by decide) (F.typeCall_enumerate_1 _) (F.newCall_enumerate_1 _) (fun obj => F.args_object_init_2 obj _) F.entry_enumerate_new (meets_enumT a xs) ⟨hL, ?_⟩
  have z : (s.heap.push { cls := .type "tuple_iterator", data := .fields #[.ref a, .int 0 0] }).objs.size = s.heap.objs.size + 1 := Heap.size_push ..
  have he : IsEnum ((s.heap.push { cls := .type "tuple_iterator", data := .fields #[.ref a, .int 0 0] }).push { cls := .type "enumerate", data := .fields #[.none, .bool false, .ref s.heap.objs.size, rawInt 0, .none, .none] }) (s.heap.objs.size + 1) s.heap.objs.size 0 .none := by
    rw [← z]
    exact Heap.get?_push_size _ rfl
  exact ⟨⟨_, he, rfl⟩, h _ he ⟨_, Heap.get?_push_of_some _ (Heap.get?_push_size _ rfl), rfl, rfl⟩ fun b o q => Heap.get?_push_of_some _ (Heap.get?_push_of_some _ q)⟩
def IteT (K : PySem.W.Frag) (a : Addr) : It :=
  ⟨fun i H => ∃ (xs : List V) (x : V), SqT K H a xs ∧ xs[i]? = some x, fun i H v H' => ∃ T x, v = .ref T ∧ H T = none ∧ H' = upd H T (.tup [.int (i : Nat), x]) ∧ ∀ xs, SqT K H a xs → xs[i]? = some x, fun i H => ∃ xs : List V, SqT K H a xs ∧ xs.length = i⟩
theorem turn_enumT {P : Program} {w : World} {K : PySem.W.Frag} {elts : List Expr} {kk : Nat} {tpos : Pos} (a e it : Addr) :
    Turn P w K (.Tuple elts kk tpos) (IteT K a) [e, it] e (fun i h => (∃ old, IsEnum h e it ((i : Nat) : Int) old) ∧ h.IsTupleIter it a i ∧ e ≠ it ∧ a ≠ it ∧ a ≠ e) where
  mem := by simp
  obj := fun i h st b hb => by
    obtain ⟨⟨old, he⟩, ⟨o, ho, hc, hd⟩, _⟩ := st
    simp only [List.mem_cons, List.not_mem_nil, or_false] at hb
    rcases hb with rfl | rfl
    · exact ⟨_, he, fun v q => nomatch q⟩
    · exact ⟨o, ho, fun v q => by rw [hd] at q; cases q⟩
  keep := fun i h h' st k => let ⟨⟨old, he⟩, hi, hne⟩ := st; ⟨⟨old, k e (by simp) _ he⟩, hi.at fun o q => k it (by simp) o q, hne⟩
  item := by
    intro X hP hw hK hc i pins s σ H E I hf st hg
    subst hP hw hK
    obtain ⟨⟨old, he⟩, hit, hne, hai, hae⟩ := st
    obtain ⟨xs, x, hq, hx⟩ := hg
    obtain ⟨its, rv, p, hz⟩ := I.tuple hq
    obtain ⟨u, hu, ru⟩ := rv.get hx
    have hel : e < s.heap.objs.size := Heap.lt_size he
    have hil : it < s.heap.objs.size := by obtain ⟨_, q, _⟩ := hit; exact Heap.lt_size q
    have hlt : i < its.toArray.size := by
      have q := (List.getElem?_eq_some_iff.mp hu).1
      simpa using q
    refine wpAny_pyNext_enum_itemC (Draws.tuple (prog := X.prog) (w := X.w) (A := X.A.in1) (I.ok.hd hc) it a hai its.toArray) he ⟨hit, p⟩ hlt hne ?_ fun x' h' tk hP ho hst hT hsz hk => ?_
    · intro hm
      simp only [List.mem_cons, List.not_mem_nil, or_false] at hm
      rcases hm with q | q
      · exact hne q
      · exact hae q.symm
    obtain rfl : x' = u := by
      rw [List.getElem?_toArray, hu] at hP
      exact (Option.some.inj hP).symm
    refine ⟨_, rfl, wpAny_letOwnedTupleGo_enum (s := { s with heap := h', toks := tk + 1 }) ho fun h2 he2 sb => ?_⟩
    have hT2 : h2.get? s.heap.objs.size = some { cls := .type "tuple", data := .seq #[.int i tk, x'] } := (sb.2 _ (Nat.ne_of_gt hel)).trans hT
    have new : ObjOk X.prog X.w (upd H s.heap.objs.size (.tup [.int (i : Nat), x])) h2 s.heap.objs.size (.tup [.int (i : Nat), x]) := ⟨by show 2 ≤ sizeLine; decide, [.int i tk, x'], .cons ⟨_, rfl⟩ (.cons ru .nil), ⟨_, hT2, rfl, _, rfl⟩⟩
    have all : ∀ b ob, b ∉ [e, it] → s.heap.get? b = some ob → h2.get? b = some ob := fun b ob hb q => by
      simp only [List.mem_cons, List.not_mem_nil, or_false, not_or] at hb
      exact (sb.2 b hb.1).trans (hk b ob hb.1 hb.2 q)
    have I1 : Inv X pins σ (upd H s.heap.objs.size (.tup [.int (i : Nat), x])) { s with heap := h2, toks := tk + 1 } := I.turnedNew (ch := [e, it]) all hf (Nat.le_refl _) new
    refine ⟨.ref s.heap.objs.size, _, I1, rfl, ⟨_, x, rfl, I.hok.fresh (Nat.le_refl _), rfl, fun ys hy => by rw [I.tuple_inj hy hq]; exact hx⟩, ⟨⟨x', ?_⟩, hst.1.at fun o q => (sb.2 it (Ne.symm hne)).trans q, hne, hai, hae⟩, fun b hb => ?_⟩
    · rw [show ((i + 1 : Nat) : Int) = (i : Int) + 1 by omega]
      exact he2
    · have hb' : b < s.heap.objs.size := by
        simp only [List.mem_cons, List.not_mem_nil, or_false] at hb
        rcases hb with rfl | rfl
        · exact hel
        · exact hil
      rw [upd_ne (Nat.ne_of_lt hb')]
      exact (hf b hb).1
  done := by
    intro X hP hw hK hc i pins s σ H E I hf st hg
    subst hP hw hK
    obtain ⟨⟨old, he⟩, hit, hne, hai, hae⟩ := st
    obtain ⟨xs, hq, hx⟩ := hg
    obtain ⟨its, rv, p, hz⟩ := I.tuple hq
    obtain ⟨f0, f1, f2, f3, f4, f5⟩ := hf it (by simp)
    have hl := rv.length
    have hT : s.TypeIs (.ref e) "enumerate" := ⟨_, he, rfl⟩
    unfold pyNext
    refine wpAny_bind (wpAny_attempt (wpAny_callSpecial?_slot (name := Str.ofString "__next__") hT F.slot_enumerate_next (wpAny_call_entry F.slot_enumerate_next hT F.entry_enumerate_next ?_ (F.args_enumerate_next_1 _))))
    show wpAny _ _ (field (.ref e) 2 >>= _) _ _ _
    refine wpAny_bind (wpAny_field he rfl (x := .ref it) rfl ?_)
    refine wpAny_bind (RZ.nextOf_tuple_end (I.ok.hd hc) hit p (by simp; omega) fun h' x eb ⟨o, ho, hcl⟩ => ?_)
    refine wpAny_bind (wpAny_isInstance (T := "StopIteration") (b := true) ⟨o, ho, hcl⟩ isSubtype_stop ?_)
    exact wpAny_pure ⟨rfl, I.turned (t' := s.toks) (fun b o hb q => eb b o hb q) f0 f1 f3 f4 f5⟩
  self := fun A i s Q E st h => let ⟨⟨_, he⟩, _⟩ := st; wpAny_pyIter_enum he h
def iEnumT (K : PySem.W.Frag) (ta : TA) : TI := fun σ H R => ta σ H fun vs H1 => ∃ a xs, vs = [.ref a] ∧ SqT K H1 a xs ∧ R (IteT K a) H1
theorem pi_enumT {X : Cx} {e : Expr} {ta : TA} {p pos tpos : Pos} {elts : List Expr} {kk : Nat} (hg : Gl X "enumerate") (hm : X.mg "enumerate" = none) (ha : PA X [e] ta) (hs : starEach [e] X.env = [(false, eval e X.env)] := by rfl) :
    PI X (.Tuple elts kk tpos) (.Call (.Name "enumerate" p) [e] [] pos) (iEnumT X.K ta) := by
  refine ⟨fun pins s σ H R I h => ?_⟩
  refine wpAny_Call_Name_kw (ld_blt I hg hm PyProof.Rows.boot_enumerate (PyProof.Rows.callWith_type1 (thn (ha.run pos pins s σ H _ I h) fun us s1 ⟨vs, H1, I1, r1, q1⟩ => ?_) hs rfl))
  obtain ⟨a, xs, rfl, hq, q⟩ := q1
  obtain ⟨u, rfl, ru⟩ := vals1 r1
  obtain rfl : u = Value.ref a := ru
  obtain ⟨its, rv, p', hz⟩ := I1.tuple hq
  have lt : a < s1.heap.objs.size := by obtain ⟨o, ho, _⟩ := id p'; exact Heap.lt_size ho
  refine call_enumT (xs := its.toArray) p' fun h' he hit hk => wpAny_pyIter_enum he ?_
  have I2 : Inv X pins σ H1 { s1 with heap := h' } := I1.kept (t' := s1.toks) hk
  refine ⟨s1.heap.objs.size + 1, [s1.heap.objs.size + 1, s1.heap.objs.size], _, _, H1, rfl, I2, turn_enumT a (s1.heap.objs.size + 1) s1.heap.objs.size, ⟨⟨.none, he⟩, hit, Nat.succ_ne_self _, Nat.ne_of_lt lt, Nat.ne_of_lt (Nat.lt_succ_of_lt lt)⟩, fun b hb => ?_, q⟩
  have hle : s1.heap.objs.size ≤ b := by
    simp only [List.mem_cons, List.not_mem_nil, or_false] at hb
    rcases hb with rfl | rfl
    · exact Nat.le_add_right _ _
    · exact Nat.le_refl _
  exact I1.fpOk hle (I1.hok.fresh hle)
theorem walk_enumT {K : PySem.W.Frag} {a : Addr} {xs : List V} : Walk (IteT K a) xs.length (fun H => SqT K H a xs) (fun i H v H' => ∃ T x, v = .ref T ∧ H T = none ∧ H' = upd H T (.tup [.int (i : Nat), x]) ∧ xs[i]? = some x) := by
  refine ⟨fun i _ hi q => ⟨xs, xs[i], q, by simp [hi]⟩, fun _ q => ⟨xs, q, rfl⟩, fun i H v H' _ q y => ?_⟩
  obtain ⟨T, x, h1, h2, h3, h4⟩ := y
  exact ⟨T, x, h1, h2, h3, h4 xs q⟩

/-! ### methods of Program: __getitem__, tree, variables, replaced -/
structure HasS (P : Program) (w : World) (K : PySem.W.Frag) (mg : Str → Option Value) (base : Heap) (CX : CXT) (k : Nat) (C : Addr) (ps : List Str) (sp : Sp) : Prop where
  ex : ∃ (f : Addr) (fd : FuncData), Meth K C "__getitem__" f ∧ PySem.W.fnIn K f = true ∧ FnOk P w K mg base CX k f fd ps sp ∧ Binds K fd ps []
theorem fnIn_of {K : PySem.W.Frag} {x qual : Str} {st : Stmt} {f : Addr} {fd : FuncData} (F : Fun K x qual st f fd) : PySem.W.fnIn K f = true := by
  obtain ⟨_, _, _, _, _, _, _, _, _, _, lk, _⟩ := F.ex
  unfold PySem.W.fnIn
  rw [lk]
section
variable {X : Cx}
theorem run_ownE {CX : CXT} {k : Nat} {f : Addr} {fd : FuncData} {ps : List Str} {sp : Sp} {pins : List (Addr × Obj)} {σ : L2.St} {H : Hp} {s : Shared} {Q : VK} {E : XK} {us : List Value} {vs : List V} {A' : Around} (F : FnOk X.prog X.w X.K X.mg X.base CX k f fd ps sp) (hr : Room k A') (hf : A'.frames = X.A.frames)
    (hb : Binds X.K fd ps []) (hx : PassesAt CX X σ E) (I : Inv X pins σ H s) (r : Vals vs us) (h : sp vs H Q E) : wpAny (model X.prog X.w) A' (call (.ref f) us) (EP X pins σ Q) X.xe s := by
  have hl : us.length = ps.length := by rw [← r.length]; exact F.len _ _ _ _ h
  have e0 := I.env0
  have hb' := hb s us I.kIn (by rw [List.append_nil]; exact hl)
  rw [List.append_nil] at hb'
  refine wpAny_call (codeAny_mono (F.run A' X.stack s H ⟨us, []⟩ us vs Q E hr ⟨hf.trans e0.frames, e0.mod, e0.bs, e0.bsz, e0.funs, e0.frf, e0.hok, e0.bare⟩ hb' r h) fun r s' hq => ?_)
  cases r with
  | error e => exact hx pins H s e s' I hq
  | ok fl =>
    cases fl with
    | ret u => exact I.after hq
    | next => exact False.elim hq
    | brk => exact False.elim hq
    | cont => exact False.elim hq
/-- o[e], o of a class with its own __getitem__ -/
def tSubO (C : Addr) (sp : Sp) (E : L2.St → XK) (to ti : TE) : TE := fun σ H Q => to σ H fun x H1 => ti σ H1 fun y H2 => ∃ a dx fs, x = .ref a ∧ H2 a = some (.ins C dx fs) ∧ sp [.ref a, y] H2 Q (E σ)
theorem pe_subO {CX : CXT} {k : Nat} {C : Addr} {ps : List Str} {sp : Sp} {E : L2.St → XK} {o i : Expr} {to ti : TE} {pos : Pos} (ho : PE X o to) (hi : PE X i ti) (G : HasS X.prog X.w X.K X.mg X.base CX k C ps sp) (hr : Room (k + 1) X.A) (hx : ∀ σ, PassesAt CX X σ (E σ))
    (hsl : ∀ v u, subscripted i true v u = runValue (.builtin "lifetime.subscript" ⟨[v, u], []⟩) := by intros; with_unfolding_all rfl) : PE X (.Subscript o i pos) (tSubO C sp E to ti) := by
  refine ⟨fun pins s σ H Q I h => ?_⟩
  refine PyProof.Rows.Subscript_ (thn (ho.run pins s σ H _ I h) fun v s1 ⟨x, H1, I1, rx, q1⟩ => thn (hi.run pins s1 σ H1 _ I1 q1) fun u s2 ⟨y, H2, I2, ry, a, dx, fs, ex, ha, hq⟩ => ?_)
  subst ex
  obtain rfl : v = Value.ref a := rx
  obtain ⟨f, fd, hm, hfn, F, hb⟩ := G.ex
  obtain ⟨mA, J, _⟩ := ins_get I2.hok ha
  obtain ⟨od, J, _⟩ := J.look
  obtain ⟨m, hF⟩ := I2.fr
  exact PySem.W.sub_K hF I2.ok.mod.kin J hm.at_ hfn hm.fn (run_ownE (A' := X.A.in1) (vs := [.ref a, y]) F hr.in1 rfl hb (hx σ) I2 (.cons rfl (.cons ry .nil)) hq) (hsl _ _)
theorem pass0S {σ : L2.St} {E : XK} : PassesAt CX0 X σ E := fun _ _ _ _ _ _ h => h.elim
end
abbrev sPGet : Stmt := inClass (topS 63) 6
abbrev NPGet : List Str := ["self", "name", "function"]
abbrev PPGet : List Str := ["self", "name"]
theorem scPGet : FnScope NPGet PPGet (defScope sPGet) := ⟨rfl, rfl, rfl, by decide +kernel, rfl, by decide +kernel, by decide +kernel⟩
abbrev sPTre : Stmt := inClass (topS 63) 5
abbrev NPTre : List Str := ["self"]
abbrev PPTre : List Str := ["self"]
theorem scPTre : FnScope NPTre PPTre (defScope sPTre) := ⟨rfl, rfl, rfl, by decide +kernel, rfl, by decide +kernel, by decide +kernel⟩
abbrev sPVar : Stmt := inClass (topS 63) 12
abbrev NPVar : List Str := ["self", "name", "params", "inner"]
abbrev PPVar : List Str := ["self", "name"]
theorem scPVar : FnScope NPVar PPVar (defScope sPVar) := ⟨rfl, rfl, rfl, by decide +kernel, rfl, by decide +kernel, by decide +kernel⟩
def spGetV (K : PySem.W.Frag) (C : Addr) : Sp := fun vs H Q _ => ∃ (a : Addr) (t : Tr) (f : Fn), vs = [.ref a, .str f.name] ∧ PrgAt K C H a t ∧ (t.fns.map Fn.name).Nodup ∧ f ∈ t.fns ∧ ∀ v, Dp K H v (fnD f) → Q v H
def spGetX (K : PySem.W.Frag) (C CU : Addr) : Sp := fun vs H _ E => ∃ (a : Addr) (t : Tr) (v : V) (d : PyData), vs = [.ref a, v] ∧ PrgAt K C H a t ∧ Dp K H v d ∧ SeqAt.shaped d = true ∧ (∀ f ∈ t.fns, isName f.name = true ∧ PyData.eqv (.str f.name) d = false) ∧ ∀ d', H d' = none → E (.ref CU) (some d') (upd H d' (.xd [("name", v)]))
def spTre (K : PySem.W.Frag) (C : Addr) : Sp := fun vs H Q _ => ∃ (a : Addr) (t : Tr), vs = [.ref a] ∧ PrgAt K C H a t ∧ ∀ v, Dp K H v (trD t) → Q v H
def spVar (K : PySem.W.Frag) (C : Addr) (n : Nat) : Sp := fun vs H Q _ => ∃ (a : Addr) (t : Tr) (f : Fn), vs = [.ref a, .str f.name] ∧ PrgAt K C H a t ∧ TreeOk n t ∧ (t.fns.map Fn.name).Nodup ∧ f ∈ t.fns ∧ ∀ (q : Addr) (H' : Hp), Same H H' → H q = none → H' q = some (.lst ((vnT t f).map V.str)) → Q (.ref q) H'
theorem shaped_str {z : Str} (h : PyData.strOk z = true) : SeqAt.shaped (.str z) = true := by
  unfold SeqAt.shaped
  simp only [PyData.canLay0, h, PyData.depth, Bool.true_and]
  rfl
section
variable {P : Program} {w : World} {K : PySem.W.Frag} {mg : Str → Option Value} {base : Heap} {C CU : Addr}
theorem ok_PTre {f : Addr} {fd : FuncData} (F : Fun K "tree" "Program.tree" sPTre f fd) (TC : TxPrg K C) : FnOk P w K mg base CX0 1 f fd PPTre (spTre K C) := by
  refine F.ok scPTre (fun vs H Q E h => ?_) (fun cdv A outer s H vs Q E hr h => ?_)
  · obtain ⟨a, t, rfl, _⟩ := h
    rfl
  · obtain ⟨a, t, rfl, ⟨dx, v, g, e1, e2, e3⟩, k⟩ := h
    refine ⟨_, (pss_one (ps_ret (pe_fld (pv 0) rfl))), ?_⟩
    exact ⟨_, rfl, a, C, dx, _, _, rfl, e1, TC.cl, TC.nC, rfl, k v e2⟩
theorem ok_PGet {f : Addr} {fd : FuncData} (F : Fun K "__getitem__" "Program.__getitem__" sPGet f fd) (TC : TxPrg K C) : FnOk P w K mg base CX0 1 f fd PPGet (spGetV K C) := by
  refine F.ok scPGet (fun vs H Q E h => ?_) (fun cdv A outer s H vs Q E hr h => ?_)
  · obtain ⟨a, t, f, rfl, _⟩ := h
    rfl
  · obtain ⟨a, t, g, rfl, ⟨dx, v, gl, e1, e2, e3⟩, nd, mg, k⟩ := h
    refine ⟨_, (pss_cons (ps_for PassesOwn.never rfl (pi_tup (pe_ix (r := rIxT K) ix_tup (pe_fld (pv 0) rfl) pe_int (fun _ _ => rfl))) (pg_name (i := 2) scPGet.nd rfl (Or.inl rfl))
  (pss_one (ps_if (pt_cmpR op_eq (pe_ix (r := rIxT K) ix_tup (pv 2) pe_int (fun _ _ => rfl)) (pv 1) (nomark _))
  (pss_one (ps_ret (pv 2)))
  pss_nil)))
  (pss_one ps_never)), ?_⟩
    have e2' : Dp K H v (.tuple [nmD t.names, nmD t.kinds, .tuple (t.keeps.map exD), .tuple (t.fns.map fnD)]) := e2
    obtain ⟨ca, xs, rfl, hq, hd⟩ := e2'.tupInv
    obtain ⟨x0, x1, x2, x3, rfl, _, _, _, h3⟩ := hd.four
    obtain ⟨c, zs, rfl, hc, hcd⟩ := h3.tupInv
    have pf := DpAll.map hcd
    refine ⟨_, rfl, a, C, dx, _, _, rfl, e1, TC.cl, TC.nC, rfl, ca, _, _, _, rfl, rfl, hq, rfl, c, rfl, ⟨_, hc⟩, ?_⟩
    refine for_tup (K := K) (a := c) (xs := zs) (fun j σ H' => H' = H ∧ (∃ x2 : Option V, σ = [some (.ref a), some (.str g.name), x2]) ∧ ∃ i0, j ≤ i0 ∧ t.fns[i0]? = some g) ⟨rfl, ⟨_, rfl⟩, ?_⟩ (fun j σ H' _ h' => by rw [h'.1]; exact hc) ?_ ?_
    · obtain ⟨i0, hi⟩ := List.mem_iff_getElem?.mp mg
      exact ⟨i0, Nat.zero_le _, hi⟩
    · rintro j x σ H1 hx ⟨rfl, ⟨x2, rfl⟩, i0, hj, hi0⟩
      obtain ⟨fn, hfn, hfd⟩ := Paired.at pf hx
      have hfd' : Dp K H1 x (.tuple [.str fn.name, .tuple (fn.ps.map prD), blD fn.b]) := hfd
      obtain ⟨d, ds, rfl, hd1, hdd⟩ := hfd'.tupInv
      obtain ⟨u1, u2, u3, rfl, g1, _, _⟩ := hdd.three
      rw [g1.strInv] at hd1
      refine ⟨_, rfl, d, _, _, _, rfl, rfl, hd1, rfl, _, rfl, rfl, _, rfl, ?_⟩
      by_cases e : fn.name = g.name
      · have eg : fn = g := inj_of_nodup nd (List.mem_of_getElem? hfn) mg e
        refine iteS (decide_eq_true (by rw [e])) ?_
        exact ⟨_, rfl, k _ (eg ▸ hfd)⟩
      · refine iteE (decide_eq_false fun z => e (V.str.inj z)) ?_
        refine ⟨rfl, ⟨_, rfl⟩, i0, ?_, hi0⟩
        rcases Nat.lt_or_ge j i0 with h | h
        · exact h
        · have : j = i0 := by omega
          subst this
          rw [hi0] at hfn
          cases hfn
          exact absurd rfl e
    · rintro σ H1 ⟨rfl, ⟨x2, rfl⟩, i0, hj, hi0⟩
      rw [Paired.length pf] at hj
      have := (List.getElem?_eq_some_iff.mp hi0).1
      omega
theorem ok_PVar {n : Nat} {f : Addr} {fd : FuncData} (F : Fun K "variables" "Program.variables" sPVar f fd) (TC : TxPrg K C) (GO : Has P w K mg base CX0 (4 + n + 1 + 1) "own_names" POwn (spOwn K n)) (GG : HasS P w K mg base CX0 1 C PPGet (spGetV K C)) : FnOk P w K mg base CX0 (4 + n + 1 + 1 + 1) f fd PPVar (spVar K C n) := by
  refine F.ok scPVar (fun vs H Q E h => ?_) (fun cdv A outer s H vs Q E hr h => ?_)
  · obtain ⟨a, t, g, rfl, _⟩ := h
    rfl
  · obtain ⟨a, t, g, rfl, pr, tok, nd, mg, k⟩ := h
    obtain ⟨dx, v, gl, e1, e2, e3⟩ := id pr
    have hr2 := hr.mono (j := 2) (by omega)
    refine ⟨_, (pss_cons (ps_asg (pe_callH GO hr rfl pass0 (pa_cons (pe_fld (pv 0) rfl) (pa_cons (pe_subO (E := fun _ => E0) (pv 0) (pv 1) GG hr2 (fun _ => pass0S)) pa_nil))) (pg_tup (by rfl) (pgs_cons (pg_name (i := 2) scPVar.nd rfl (Or.inl rfl)) (pgs_cons (pg_name (i := 3) scPVar.nd rfl (Or.inl rfl)) pgs_nil))))
  (pss_one (ps_ret (pe_lst (StX.pa_star (pe_fld (pv 0) rfl) (StX.pa_star (pv 2) (StX.pa_star (pv 3) pa_nil))))))), ?_⟩
    have sz1 := tok.sm.sz1 mg
    have ps1 := tok.sm.ps g mg
    refine ⟨_, rfl, a, C, dx, _, _, rfl, e1, TC.cl, TC.nC, rfl, _, rfl, _, rfl, a, dx, _, rfl, e1, a, t, g, rfl, pr, nd, mg, fun vf dvf => ?_⟩
    refine ⟨v, vf, t, g, rfl, e2, tok.ok.1.1, dvf, tok.ok.2.2.2.2 g mg, by omega, by omega, fun r p1 p2 H1 s1 n0 n1 n2 ne er ep ei => ?_⟩
    refine ⟨r, _, rfl, SqT.of er, rfl, _, _, rfl, _, _, rfl, rfl, ?_⟩
    obtain ⟨ga, gs, rfl, hg, hgd⟩ := e3.tupInv
    have egs : gs = t.names.map V.str := dp_strs hgd
    subst egs
    refine ⟨_, rfl, a, C, dx, _, _, rfl, s1 _ _ e1, TC.cl, TC.nG, rfl, ga, _, rfl, .inl (SqT.same s1 hg), _, rfl, p1, _, rfl, .inr (SqL.of ep), _, rfl, p2, _, rfl, .inr (SqL.of ei), ?_⟩
    have el : t.names.map V.str ++ ((prs g).map V.str ++ ((innerF t.names (prs g) g.b).map V.str ++ [])) = (vnT t g).map V.str := by
      unfold vnT
      rw [List.append_nil, List.map_append, List.map_append]
    have lpr : (prs g).length ≤ 3 := by unfold prs; rw [List.length_map]; exact ps1
    have in1 := tok.sm.inn g mg
    have lN := tok.sm.names
    refine ⟨Nat.le_of_lt (small1000 (by rw [el, List.length_map]; unfold vnT; rw [List.length_append, List.length_append]; omega)), fun q hq => ?_⟩
    exact k q _ (s1.trans (same_new hq)) (none_same s1 hq) (by rw [upd_same, el])
end

/-! ### promises joined; values of no such kind -/
theorem FnOk.lift {P : Program} {w : World} {K : PySem.W.Frag} {mg : Str → Option Value} {base : Heap} {CX : CXT} {k : Nat} {f : Addr} {fd : FuncData} {ps : List Str} {sp : Sp} (F : FnOk P w K mg base CX0 k f fd ps sp) : FnOk P w K mg base CX k f fd ps sp :=
  ⟨F.len, fun A outer s H args us vs Q E hr e0 hb r h => codeAny_mono (F.run A outer s H args us vs Q E hr e0 hb r h) fun r s' hq => by
    cases r with
    | error e => exact hq.elim
    | ok fl => cases fl <;> exact hq⟩
theorem FnOk.both {P : Program} {w : World} {K : PySem.W.Frag} {mg : Str → Option Value} {base : Heap} {CX : CXT} {k : Nat} {f : Addr} {fd : FuncData} {ps : List Str} {sp sp' : Sp} (F : FnOk P w K mg base CX k f fd ps sp) (G : FnOk P w K mg base CX k f fd ps sp') : FnOk P w K mg base CX k f fd ps (fun vs H Q E => sp vs H Q E ∨ sp' vs H Q E) :=
  ⟨fun vs H Q E h => h.elim (F.len vs H Q E) (G.len vs H Q E), fun A outer s H args us vs Q E hr e0 hb r h => h.elim (F.run A outer s H args us vs Q E hr e0 hb r) (G.run A outer s H args us vs Q E hr e0 hb r)⟩
def spGetB (K : PySem.W.Frag) (C CU : Addr) : Sp := fun vs H Q E => spGetV K C vs H Q E ∨ spGetX K C CU vs H Q E
def NoTy (K : PySem.W.Frag) (H : Hp) (v : V) (T : String) : Prop := ∀ H', Same H H' → ∃ ty, TyX K H' v ty ∧ PySem.W.kitOne K ty (.type T) = some false
def BadX (K : PySem.W.Frag) (H : Hp) (l : List Str) (x : V) : Prop := NoTy K H x "str" ∨ ∃ s, x = .str s ∧ s ∉ l

/-! ### e.f in a suite that takes several classes -/
def tXfG (K : PySem.W.Frag) (a : Addr) (cls : Value) (d : Option Addr) (f : Str) (te : TE) : TE := fun σ H Q => te σ H fun x H1 => x = .ref a ∧ ∃ (C dd : Addr) (fs : List (Str × V)) (v : V), cls = .ref C ∧ XfC K C ∧ PySem.W.findIn K (.ref C) f = some none ∧ d = some dd ∧ H1 dd = some (.xd fs) ∧ fs.lookup f = some v ∧ Q v H1
theorem pe_xfG {X : Cx} {a : Addr} {oe : Obj} {cls : Value} {d : Option Addr} {pn : List (Addr × Obj)} {e : Expr} {te : TE} {pos : Pos} {n : Str} (hz : L2N.Zn cls d oe) (hf : ∃ vs, oe.data = .fields vs) (he : PE (X.suite a ((a, oe) :: pn)) e te)
    (hb : attributeBase e n X.env (eval e X.env) = eval e X.env := by rfl) : PE (X.suite a ((a, oe) :: pn)) (.Attribute e n pos) (tXfG X.K a cls d n te) := by
  refine ⟨fun pins s σ H Q I h => attr_of hb (thn (he.run pins s σ H _ I h) fun u s1 ⟨x, H1, I1, rx, ex, C, dd, fs, v, ec, T, hno, ed, ea, l, q⟩ => ?_)⟩
  subst ex ec ed
  obtain rfl : u = Value.ref a := rx
  obtain ⟨vs, hd⟩ := hf
  obtain ⟨mA, hns, hr⟩ := (show ObjOk X.prog X.w H1 s1.heap dd (.xd fs) from I1.hok dd _ ea)
  obtain ⟨od, ho, hl⟩ := lookIn_ns hns
  obtain ⟨u, hu, ru⟩ := RelO.some_of (v := v) (o := mA n) (by rw [← l]; exact hr n)
  exact HandSPX.exc_get I1.kIn ⟨(I1.pin (a, oe) (List.mem_append_left _ List.mem_cons_self)).1, hz.1, by unfold PySem.W.notCls; rw [hd] <;> rfl, by rw [hz.2.1]; exact ho⟩ T.ga T.gg T.exC (PySem.W.findObj_own T.hdC hno rfl (by rw [hl, hu])) (handed_of ru) ⟨v, H1, I1.tok _, ru, q⟩
theorem HasX.mg {P : Program} {w : World} {K : PySem.W.Frag} {mg : Str → Option Value} {base : Heap} {k : Nat} {x : Str} {C : Addr} {f : Str} (h : HasX P w K mg base k x C f) : mg x = some (.ref C) := by
  obtain ⟨_, _, _, _, _, _, _, m, _⟩ := h.ex
  exact m

theorem exm_one {K : PySem.W.Frag} {cls c : Value} {b : Bool} (h : PySem.W.exmOne K cls c = some b) : PySem.W.exmAny K cls [c] = some b := by
  unfold PySem.W.exmAny
  rw [h]
  cases b <;> rfl

/-! ### _law_same over data -/
mutual
/-- data whose lists are the law's own -/
inductive Dq (K : PySem.W.Frag) (H : Hp) : V → PyData → Prop
  | non : Dq K H .non .none
  | bl (b : Bool) : Dq K H (.bl b) (.bool b)
  | int (i : Int) : Dq K H (.int i) (.int i)
  | str (x : Str) : Dq K H (.str x) (.str x)
  | lst {a : Addr} {xs : List V} {ds : List PyData} (h : H a = some (.lst xs)) (t : DqAll K H xs ds) : Dq K H (.ref a) (.list ds)
  | tup {a : Addr} {xs : List V} {ds : List PyData} (h : SqT K H a xs) (t : DqAll K H xs ds) : Dq K H (.ref a) (.tuple ds)
inductive DqAll (K : PySem.W.Frag) (H : Hp) : List V → List PyData → Prop
  | nil : DqAll K H [] []
  | cons {v : V} {d : PyData} {vs : List V} {ds : List PyData} (a : Dq K H v d) (b : DqAll K H vs ds) : DqAll K H (v :: vs) (d :: ds)
end
mutual
theorem Dq.same {K : PySem.W.Frag} {H H' : Hp} (e : Same H H') {v : V} {d : PyData} (h : Dq K H v d) : Dq K H' v d :=
  match h with
  | .non => .non
  | .bl b => .bl b
  | .int i => .int i
  | .str x => .str x
  | .lst a b => .lst (e _ _ a) (DqAll.same e b)
  | .tup a b => .tup (SqT.same e a) (DqAll.same e b)
theorem DqAll.same {K : PySem.W.Frag} {H H' : Hp} (e : Same H H') {vs : List V} {ds : List PyData} (h : DqAll K H vs ds) : DqAll K H' vs ds :=
  match h with
  | .nil => .nil
  | .cons a b => .cons (Dq.same e a) (DqAll.same e b)
end
mutual
theorem Dq.dp {K : PySem.W.Frag} {H : Hp} {v : V} {d : PyData} (h : Dq K H v d) : Dp K H v d :=
  match h with
  | .non => .non
  | .bl b => .bl b
  | .int i => .int i
  | .str x => .str x
  | .lst a b => .lst (SqL.of a) (DqAll.dp b)
  | .tup a b => .tup a (DqAll.dp b)
theorem DqAll.dp {K : PySem.W.Frag} {H : Hp} {vs : List V} {ds : List PyData} (h : DqAll K H vs ds) : DpAll K H vs ds :=
  match h with
  | .nil => .nil
  | .cons a b => .cons (Dq.dp a) (DqAll.dp b)
end
mutual
theorem dq_of {K : PySem.W.Frag} {H : Hp} {v : V} {d : PyData} (h : Dp K H v d) (n : noL d = true) : Dq K H v d :=
  match h with
  | .non => .non
  | .bl b => .bl b
  | .int i => .int i
  | .str x => .str x
  | .lst _ _ => by simp [noL] at n
  | .tup a b => .tup a (dqAll_of b (by simpa [noL] using n))
theorem dqAll_of {K : PySem.W.Frag} {H : Hp} {vs : List V} {ds : List PyData} (h : DpAll K H vs ds) (n : noLs ds = true) : DqAll K H vs ds :=
  match h with
  | .nil => .nil
  | .cons a b => by
    simp only [noLs, Bool.and_eq_true] at n
    exact .cons (dq_of a n.1) (dqAll_of b n.2)
end
theorem DqAll.len {K : PySem.W.Frag} {H : Hp} : ∀ {vs : List V} {ds : List PyData}, DqAll K H vs ds → vs.length = ds.length
  | _, _, .nil => rfl
  | _, _, .cons _ b => by rw [List.length_cons, List.length_cons, DqAll.len b]
theorem DqAll.at {K : PySem.W.Frag} {H : Hp} : ∀ {vs : List V} {ds : List PyData}, DqAll K H vs ds → ∀ {i : Nat} {v : V}, vs[i]? = some v → ∃ d, ds[i]? = some d ∧ Dq K H v d
  | _, _, .cons a b, 0, v, h => by simp at h; subst h; exact ⟨_, rfl, a⟩
  | _, _, .cons a b, i + 1, v, h => by simp at h ⊢; exact DqAll.at b h
def tyN : PyData → String
  | .none => "NoneType" | .bool _ => "bool" | .int _ => "int" | .str _ => "str" | .tuple _ => "tuple" | .list _ => "list" | _ => "object"
theorem dq_ty {K : PySem.W.Frag} {H : Hp} {v : V} {d : PyData} (h : Dq K H v d) : TyX K H v (.type (tyN d)) := by
  cases h with
  | non => exact .base .non
  | bl b => exact .base (.bl b)
  | int i => exact .base (.int i)
  | str x => exact .base (.str x)
  | lst a b => exact .base (.lst a)
  | tup a b => exact ty_tup a
def isBo : PyData → Bool
  | .bool _ => true | _ => false
def isIn : PyData → Bool
  | .bool _ => true | .int _ => true | _ => false
def isSt : PyData → Bool
  | .str _ => true | _ => false
def isTu : PyData → Bool
  | .tuple _ => true | _ => false
def isLi : PyData → Bool
  | .list _ => true | _ => false
theorem dq_bo {K : PySem.W.Frag} {H : Hp} {v : V} {d : PyData} (h : Dq K H v d) : PySem.W.kitOne K (.type (tyN d)) (.type "bool") = some (isBo d) := by cases h <;> (refine kit_ty ?_; simp only [tyN, isBo]; decide +kernel)
theorem dq_in {K : PySem.W.Frag} {H : Hp} {v : V} {d : PyData} (h : Dq K H v d) : PySem.W.kitOne K (.type (tyN d)) (.type "int") = some (isIn d) := by cases h <;> (refine kit_ty ?_; simp only [tyN, isIn]; decide +kernel)
theorem dq_st {K : PySem.W.Frag} {H : Hp} {v : V} {d : PyData} (h : Dq K H v d) : PySem.W.kitOne K (.type (tyN d)) (.type "str") = some (isSt d) := by cases h <;> (refine kit_ty ?_; simp only [tyN, isSt]; decide +kernel)
theorem dq_tu {K : PySem.W.Frag} {H : Hp} {v : V} {d : PyData} (h : Dq K H v d) : PySem.W.kitOne K (.type (tyN d)) (.type "tuple") = some (isTu d) := by cases h <;> (refine kit_ty ?_; simp only [tyN, isTu]; decide +kernel)
theorem dq_li {K : PySem.W.Frag} {H : Hp} {v : V} {d : PyData} (h : Dq K H v d) : PySem.W.kitOne K (.type (tyN d)) (.type "list") = some (isLi d) := by cases h <;> (refine kit_ty ?_; simp only [tyN, isLi]; decide +kernel)
mutual
def narrow : PyData → Bool
  | .tuple ds => decide (ds.length ≤ 1000) && narrows ds
  | .list ds => decide (ds.length ≤ 1000) && narrows ds
  | _ => true
def narrows : List PyData → Bool
  | [] => true
  | d :: r => narrow d && narrows r
end
theorem narrows_at : ∀ {ds : List PyData}, narrows ds = true → ∀ {i : Nat} {d : PyData}, ds[i]? = some d → narrow d = true
  | x :: r, h, 0, d, hd => by simp only [narrows, Bool.and_eq_true] at h; simp at hd; subst hd; exact h.1
  | x :: r, h, i + 1, d, hd => by simp only [narrows, Bool.and_eq_true] at h; exact narrows_at h.2 (by simpa using hd)
theorem layAll_at : ∀ {ds : List PyData}, PyData.canLayAll0 ds = true → ∀ {i : Nat} {d : PyData}, ds[i]? = some d → PyData.canLay0 d = true
  | x :: r, h, 0, d, hd => by simp only [PyData.canLayAll0, Bool.and_eq_true] at h; simp at hd; subst hd; exact h.1
  | x :: r, h, i + 1, d, hd => by simp only [PyData.canLayAll0, Bool.and_eq_true] at h; exact layAll_at h.2 (by simpa using hd)
theorem depthAll_at : ∀ {ds : List PyData} {i : Nat} {d : PyData}, ds[i]? = some d → PyData.depth d ≤ PyData.depthAll ds
  | x :: r, 0, d, hd => by simp at hd; subst hd; simp only [PyData.depthAll]; omega
  | x :: r, i + 1, d, hd => by
    have := depthAll_at (ds := r) (i := i) (d := d) (by simpa using hd)
    simp only [PyData.depthAll]
    omega
def kids : PyData → List PyData
  | .tuple ds => ds
  | .list ds => ds
  | _ => []
/-- data that may be compared -/
structure CmpD (d : PyData) : Prop where
  lay : PyData.canLay0 d = true
  dep : PyData.depth d ≤ 64
  nar : narrow d = true
theorem CmpD.shaped {d : PyData} (h : CmpD d) : SeqAt.shaped d = true := by
  unfold SeqAt.shaped
  rw [h.lay, Bool.true_and]
  exact decide_eq_true h.dep
theorem CmpD.kid {d e : PyData} (h : CmpD d) {i : Nat} (he : (kids d)[i]? = some e) : CmpD e ∧ PyData.depth e < PyData.depth d ∧ (kids d).length ≤ 1000 := by
  cases d with
  | tuple ds =>
    have h1 : PyData.canLayAll0 ds = true := by have := h.lay; simpa [PyData.canLay0] using this
    have h2 : PyData.depthAll ds + 1 ≤ 64 := by have := h.dep; simpa [PyData.depth] using this
    have h3 := h.nar
    simp only [narrow, Bool.and_eq_true, decide_eq_true_eq] at h3
    have he : ds[i]? = some e := he
    have q := depthAll_at he
    exact ⟨⟨layAll_at h1 he, by omega, narrows_at h3.2 he⟩, by simp only [PyData.depth]; omega, h3.1⟩
  | list ds =>
    have h1 : PyData.canLayAll0 ds = true := by have := h.lay; simpa [PyData.canLay0] using this
    have h2 : PyData.depthAll ds + 1 ≤ 64 := by have := h.dep; simpa [PyData.depth] using this
    have h3 := h.nar
    simp only [narrow, Bool.and_eq_true, decide_eq_true_eq] at h3
    have he : ds[i]? = some e := he
    have q := depthAll_at he
    exact ⟨⟨layAll_at h1 he, by omega, narrows_at h3.2 he⟩, by simp only [PyData.depth]; omega, h3.1⟩
  | _ => simp [kids] at he
theorem CmpD.len {d : PyData} (h : CmpD d) : (kids d).length ≤ 1000 := by
  cases d with
  | tuple ds =>
    have h3 := h.nar
    simp only [narrow, Bool.and_eq_true, decide_eq_true_eq] at h3
    exact h3.1
  | list ds =>
    have h3 := h.nar
    simp only [narrow, Bool.and_eq_true, decide_eq_true_eq] at h3
    exact h3.1
  | _ => exact Nat.zero_le _
structure TxSam (mg : Str → Option Value) : Prop where
  n_bool : mg "bool" = none
  n_int : mg "int" = none
  n_str : mg "str" = none
  n_tuple : mg "tuple" = none
  n_list : mg "list" = none
  n_isinstance : mg "isinstance" = none
  n_len : mg "len" = none
  n_all : mg "all" = none
  n_range : mg "range" = none
abbrev sSame : Stmt := topS 77
abbrev NSame : List Str := ["_law_actual", "_law_due", "_law_k"]
abbrev PSame : List Str := ["_law_actual", "_law_due"]
theorem scSame : FnScope NSame PSame (defScope sSame) := ⟨rfl, rfl, rfl, by decide +kernel, rfl, by decide +kernel, by decide +kernel⟩
def spSam (K : PySem.W.Frag) (n : Nat) : Sp := fun vs H Q _ => ∃ (x y : V) (d e : PyData), vs = [x, y] ∧ Dq K H x d ∧ Dq K H y e ∧ PyData.depth e < n ∧ CmpD d ∧ CmpD e ∧ ∀ (b : Bool) (H' : Hp), (d = e → b = true) → Same H H' → Q (.bl b) H'
section
variable {P : Program} {w : World} {K : PySem.W.Frag} {mg : Str → Option Value} {base : Heap}
theorem ok_Sam {f : Addr} {fd : FuncData} (F : Fun K "_law_same" "_law_same" sSame f fd) (T : TxSam mg) (m : mg "_law_same" = some (.ref f)) (kp : PySem.W.keepIn K (.ref f) = true) (b : Binds K fd PSame []) : ∀ n, FnOk P w K mg base CX0 n f fd PSame (spSam K n) := by
  intro n
  induction n with
  | zero => exact ⟨fun _ _ _ _ h => by obtain ⟨_, _, _, _, _, _, _, h, _⟩ := h; omega, fun _ _ _ _ _ _ _ _ _ _ _ _ _ h => by obtain ⟨_, _, _, _, _, _, _, h, _⟩ := h; omega⟩
  | succ n ih =>
    have GS : Has P w K mg base CX0 n "_law_same" PSame (spSam K n) := ⟨f, fd, ih, m, kp, b⟩
    refine F.ok scSame (fun vs H Q E h => ?_) (fun cdv A outer s H vs Q E hr h => ?_)
    · obtain ⟨x, y, d, e, rfl, _⟩ := h
      rfl
    · obtain ⟨x, y, d, e, rfl, hx, hy, hn, cd, ce, k⟩ := h
      refine ⟨_, (pss_cons (ps_if (pt_cmpR op_isN (pv 1) pe_non (nomark _))
  (pss_one (ps_ret (pe_cmpR op_isN (pv 0) pe_non (nomark _))))
  pss_nil)
  (pss_cons (ps_if (PW.pt (pw_or (pt_val (pe_callB call_isi (by rfl) T.n_isinstance bb_isinstance (pa_cons (pv 1) (pa_cons (pe_bltn (v := .ty "bool") (by rfl) T.n_bool bb_bool rfl) pa_nil)))) (pw_or1 (pt_val (pe_callB call_isi (by rfl) T.n_isinstance bb_isinstance (pa_cons (pv 0) (pa_cons (pe_bltn (v := .ty "bool") (by rfl) T.n_bool bb_bool rfl) pa_nil)))))))
  (pss_one (ps_ret (pe_and (pe_callB call_isi (by rfl) T.n_isinstance bb_isinstance (pa_cons (pv 1) (pa_cons (pe_bltn (v := .ty "bool") (by rfl) T.n_bool bb_bool rfl) pa_nil))) (pe_and (pe_callB call_isi (by rfl) T.n_isinstance bb_isinstance (pa_cons (pv 0) (pa_cons (pe_bltn (v := .ty "bool") (by rfl) T.n_bool bb_bool rfl) pa_nil))) (pe_one (pe_cmpR (op_eqD hr.units) (pv 0) (pv 1) (nomark _)))))))
  pss_nil)
  (pss_cons (ps_if (PW.pt (pw_or (pt_val (pe_callB call_isi (by rfl) T.n_isinstance bb_isinstance (pa_cons (pv 1) (pa_cons (pe_bltn (v := .ty "int") (by rfl) T.n_int bb_int rfl) pa_nil)))) (pw_or1 (pt_val (pe_callB call_isi (by rfl) T.n_isinstance bb_isinstance (pa_cons (pv 1) (pa_cons (pe_bltn (v := .ty "str") (by rfl) T.n_str bb_str rfl) pa_nil)))))))
  (pss_one (ps_ret (pe_and (pe_cmpR op_eq (pe_callB call_isi (by rfl) T.n_isinstance bb_isinstance (pa_cons (pv 0) (pa_cons (pe_bltn (v := .ty "int") (by rfl) T.n_int bb_int rfl) pa_nil))) (pe_callB call_isi (by rfl) T.n_isinstance bb_isinstance (pa_cons (pv 1) (pa_cons (pe_bltn (v := .ty "int") (by rfl) T.n_int bb_int rfl) pa_nil))) (nomark _)) (pe_one (pe_cmpR (op_eqD hr.units) (pv 0) (pv 1) (nomark _))))))
  pss_nil)
  (pss_cons (ps_if (PW.pt (pw_or (pt_cmpR op_ne (pe_callB call_isi (by rfl) T.n_isinstance bb_isinstance (pa_cons (pv 1) (pa_cons (pe_bltn (v := .ty "tuple") (by rfl) T.n_tuple bb_tuple rfl) pa_nil))) (pe_callB call_isi (by rfl) T.n_isinstance bb_isinstance (pa_cons (pv 0) (pa_cons (pe_bltn (v := .ty "tuple") (by rfl) T.n_tuple bb_tuple rfl) pa_nil))) (nomark _)) (pw_or1 (pt_cmpR op_ne (pe_callB call_isi (by rfl) T.n_isinstance bb_isinstance (pa_cons (pv 1) (pa_cons (pe_bltn (v := .ty "list") (by rfl) T.n_list bb_list rfl) pa_nil))) (pe_callB call_isi (by rfl) T.n_isinstance bb_isinstance (pa_cons (pv 0) (pa_cons (pe_bltn (v := .ty "list") (by rfl) T.n_list bb_list rfl) pa_nil))) (nomark _)))))
  (pss_one (ps_ret pe_bl))
  pss_nil)
  (pss_one (ps_ret (pe_and (pe_cmpR op_eq (pe_callB call_len_seq (by rfl) T.n_len bb_len (pa_cons (pv 0) pa_nil)) (pe_callB call_len_seq (by rfl) T.n_len bb_len (pa_cons (pv 1) pa_nil)) (nomark _)) (pe_one (pe_callB (cr_all rfl) (by rfl) T.n_all bb_all (pa_cons (pe_lc (own := [("_law_k", 2)]) (g := gName 2) (tt := tYes) rfl scSame.nd (pi_range1 (by rfl) T.n_range (pa_cons (pe_callB call_len_seq (by rfl) T.n_len bb_len (pa_cons (pv 1) pa_nil)) pa_nil)) (blkOk_by (own := [("_law_k", 2)]) (N := NSame) (sc := (defScope sSame)) (by decide +kernel)) (fun _ _ _ _ _ => (pg_name (i := 2) scSame.nd rfl (Or.inl rfl))) (fun _ _ _ _ _ => pts_nil) (fun _ _ _ _ _ => (pe_callH GS hr rfl pass0 (pa_cons (pe_ix (r := fun x y H Q => rIxT K x y H Q ∨ rIxL K x y H Q) (IxR.or ix_tup ix_list) (pv 0) (pv 2) (fun _ _ => rfl)) (pa_cons (pe_ix (r := fun x y H Q => rIxT K x y H Q ∨ rIxL K x y H Q) (IxR.or ix_tup ix_list) (pv 1) (pv 2) (fun _ _ => rfl)) pa_nil))))) pa_nil)))))))))), ?_⟩
      have eqv_of : d = e → PyData.eqv d e = true := fun z => by rw [z]; exact SeqAt.eqv_refl _ ce.lay
      refine ⟨_, rfl, rfl, _, rfl, ?_⟩
      by_cases hN : y = .non
      · refine iteS (decide_eq_true hN) ⟨_, rfl, rfl, k _ H (fun z => ?_) (Same.refl _)⟩
        subst hN
        cases hy
        subst z
        cases hx
        rfl
      refine iteE (decide_eq_false hN) ?_
      -- bool
      refine ⟨_, rfl, _, _, _, _, _, rfl, .ty _, dq_ty hy, dq_bo hy, _, rfl, ?_⟩
      by_cases hb : isBo e = true
      · refine iteS hb (iteT ?_)
        refine ⟨_, rfl, _, _, _, _, _, rfl, .ty _, dq_ty hy, dq_bo hy, _, rfl, iteS hb ⟨_, rfl, _, _, _, _, _, rfl, .ty _, dq_ty hx, dq_bo hx, _, rfl, ?_⟩⟩
        by_cases hb2 : isBo d = true
        · exact iteS hb2 ⟨_, rfl, _, rfl, d, e, hx.dp, hy.dp, cd.shaped, ce.shaped, k _ H eqv_of (Same.refl _)⟩
        · exact iteE (Bool.eq_false_iff.mpr hb2) (k _ H (fun z => absurd (z ▸ hb) hb2) (Same.refl _))
      have hb := Bool.eq_false_iff.mpr hb
      refine iteE hb ⟨_, rfl, _, _, _, _, _, rfl, .ty _, dq_ty hx, dq_bo hx, _, rfl, ?_⟩
      by_cases hb2 : isBo d = true
      · refine iteS hb2 ⟨_, rfl, _, _, _, _, _, rfl, .ty _, dq_ty hy, dq_bo hy, _, rfl, iteE hb (k _ H (fun z => ?_) (Same.refl _))⟩
        rw [z, hb] at hb2
        cases hb2
      have hb2 := Bool.eq_false_iff.mpr hb2
      refine iteE hb2 ?_
      -- int, str
      refine ⟨_, rfl, _, _, _, _, _, rfl, .ty _, dq_ty hy, dq_in hy, _, rfl, ?_⟩
      by_cases hi : isIn e = true
      · refine iteS hi (iteT ?_)
        refine ⟨_, rfl, _, _, _, _, _, rfl, .ty _, dq_ty hx, dq_in hx, _, rfl, _, _, _, _, _, rfl, .ty _, dq_ty hy, dq_in hy, rfl, _, rfl, ?_⟩
        by_cases hq : isIn d = isIn e
        · exact iteS (decide_eq_true (by rw [hq])) ⟨_, rfl, _, rfl, d, e, hx.dp, hy.dp, cd.shaped, ce.shaped, k _ H eqv_of (Same.refl _)⟩
        · exact iteE (decide_eq_false fun z => hq (V.bl.inj z)) (k _ H (fun z => absurd (by rw [z]) hq) (Same.refl _))
      have hi := Bool.eq_false_iff.mpr hi
      refine iteE hi ⟨_, rfl, _, _, _, _, _, rfl, .ty _, dq_ty hy, dq_st hy, _, rfl, ?_⟩
      by_cases hs : isSt e = true
      · refine iteS hs ?_
        refine ⟨_, rfl, _, _, _, _, _, rfl, .ty _, dq_ty hx, dq_in hx, _, rfl, _, _, _, _, _, rfl, .ty _, dq_ty hy, dq_in hy, rfl, _, rfl, ?_⟩
        by_cases hq : isIn d = isIn e
        · exact iteS (decide_eq_true (by rw [hq])) ⟨_, rfl, _, rfl, d, e, hx.dp, hy.dp, cd.shaped, ce.shaped, k _ H eqv_of (Same.refl _)⟩
        · exact iteE (decide_eq_false fun z => hq (V.bl.inj z)) (k _ H (fun z => absurd (by rw [z]) hq) (Same.refl _))
      have hs := Bool.eq_false_iff.mpr hs
      refine iteE hs ?_
      -- tuple, list
      refine ⟨_, rfl, _, _, _, _, _, rfl, .ty _, dq_ty hy, dq_tu hy, _, rfl, _, _, _, _, _, rfl, .ty _, dq_ty hx, dq_tu hx, rfl, _, rfl, ?_⟩
      by_cases ht : isTu e = isTu d
      case neg => exact iteS (by rw [decide_eq_false fun z => ht (V.bl.inj z)]; rfl) (iteT (k _ H (fun z => absurd (by rw [z]) ht) (Same.refl _)))
      refine iteE (by rw [decide_eq_true (by rw [ht])]; rfl) ⟨_, rfl, _, _, _, _, _, rfl, .ty _, dq_ty hy, dq_li hy, _, rfl, _, _, _, _, _, rfl, .ty _, dq_ty hx, dq_li hx, rfl, _, rfl, ?_⟩
      by_cases hl : isLi e = isLi d
      case neg => exact iteS (by rw [decide_eq_false fun z => hl (V.bl.inj z)]; rfl) (k _ H (fun z => absurd (by rw [z]) hl) (Same.refl _))
      refine iteE (by rw [decide_eq_true (by rw [hl])]; rfl) ?_
      obtain ⟨a, xs, b, ys, rfl, rfl, sx, sy, dx, dy, inj⟩ : ∃ (a : Addr) (xs : List V) (b : Addr) (ys : List V), x = .ref a ∧ y = .ref b ∧ (∀ H', Same H H' → SqT K H' a xs ∨ SqL K H' a xs) ∧ (∀ H', Same H H' → SqT K H' b ys ∨ SqL K H' b ys) ∧ DqAll K H xs (kids d) ∧ DqAll K H ys (kids e) ∧ (d = e → kids d = kids e) := by
        cases hy with
        | non => exact absurd rfl hN
        | bl _ => cases hb
        | int _ => cases hi
        | str _ => cases hs
        | tup q1 q2 =>
          cases hx with
          | tup q3 q4 => exact ⟨_, _, _, _, rfl, rfl, fun H' s => .inl (SqT.same s q3), fun H' s => .inl (SqT.same s q1), q4, q2, fun z => by rw [z]⟩
          | _ => cases ht
        | lst q1 q2 =>
          cases hx with
          | lst q3 q4 => exact ⟨_, _, _, _, rfl, rfl, fun H' s => .inr (SqL.of (s _ _ q3)), fun H' s => .inr (SqL.of (s _ _ q1)), q4, q2, fun z => by rw [z]⟩
          | _ => cases hl
      have lx := dx.len
      have ly := dy.len
      have l1 := cd.len
      have l2 := ce.len
      have flip : ∀ {H' : Hp} {a : Addr} {xs : List V}, SqT K H' a xs ∨ SqL K H' a xs → SqL K H' a xs ∨ SqT K H' a xs := fun h => h.symm
      refine ⟨_, rfl, a, xs, rfl, flip (sx H (Same.refl _)), _, rfl, b, ys, rfl, flip (sy H (Same.refl _)), rfl, _, rfl, ?_⟩
      by_cases hlen : xs.length = ys.length
      case neg => exact iteE (decide_eq_false fun z => hlen (by injection z with z; omega)) (k _ H (fun z => absurd (by rw [lx, ly, inj z]) hlen) (Same.refl _))
      refine iteS (decide_eq_true (by rw [hlen])) ?_
      refine ⟨_, rfl, b, ys, rfl, flip (sy H (Same.refl _)), ?_⟩
      have e62 : (2 : Int) ^ 62 = 4611686018427387904 := by decide
      refine ⟨((ys.length : Nat) : Int), rfl, by omega, by omega, fun D hD => lc_range (lo := 0) (n := ((ys.length : Nat) : Int).toNat) (fun i H' => Same H H' ∧ ∃ bs : List Bool, H' D = some (.lst (bs.map V.bl)) ∧ bs.length = i ∧ (d = e → ∀ c ∈ bs, c = true)) ⟨same_new hD, [], upd_same, rfl, fun _ _ z => (nomatch z)⟩ ?_ ?_⟩
      · rintro i H1 hi2 ⟨s1, bs, eD, lb, hbs⟩
        have hi2 : i < ys.length := by omega
        obtain ⟨x, hx2⟩ : ∃ x, xs[i]? = some x := ⟨_, List.getElem?_eq_getElem (by omega)⟩
        obtain ⟨y, hy2⟩ : ∃ y, ys[i]? = some y := ⟨_, List.getElem?_eq_getElem hi2⟩
        obtain ⟨dd, hdd, qx⟩ := DqAll.at dx hx2
        obtain ⟨ee, hee, qy⟩ := DqAll.at dy hy2
        have ca : ∀ {H' : Hp} {a : Addr} {xs : List V} {v : V} {Q : VK}, (SqT K H' a xs ∨ SqL K H' a xs) → atI xs (0 + (i : Int)) = some v → Q v H' → (rIxT K (.ref a) (.int (0 + (i : Int))) H' Q ∨ rIxL K (.ref a) (.int (0 + (i : Int))) H' Q) := fun h hv q => h.elim (fun h => .inl ⟨_, _, _, _, rfl, rfl, h, hv, q⟩) fun h => .inr ⟨_, _, _, _, rfl, rfl, h, hv, q⟩
        have kd := cd.kid hdd
        have ke := ce.kid hee
        refine ⟨wipe1 (by decide), _, rfl, _, rfl, ca (sx _ s1) (by rw [Int.zero_add]; exact atI_nat hx2) ⟨_, rfl, _, rfl, ca (sy _ s1) (by rw [Int.zero_add]; exact atI_nat hy2) ⟨x, y, dd, ee, rfl, qx.same s1, qy.same s1, by omega, kd.1, ke.1, fun c H2 hc s2 => ⟨_, s2 _ _ eD, small1000 (by rw [List.length_map]; omega), fun c o z => ?_, bs ++ [c], ?_, by rw [List.length_append, lb]; rfl, fun z c2 hc2 => ?_⟩⟩⟩⟩
        · rw [upd_ne (ne_of_none z hD)]
          exact s2 _ _ (s1 _ _ z)
        · rw [upd_same, List.map_append]
          rfl
        · rcases List.mem_append.mp hc2 with w | w
          · exact hbs z c2 w
          · rw [List.mem_singleton.mp w]
            refine hc ?_
            rw [inj z, hee] at hdd
            exact (Option.some.inj hdd).symm
      · rintro H1 ⟨s1, bs, eD, lb, hbs⟩
        refine ⟨D, _, rfl, SqL.of eD, k _ H1 (fun z => ?_) s1⟩
        rw [List.all_eq_true]
        exact fun c hc => hbs z c hc
end

/-! comparable data -/
structure Gd (d : PyData) (k : Nat) : Prop where
  lay : PyData.canLay0 d = true
  nar : narrow d = true
  dep : PyData.depth d ≤ k
theorem Gd.mono {d : PyData} {j k : Nat} (h : Gd d j) (l : j ≤ k) : Gd d k := ⟨h.lay, h.nar, Nat.le_trans h.dep l⟩
theorem Gd.all {ds : List PyData} {k : Nat} (h : ∀ d ∈ ds, Gd d k) : PyData.canLayAll0 ds = true ∧ narrows ds = true ∧ PyData.depthAll ds ≤ k := by
  induction ds with
  | nil => exact ⟨by simp [PyData.canLayAll0], rfl, by simp [PyData.depthAll]⟩
  | cons x r ih =>
    obtain ⟨h1, h2, h3⟩ := ih fun d hd => h d (List.mem_cons_of_mem _ hd)
    have hx := h x List.mem_cons_self
    refine ⟨by simp only [PyData.canLayAll0, hx.lay, h1, Bool.true_and], by simp only [narrows, hx.nar, h2, Bool.true_and], ?_⟩
    have := hx.dep
    simp only [PyData.depthAll]
    omega
theorem Gd.tup {ds : List PyData} {k : Nat} (h : ∀ d ∈ ds, Gd d k) (l : ds.length ≤ 1000) : Gd (.tuple ds) (k + 1) := by
  obtain ⟨h1, h2, h3⟩ := Gd.all h
  exact ⟨by simp only [PyData.canLay0, h1], by simp only [narrow, h2, Bool.and_true]; exact decide_eq_true l, by simp only [PyData.depth]; omega⟩
theorem Gd.lst {ds : List PyData} {k : Nat} (h : ∀ d ∈ ds, Gd d k) (l : ds.length ≤ 1000) : Gd (.list ds) (k + 1) := by
  obtain ⟨h1, h2, h3⟩ := Gd.all h
  exact ⟨by simp only [PyData.canLay0, h1], by simp only [narrow, h2, Bool.and_true]; exact decide_eq_true l, by simp only [PyData.depth]; omega⟩
theorem Gd.str {z : Str} (h : PyData.strOk z = true) : Gd (.str z) 0 := ⟨by simpa [PyData.canLay0] using h, rfl, by simp [PyData.depth]⟩
theorem Gd.nm {z : Str} (h : okN1 z) : Gd (.str z) 0 := .str (strOk_name h.1)
theorem Gd.int (i : Int) : Gd (.int i) 0 := ⟨by simp [PyData.canLay0], rfl, by simp [PyData.depth]⟩
theorem Gd.bl (b : Bool) : Gd (.bool b) 0 := ⟨by simp [PyData.canLay0], rfl, by simp [PyData.depth]⟩
theorem Gd.non : Gd .none 0 := ⟨by simp [PyData.canLay0], rfl, by simp [PyData.depth]⟩
theorem Gd.cmp {d : PyData} {k : Nat} (h : Gd d k) (l : k ≤ 64) : CmpD d := ⟨h.lay, Nat.le_trans h.dep l, h.nar⟩
theorem Gd.map {α : Type} {f : α → PyData} {l : List α} {k : Nat} (h : ∀ x ∈ l, Gd (f x) k) (hl : l.length ≤ 1000) : Gd (.tuple (l.map f)) (k + 1) :=
  .tup (fun d hd => by obtain ⟨x, hx, rfl⟩ := List.mem_map.mp hd; exact h x hx) (by rw [List.length_map]; exact hl)
theorem gd_ex {e : Ex} (h : okEx e) : Gd (exD e) 3 := by
  have l : Gd (.tuple (e.ts.map fun p => .tuple [.str p.1, .int p.2])) 2 := .map (fun p hp => .tup (fun d hd => by
    simp only [List.mem_cons, List.not_mem_nil, or_false] at hd
    rcases hd with rfl | rfl
    · exact .nm (h.2.1 p hp).1
    · exact .int _) (Nat.le_of_ble_eq_true rfl)) (by have := h.1; omega)
  refine .tup (fun d hd => ?_) (Nat.le_of_ble_eq_true rfl)
  simp only [List.mem_cons, List.not_mem_nil, or_false] at hd
  rcases hd with rfl | rfl
  · exact (Gd.int _).mono (by decide)
  · exact l
theorem gd_nm {ns : List Str} (h : okNs ns) : Gd (nmD ns) 1 := .map (fun x hx => .nm (h.2 x hx)) (by have := h.1; omega)
theorem gd_two {a b : PyData} {k : Nat} (ha : Gd a k) (hb : Gd b k) : Gd (.tuple [a, b]) (k + 1) := .tup (fun d hd => by
  simp only [List.mem_cons, List.not_mem_nil, or_false] at hd
  rcases hd with rfl | rfl
  · exact ha
  · exact hb) (by decide : 2 ≤ 1000)
theorem gd_three {a b c : PyData} {k : Nat} (ha : Gd a k) (hb : Gd b k) (hc : Gd c k) : Gd (.tuple [a, b, c]) (k + 1) := .tup (fun d hd => by
  simp only [List.mem_cons, List.not_mem_nil, or_false] at hd
  rcases hd with rfl | rfl | rfl
  · exact ha
  · exact hb
  · exact hc) (by decide : 3 ≤ 1000)
theorem gd_four {a b c e : PyData} {k : Nat} (ha : Gd a k) (hb : Gd b k) (hc : Gd c k) (he : Gd e k) : Gd (.tuple [a, b, c, e]) (k + 1) := .tup (fun d hd => by
  simp only [List.mem_cons, List.not_mem_nil, or_false] at hd
  rcases hd with rfl | rfl | rfl | rfl
  · exact ha
  · exact hb
  · exact hc
  · exact he) (by decide : 4 ≤ 1000)
theorem gd_five {a b c e g : PyData} {k : Nat} (ha : Gd a k) (hb : Gd b k) (hc : Gd c k) (he : Gd e k) (hg : Gd g k) : Gd (.tuple [a, b, c, e, g]) (k + 1) := .tup (fun d hd => by
  simp only [List.mem_cons, List.not_mem_nil, or_false] at hd
  rcases hd with rfl | rfl | rfl | rfl | rfl
  · exact ha
  · exact hb
  · exact hc
  · exact he
  · exact hg) (by decide : 5 ≤ 1000)
theorem gd_w {z : Str} {k : Nat} (h : PyData.strOk z = true := by decide +kernel) : Gd (.str z) k := (Gd.str h).mono (Nat.zero_le _)
theorem gd_arg {a : Arg} (h : okArg a) : Gd (argD a) 4 := by
  cases a with
  | place n => exact (gd_two gd_w (Gd.nm h)).mono (by decide)
  | value e => exact gd_two gd_w (gd_ex h)
theorem gd_args {as : List Arg} (h : okAs as) : Gd (.tuple (as.map argD)) 5 := .map (fun x hx => gd_arg (h.2 x hx)) (by have := h.1; omega)
theorem gd_cal {c : Cal} (h : okCal c) : Gd (calD c) 6 := gd_two ((Gd.nm h.1).mono (Nat.zero_le _)) (gd_args h.2)
mutual
theorem gd_st : ∀ (s : St), okS s → Gd (stD s) (8 + 4 * dpS s)
  | .set t e, h => (gd_three gd_w ((Gd.nm h.1).mono (Nat.zero_le 3)) (gd_ex h.2)).mono (by omega)
  | .input t, h => (gd_two gd_w (Gd.nm h)).mono (by omega)
  | .call t f as, h => by
    have h : (∀ x, t = some x → okN1 x) ∧ okN1 f ∧ okAs as := h
    have o : Gd (optD t) 5 := by
      cases t with
      | none => exact Gd.non.mono (Nat.zero_le _)
      | some x => exact (Gd.nm (h.1 x rfl)).mono (Nat.zero_le _)
    exact (gd_four gd_w o ((Gd.nm h.2.1).mono (Nat.zero_le _)) (gd_args h.2.2)).mono (by omega)
  | .risk ks, h => (gd_two gd_w (gd_nm (show ks ≠ [] ∧ okNs ks from h).2)).mono (by omega)
  | .raise k, h => (gd_two gd_w (Gd.nm h)).mono (by omega)
  | .ret e, h => (gd_two gd_w (gd_ex h)).mono (by omega)
  | .ite a b, h => by
    have h : (a.length ≤ 900 ∧ okL a) ∧ (b.length ≤ 900 ∧ okL b) := h
    have ha := gd_bl a h.1
    have hb := gd_bl b h.2
    have e : dpS (.ite a b) = max (dpB a) (dpB b) := rfl
    rw [e]
    exact (gd_three (k := 7 + 4 * max (dpB a) (dpB b)) gd_w (ha.mono (by omega)) (hb.mono (by omega))).mono (by omega)
  | .whl b, h => by
    have hb := gd_bl b (show b.length ≤ 900 ∧ okL b from h)
    have e : dpS (.whl b) = dpB b := rfl
    rw [e]
    exact (gd_two (k := 7 + 4 * dpB b) gd_w (hb.mono (by omega))).mono (by omega)
  | .try_ b hs f, h => by
    have h : (b.length ≤ 900 ∧ okL b) ∧ (hs.length ≤ 900 ∧ okHs hs) ∧ (f.length ≤ 900 ∧ okL f) := h
    have hb := gd_bl b h.1
    have hf := gd_bl f h.2.2
    have hh : Gd (.tuple (hdsD hs)) (6 + 4 * dpHs hs + 1) := .tup (gd_hs hs h.2.1.2) (by rw [hdsD_map, List.length_map]; have := h.2.1.1; omega)
    have e : dpS (.try_ b hs f) = max (dpB b) (max (dpHs hs) (dpB f)) := rfl
    rw [e]
    exact (gd_four (k := 7 + 4 * max (dpB b) (max (dpHs hs) (dpB f))) gd_w (hb.mono (by omega)) (hh.mono (by omega)) (hf.mono (by omega))).mono (by omega)
  | .undo ns b, h => by
    have h : (ns ≠ [] ∧ okNs ns) ∧ (b.length ≤ 900 ∧ okL b) := h
    have hb := gd_bl b h.2
    have e : dpS (.undo ns b) = dpB b := rfl
    rw [e]
    exact (gd_three (k := 7 + 4 * dpB b) gd_w ((gd_nm h.1.2).mono (by omega)) (hb.mono (by omega))).mono (by omega)
  | .with_ e l ks b, h => by
    have h : (okCal e ∧ okCal l ∧ okNs ks) ∧ (b.length ≤ 900 ∧ okL b) := h
    have hb := gd_bl b h.2
    have ee : dpS (.with_ e l ks b) = dpB b := rfl
    rw [ee]
    exact (gd_five (k := 7 + 4 * dpB b) gd_w ((gd_cal h.1.1).mono (by omega)) ((gd_cal h.1.2.1).mono (by omega)) ((gd_nm h.1.2.2).mono (by omega)) (hb.mono (by omega))).mono (by omega)
theorem gd_bl : ∀ (b : List St), b.length ≤ 900 ∧ okL b → Gd (blD b) (5 + 4 * dpB b)
  | [], _ => (Gd.tup (ds := []) (k := 0) (fun _ z => (List.not_mem_nil z).elim) (Nat.zero_le _)).mono (by omega)
  | s :: r, h => by
    have h2 : okS s ∧ okL r := h.2
    have h1 := gd_st s h2.1
    have hr := gd_ls r h2.2
    have e := dpB_eq (s :: r)
    have e2 : dpIn (s :: r) = max (dpS s) (dpIn r) := rfl
    have l := h.1
    refine (Gd.tup (k := 8 + 4 * dpIn (s :: r)) (fun d hd => ?_) (by rw [stsD_map, List.length_map]; omega)).mono (by omega)
    rcases List.mem_cons.mp (show d ∈ stD s :: stsD r from hd) with z | z
    · rw [z]; exact h1.mono (by omega)
    · exact (hr d z).mono (by omega)
theorem gd_ls : ∀ (b : List St), okL b → ∀ d ∈ stsD b, Gd d (8 + 4 * dpIn b)
  | [], _, _, z => (List.not_mem_nil z).elim
  | s :: r, h, d, hd => by
    have h2 : okS s ∧ okL r := h
    have e2 : dpIn (s :: r) = max (dpS s) (dpIn r) := rfl
    rcases List.mem_cons.mp (show d ∈ stD s :: stsD r from hd) with z | z
    · rw [z]; exact (gd_st s h2.1).mono (by omega)
    · exact (gd_ls r h2.2 d z).mono (by omega)
theorem gd_h : ∀ (x : Hd), okH x → Gd (hdD x) (6 + 4 * dpH x)
  | .mk ks b, h => by
    have h : (ks ≠ [] ∧ okNs ks) ∧ (b.length ≤ 900 ∧ okL b) := h
    have hb := gd_bl b h.2
    have e : dpH (.mk ks b) = dpB b := rfl
    rw [e]
    exact (gd_two (k := 5 + 4 * dpB b) ((gd_nm h.1.2).mono (by omega)) hb).mono (by omega)
theorem gd_hs : ∀ (hs : List Hd), okHs hs → ∀ d ∈ hdsD hs, Gd d (6 + 4 * dpHs hs)
  | [], _, _, z => (List.not_mem_nil z).elim
  | x :: r, h, d, hd => by
    have h2 : okH x ∧ okHs r := h
    have e2 : dpHs (x :: r) = max (dpH x) (dpHs r) := rfl
    rcases List.mem_cons.mp (show d ∈ hdD x :: hdsD r from hd) with z | z
    · rw [z]; exact (gd_h x h2.1).mono (by omega)
    · exact (gd_hs r h2.2 d z).mono (by omega)
end
theorem gd_tr {t : Tr} (h : okTr 6 t) : Gd (trD t) 32 := by
  obtain ⟨h1, h2, h3, h4, h5⟩ := h
  have k : Gd (.tuple (t.keeps.map exD)) 4 := .map (fun e he => gd_ex (h3.2 e he).1) (by have := h3.1; omega)
  have f : Gd (.tuple (t.fns.map fnD)) 31 := .map (fun f hf => by
    obtain ⟨q1, q2, q3, q4, _⟩ := h5 f hf
    have b := gd_bl f.b q3
    have p : Gd (.tuple (f.ps.map prD)) 2 := .map (fun p hp => gd_two (Gd.nm (q2.2 p hp)) (Gd.bl _)) (by have := q2.1; omega)
    exact (gd_three (k := 29) ((Gd.nm q1).mono (Nat.zero_le _)) (p.mono (by decide)) (b.mono (by omega)))) (by omega)
  exact gd_four ((gd_nm h1).mono (by decide)) ((gd_nm h2).mono (by decide)) (k.mono (by decide)) f

/-! ### what the written part says of the classes -/
structure XcK (K : PySem.W.Frag) (C : Addr) (bm : List Value) (newId : String) (f : Str) : Prop where
  lk : ∃ nm q N bs sn sub ab col dd k0 k1 k2 k3 k5, K.lookup C = some (excClassObj nm q C N bs bm true sn sub ab col dd k0 k1 k2 k3 k5 newId)
  sa : PySem.W.findIn K (.ref C) "__setattr__" = some (some (.builtin "object.__setattr__"))
  kc : PySem.W.keepIn K (.ref C) = true
  no : PySem.W.findIn K (.ref C) f = some none
  ga : PySem.W.findIn K (.ref C) "__getattribute__" = some (some (.builtin "BaseException.__getattribute__"))
  gg : PySem.W.findIn K (.ref C) "__getattr__" = some none
  ca : PySem.W.findIn K (.ref C) "__class__" = some (some (.builtin "object.__class__"))
section
variable {K : PySem.W.Frag} {C : Addr} {bm bmB : List Value} {newId : String} {f : Str}
theorem lk_cls {nm q N bs sn sub ab col dd k0 k1 k2 k3 k5} (h : K.lookup C = some (excClassObj nm q C N bs bm true sn sub ab col dd k0 k1 k2 k3 k5 newId)) : ∃ cd, PySem.W.clsIn K C = some cd ∧ cd.mro = .ref C :: bm ∧ cd.hasDict = true :=
  ⟨_, by unfold PySem.W.clsIn; rw [h], rfl, rfl⟩
theorem XcK.cls (T : XcK K C bm newId f) : ∃ cd, PySem.W.clsIn K C = some cd ∧ cd.mro = .ref C :: bm ∧ cd.hasDict = true := by
  obtain ⟨_, _, _, _, _, _, _, _, _, _, _, _, _, _, h⟩ := T.lk
  exact lk_cls h
theorem sub_cls (h : ∃ cd, PySem.W.clsIn K C = some cd ∧ cd.mro = .ref C :: bm ∧ cd.hasDict = true) (x : Value) : PySem.W.subIn K (.ref C) x = some ((Value.ref C :: bm).contains x) := by
  obtain ⟨cd, e, m, _⟩ := h
  show PySem.W.mroIn K C x = _
  unfold PySem.W.mroIn
  rw [e, Option.bind_some, m]
  rfl
theorem XcK.ty (T : XcK K C bm newId f) : PySem.W.typeIn K (.ref C) = some (.type "type") := by
  obtain ⟨_, _, _, _, _, _, _, _, _, _, _, _, _, _, h⟩ := T.lk
  show (K.lookup C).map (·.cls) = _
  rw [h]; rfl
theorem XcK.hd (T : XcK K C bm newId f) : PySem.W.hasDictIn K C = true := by
  obtain ⟨cd, e, _, d⟩ := T.cls
  unfold PySem.W.hasDictIn
  rw [e]; exact d
theorem tail_has (ht : PySem.W.excTail bmB bm = true) (X : String) (h : bmB.contains (.type X) = true) : (Value.ref C :: bm).contains (.type X) = true := by
  rw [List.contains_cons, PySem.W.excTail_contains _ _ ht, h, Bool.or_true]
theorem XcK.oex (T : XcK K C bm newId f) (B : XC.Bas bmB newId) (ht : PySem.W.excTail bmB bm = true) (hb : bmB.contains (.type "BaseException") = true) : OexG K C := by
  refine ⟨⟨bmB, newId, B, ?_, ?_⟩, T.hd, T.sa, (sub_cls T.cls _).trans (by rw [tail_has ht _ hb]), T.ty, T.kc⟩
  · obtain ⟨_, _, _, _, _, _, _, _, _, _, _, _, _, _, h⟩ := T.lk
    unfold PySem.W.excInitIn
    rw [h]
    simp [ht]
  · obtain ⟨cd, e, m, _⟩ := T.cls
    unfold PySem.W.excOver
    rw [e]
    show (match cd.mro with | .ref C' :: bm => C' == C && PySem.W.excTail bmB bm | _ => false) = true
    rw [m]
    simp [ht]
theorem XcK.xf (T : XcK K C bm newId f) (ht : PySem.W.excTail bmB bm = true) (hb : bmB.contains (.type "BaseException") = true) : XfC K C := ⟨T.ga, T.gg, (sub_cls T.cls _).trans (by rw [tail_has ht _ hb]), T.hd⟩
theorem XcK.ex (T : XcK K C bm newId f) (ht : PySem.W.excTail bmB bm = true) (hb : bmB.contains (.type "BaseException") = true) (ho : bmB.contains (.type "object") = true)
    (sp : PySem.W.specialIn K (.builtin "object.__class__") "__get__" = some (some (.builtin "getset_descriptor.__get__"))) (tk : PySem.W.takesIn K (.builtin "object.__class__") = some true) : ExcC K C :=
  ⟨T.ga, T.gg, (sub_cls T.cls _).trans (by rw [tail_has ht _ hb]), T.hd, T.ca, sp, tk, (sub_cls T.cls (.type "object")).trans (by rw [tail_has ht _ ho])⟩
end
theorem oexV {K : PySem.W.Frag} {C CP : Addr} {f : Str} (h : XcK K C (.ref CP :: XC.tlV) "ValueError.__new__" f) : OexG K C := h.oex XC.basV (by show PySem.W.excTail XC.tlV XC.tlV = true; decide +kernel) (by decide +kernel)
theorem oexK {K : PySem.W.Frag} {C : Addr} {f : Str} (h : XcK K C XC.tlK "LookupError.__new__" f) : OexG K C := h.oex XC.basK (by decide +kernel) (by decide +kernel)

/-! ### Program.places, cases -/
abbrev sPPla : Stmt := inClass (topS 63) 17
abbrev NPPla : List Str := ["self", "name", "function", "params", "block", "one", "by_place"]
abbrev PPPla : List Str := ["self", "name"]
theorem scPPla : FnScope NPPla PPPla (defScope sPPla) := ⟨rfl, rfl, rfl, by decide +kernel, rfl, by decide +kernel, by decide +kernel⟩
abbrev sPCas : Stmt := inClass (topS 63) 18
abbrev NPCas : List Str := ["self", "name", "found", "word", "longer", "case", "earlier", "at", "one"]
abbrev PPCas : List Str := ["self", "name"]
theorem scPCas : FnScope NPCas PPCas (defScope sPCas) := ⟨rfl, rfl, rfl, by decide +kernel, rfl, by decide +kernel, by decide +kernel⟩
def plF (f : Fn) : List Str := (f.ps.filter Prod.snd).map Prod.fst
/-- the words of the case that are their place's own, of the first i places -/
def erN (pl cs : List Str) : Nat → List Str
  | 0 => []
  | i + 1 => erN pl cs i ++ if cs.getD i "" = pl.getD i "" then [pl.getD i ""] else []
def ext (gl pl : List Str) (j : Nat) (cs : List Str) : List (List Str) := (gl ++ (erN pl cs j ++ [pl.getD j ""])).map fun o => cs ++ [o]
def csT (gl pl : List Str) : Nat → List (List Str)
  | 0 => [[]]
  | j + 1 => (csT gl pl j).flatMap (ext gl pl j)
theorem erN_len {pl cs : List Str} : ∀ i, (erN pl cs i).length ≤ i
  | 0 => Nat.le_refl _
  | i + 1 => by
    have := erN_len (pl := pl) (cs := cs) i
    unfold erN
    rw [List.length_append]
    split <;> simp only [List.length_cons, List.length_nil] <;> omega
theorem ext_len {gl pl : List Str} {j : Nat} {cs : List Str} : (ext gl pl j cs).length ≤ gl.length + j + 1 := by
  have := erN_len (pl := pl) (cs := cs) j
  unfold ext
  rw [List.length_map, List.length_append, List.length_append]
  show _ + (_ + 1) ≤ _
  omega
theorem csT_mem {gl pl : List Str} : ∀ {j : Nat} {cs : List Str}, cs ∈ csT gl pl j → cs.length = j
  | 0, cs, h => by rw [List.mem_singleton.mp h]; rfl
  | j + 1, cs, h => by
    obtain ⟨c0, h0, h1⟩ := List.mem_flatMap.mp h
    obtain ⟨o, _, rfl⟩ := List.mem_map.mp h1
    rw [List.length_append, csT_mem h0]
    rfl
theorem flat_mul {α β : Type} {f : α → List β} {c : Nat} : ∀ {l : List α}, (∀ x ∈ l, (f x).length ≤ c) → (l.flatMap f).length ≤ l.length * c
  | [], _ => Nat.zero_le _
  | x :: r, h => by
    have h1 := h x List.mem_cons_self
    have h2 := flat_mul (l := r) fun y hy => h y (List.mem_cons_of_mem _ hy)
    rw [List.flatMap_cons, List.length_append, List.length_cons, Nat.succ_mul]
    omega
theorem csT_step {gl pl : List Str} {j : Nat} : (csT gl pl (j + 1)).length ≤ (csT gl pl j).length * (gl.length + j + 1) := flat_mul fun _ _ => ext_len
theorem csT_sz {gl pl : List Str} {j : Nat} (hg : gl.length ≤ 2) (hj : j ≤ 2) : (csT gl pl j).length ≤ 12 := by
  have s0 : (csT gl pl 0).length = 1 := rfl
  have s1 : (csT gl pl 1).length ≤ 3 := by
    have : (csT gl pl 1).length ≤ (csT gl pl 0).length * (gl.length + 0 + 1) := csT_step
    rw [s0, Nat.one_mul] at this
    omega
  have s2 : (csT gl pl 2).length ≤ 12 := by
    have h : (csT gl pl 2).length ≤ (csT gl pl 1).length * (gl.length + 1 + 1) := csT_step
    have h2 : (csT gl pl 1).length * (gl.length + 1 + 1) ≤ 3 * 4 := Nat.mul_le_mul s1 (by omega)
    omega
  match j, hj with
  | 0, _ => omega
  | 1, _ => omega
  | 2, _ => exact s2
def CsAt (K : PySem.W.Frag) (H : Hp) (x : V) (cs : List Str) : Prop := ∃ b, x = V.ref b ∧ SqT K H b (cs.map V.str)
theorem CsAt.tps {K : PySem.W.Frag} {H H' : Hp} {x : V} {cs : List Str} (s : Tps H H') (h : CsAt K H x cs) : CsAt K H' x cs := let ⟨b, e, q⟩ := h; ⟨b, e, s.sqt q⟩
def spPla (K : PySem.W.Frag) (C : Addr) : Sp := fun vs H Q _ => ∃ (a : Addr) (t : Tr) (f : Fn), vs = [.ref a, .str f.name] ∧ PrgAt K C H a t ∧ (t.fns.map Fn.name).Nodup ∧ f ∈ t.fns ∧ f.ps.length ≤ 900 ∧ ∀ (q : Addr) (H' : Hp), Same H H' → H q = none → H' q = some (.lst ((plF f).map V.str)) → Q (.ref q) H'
def spCas (K : PySem.W.Frag) (C : Addr) : Sp := fun vs H Q _ => ∃ (a : Addr) (t : Tr) (f : Fn), vs = [.ref a, .str f.name] ∧ PrgAt K C H a t ∧ (t.fns.map Fn.name).Nodup ∧ f ∈ t.fns ∧ f.ps.length ≤ 900 ∧ t.names.length ≤ 2 ∧ (plF f).length ≤ 2 ∧
  ∀ (q : Addr) (xs : List V) (H' : Hp), Same H H' → H q = none → H' q = some (.lst xs) → Paired (CsAt K H') xs (csT t.names (plF f) (plF f).length) → Q (.ref q) H'
section
variable {P : Program} {w : World} {K : PySem.W.Frag} {mg : Str → Option Value} {base : Heap} {C : Addr}
theorem ok_PPla {f : Addr} {fd : FuncData} (F : Fun K "places" "Program.places" sPPla f fd) (GG : HasS P w K mg base CX0 1 C PPGet (spGetV K C)) : FnOk P w K mg base CX0 3 f fd PPPla (spPla K C) := by
  refine F.ok scPPla (fun vs H Q E h => ?_) (fun cdv A outer s H vs Q E hr h => ?_)
  · obtain ⟨a, t, g, rfl, _⟩ := h
    rfl
  · obtain ⟨a, t, g, rfl, pr, nd, mg, l9, k⟩ := h
    obtain ⟨dx, pv0, gl, e1, e2, e3⟩ := id pr
    refine ⟨_, (pss_cons (ps_asg (pe_subO (E := fun _ => E0) (pv 0) (pv 1) GG hr (fun _ => pass0S)) (pg_tup (by rfl) (pgs_cons (pg_name (i := 2) scPPla.nd rfl (Or.inl rfl)) (pgs_cons (pg_name (i := 3) scPPla.nd rfl (Or.inl rfl)) (pgs_cons (pg_name (i := 4) scPPla.nd rfl (Or.inl rfl)) pgs_nil)))))
  (pss_one (ps_ret (pe_lc (own := [("one", 5), ("by_place", 6)]) (g := gTup K 2 (gCons (gName 5) (gCons (gName 6) gNil))) rfl scPPla.nd (pi_tup (pv 3)) (blkOk_by (own := [("one", 5), ("by_place", 6)]) (N := NPPla) (sc := (defScope sPPla)) (by decide +kernel)) (fun _ _ _ _ _ => (pg_tup (by rfl) (pgs_cons (pg_name (i := 5) scPPla.nd rfl (Or.inl rfl)) (pgs_cons (pg_name (i := 6) scPPla.nd rfl (Or.inl rfl)) pgs_nil)))) (fun _ _ _ _ _ => (pts_one (pt_val (pv 6)))) (fun _ _ _ _ _ => (pv 5)))))), ?_⟩
    refine ⟨_, rfl, _, rfl, a, dx, _, rfl, e1, a, t, g, rfl, pr, nd, mg, fun vf dvf => ?_⟩
    have dvf' : Dp K H vf (.tuple [.str g.name, .tuple (g.ps.map prD), blD g.b]) := dvf
    obtain ⟨fa, fs, rfl, hfa, hfd⟩ := dvf'.tupInv
    obtain ⟨x1, x2, x3, rfl, h1, h2, h3⟩ := hfd.three
    obtain ⟨p, ps, rfl, hp, hpd⟩ := h2.tupInv
    have pp := DpAll.map hpd
    have lp : ps.length = g.ps.length := Paired.length pp
    refine ⟨fa, _, rfl, hfa, rfl, _, _, rfl, _, _, rfl, _, _, rfl, rfl, ?_⟩
    refine ⟨_, rfl, p, rfl, ⟨_, hp⟩, fun D hD => ?_⟩
    refine lc_tup (K := K) (a := p) (xs := ps) (fun i H' => Same H H' ∧ H' D = some (.lst ((((g.ps.take i).filter Prod.snd).map Prod.fst).map V.str))) ⟨same_new hD, upd_same⟩ (fun i H' _ h' => SqT.same h'.1 hp) ?_ ?_
    · rintro i z H2 hz ⟨s2, eD⟩
      obtain ⟨q, ht, htd⟩ := Paired.at pp hz
      have htd : Dp K H z (.tuple [.str q.1, .bool q.2]) := htd
      obtain ⟨c, zs, rfl, hc, hcd⟩ := htd.tupInv
      obtain ⟨u, w, rfl, hu, hw⟩ := hcd.two
      rw [hu.strInv, Dp.blInv hw] at hc
      have hi : i < ps.length := (List.getElem?_eq_some_iff.mp hz).1
      have lf : ((g.ps.take i).filter Prod.snd).length ≤ 900 := Nat.le_trans (List.length_filter_le _ _) (by rw [List.length_take]; omega)
      have st : (g.ps.take (i + 1)).filter Prod.snd = (g.ps.take i).filter Prod.snd ++ if q.2 = true then [q] else [] := by
        rw [take_snoc ht, List.filter_append, List.filter_cons]
        split <;> rfl
      refine ⟨c, _, rfl, SqT.same s2 hc, rfl, _, _, rfl, _, _, rfl, rfl, rfl, _, rfl, q.2, rfl, ?_⟩
      cases hb : q.2 with
      | true =>
        rw [hb, if_pos rfl] at st
        refine iteT ⟨_, rfl, _, eD, small1000 (by rw [List.length_map, List.length_map]; omega), fun c o z => ?_, ?_⟩
        · rw [upd_ne (ne_of_none z hD)]
          exact s2 _ _ z
        · rw [upd_same, st, List.map_append, List.map_append]
          rfl
      | false =>
        rw [hb, if_neg (by decide), List.append_nil] at st
        exact iteF ⟨s2, by rw [st]; exact eD⟩
    · rintro H2 ⟨s2, eD⟩
      rw [lp, List.take_length] at eD
      exact k D H2 s2 hD eD
end

/-! ### Program.cases -/
theorem take_at {α : Type} {l : List α} {i j : Nat} (h : i < j) : (l.take j)[i]? = l[i]? := by rw [List.getElem?_take, if_pos h]
theorem getD_at {l : List Str} {i : Nat} {z : Str} (h : l[i]? = some z) : l.getD i "" = z := by rw [List.getD_eq_getElem?_getD, h]; rfl
section
variable {P : Program} {w : World} {K : PySem.W.Frag} {mg : Str → Option Value} {base : Heap} {C : Addr}
theorem Paired.appendP {α β : Type} {F : α → β → Prop} : ∀ {l₁ : List α} {l₂ : List β} {m₁ : List α} {m₂ : List β}, Paired F l₁ l₂ → Paired F m₁ m₂ → Paired F (l₁ ++ m₁) (l₂ ++ m₂)
  | _, _, _, _, .nil, h => h
  | _, _, _, _, .cons r t, h => .cons r (Paired.appendP t h)
structure TxCas (mg : Str → Option Value) : Prop where
  n_enumerate : mg "enumerate" = none
  n_len : mg "len" = none
theorem ok_PCas {f : Addr} {fd : FuncData} (F : Fun K "cases" "Program.cases" sPCas f fd) (T : TxCas mg) (TC : TxPrg K C) (GP : HasM P w K mg base CX0 3 C "places" PPPla (spPla K C)) : FnOk P w K mg base CX0 4 f fd PPCas (spCas K C) := by
  refine F.ok scPCas (fun vs H Q E h => ?_) (fun cdv A outer s H vs Q E hr h => ?_)
  · obtain ⟨a, t, g, rfl, _⟩ := h
    rfl
  · obtain ⟨a, t, g, rfl, pr, nd, mg, l9, lN, lP, k⟩ := h
    obtain ⟨dx, pv0, gl, e1, e2, e3⟩ := id pr
    refine ⟨_, (pss_cons (ps_set (i := 2) scPCas.nd rfl (Or.inl rfl) (pe_lst (pa_cons (pe_tup pa_nil) pa_nil)))
  (pss_cons (ps_for PassesOwn.never rfl (pi_list (pe_methH (pv 0) TC.cl GP hr pass0 (pa_cons (pv 1) pa_nil))) (pg_name (i := 3) scPCas.nd rfl (Or.inl rfl))
  (pss_cons (ps_set (i := 4) scPCas.nd rfl (Or.inl rfl) (pe_lst pa_nil))
  (pss_cons (ps_for PassesOwn.never rfl (pi_list (pv 2)) (pg_name (i := 5) scPCas.nd rfl (Or.inr rfl))
  (pss_cons (ps_setLc (i := 6) (own := [("at", 7), ("one", 8)]) (g := gTup K 2 (gCons (gName 7) (gCons (gName 8) gNil))) rfl scPCas.nd rfl rfl (sw_true rfl rfl rfl (by decide +kernel)) (pi_enum (by rfl) T.n_enumerate (pa_cons (pe_slice sl_list (pe_methH (pv 0) TC.cl GP hr pass0 (pa_cons (pv 1) pa_nil)) po_none (po_some (pe_callB call_len_seq (by rfl) T.n_len bb_len (pa_cons (pv 5) pa_nil)))) pa_nil)) (blkOk_by (own := [("at", 7), ("one", 8)]) (N := NPCas) (sc := (defScope sPCas)) (by decide +kernel)) (fun _ _ _ _ _ => (pg_tup (by rfl) (pgs_cons (pg_name (i := 7) scPCas.nd rfl (Or.inl rfl)) (pgs_cons (pg_name (i := 8) scPCas.nd rfl (Or.inl rfl)) pgs_nil)))) (fun _ _ _ _ _ => (pts_one (pt_cmpR (r := rEq) op_eq (pe_ix (r := rIxT K) ix_tup (pv 5) (pv 7) (fun _ _ => rfl)) (pv 8) (nomark _)))) (fun _ _ _ _ _ => (pv 8)))
  (pss_one (ps_expr (pe_bm PySem.F.plainAttrs_list PySem.F.slot_list_extend PySem.F.type_list_extend mt_extend (pv 4) (pa_cons (pe_lc (own := [("one", 8)]) (g := gName 8) (tt := tYes) rfl scPCas.nd (pi_list (pe_lst (StX.pa_star (pe_fld (pv 0) rfl) (StX.pa_star (pv 6) (pa_cons (pv 3) pa_nil))))) (blkOk_by (own := [("one", 8)]) (N := NPCas) (sc := (defScope sPCas)) (by decide +kernel)) (fun _ _ _ _ _ => (pg_name (i := 8) scPCas.nd rfl (Or.inl rfl))) (fun _ _ _ _ _ => pts_nil) (fun _ _ _ _ _ => (show PE _ _ (tTup (StX.tStar K (tVar 5) (tCons (tVar 8) tNil))) from (pe_tup (StX.pa_star (pv 5) (pa_cons (pv 8) pa_nil)))))) pa_nil))))))
  (pss_one (ps_set (i := 2) scPCas.nd rfl (Or.inl rfl) (pv 4))))))
  (pss_one (ps_ret (pv 2))))), ?_⟩
    obtain ⟨ga, gs, rfl, hg, hgd⟩ := e3.tupInv
    have egs : gs = t.names.map V.str := dp_strs hgd
    subst egs
    obtain ⟨pl, hpl⟩ : ∃ pl, pl = plF g := ⟨_, rfl⟩
    rw [← hpl] at lP k
    refine ⟨(by show 0 ≤ sizeLine; decide), fun z hz => ?_⟩
    have s1 := same_new (o := .tup []) hz
    refine ⟨(by show 1 ≤ sizeLine; decide), fun f0 hf0 => ?_⟩
    have s2 := s1.trans (same_new (o := .lst [V.ref z]) hf0)
    have ez : SqT K (upd (upd H z (.tup [])) f0 (.lst [V.ref z])) z (([] : List Str).map V.str) := SqT.of ((same_new hf0) _ _ upd_same)
    have ef0 : upd (upd H z (.tup [])) f0 (.lst [V.ref z]) f0 = some (.lst [V.ref z]) := upd_same
    have nf0 := none_same s1 hf0
    generalize upd (upd H z (.tup [])) f0 (.lst [V.ref z]) = H2 at *
    refine ⟨_, rfl, a, dx, _, rfl, s2 _ _ e1, rfl, _, rfl, a, t, g, rfl, pr.same s2, nd, mg, l9, fun q H3 s3 nq eq => ?_⟩
    rw [← hpl] at eq
    have s03 := s2.trans s3
    refine ⟨q, rfl, ⟨_, SqL.of eq⟩, ?_⟩
    refine for_list (K := K) (a := q) (xs := pl.map V.str) (fun j σ H' => Same H H' ∧ H' q = some (.lst (pl.map V.str)) ∧ ∃ (fo : Addr) (xs : List V) (x3 x4 x5 x6 : Option V), σ = [some (.ref a), some (.str g.name), some (.ref fo), x3, x4, x5, x6, none, none] ∧ H fo = none ∧ H' fo = some (.lst xs) ∧ Paired (CsAt K H') xs (csT t.names pl j)) ⟨s03, eq, f0, _, _, _, _, _, rfl, nf0, s3 _ _ ef0, .cons ⟨z, rfl, SqT.same s3 ez⟩ .nil⟩ (fun j σ H' _ h' => SqL.of h'.2.1) ?_ ?_
    · rintro j x σ H4 hx ⟨s4, eq4, fo, xs, x3, x4, x5, x6, rfl, nfo, efo, pxs⟩
      have hj : j < pl.length := by have := (List.getElem?_eq_some_iff.mp hx).1; rwa [List.length_map] at this
      obtain ⟨wd, hwd⟩ : ∃ wd, pl[j]? = some wd := ⟨_, List.getElem?_eq_getElem hj⟩
      rw [List.getElem?_map, hwd] at hx
      cases hx
      have lxs : xs.length = (csT t.names pl j).length := Paired.length pxs
      have sz := csT_sz (pl := pl) lN (show j ≤ 2 by omega)
      have sz2 := csT_sz (pl := pl) lN (show j + 1 ≤ 2 by omega)
      refine ⟨(by show 0 ≤ sizeLine; decide), fun lo hlo => ?_⟩
      have s5 := same_new (o := .lst []) hlo
      have nlo := none_same s4 hlo
      have qlo : q ≠ lo := ne_of_none eq4 hlo
      have flo : fo ≠ lo := ne_of_none efo hlo
      refine ⟨_, rfl, fo, rfl, ⟨_, SqL.of (s5 _ _ efo)⟩, ?_⟩
      refine for_list (K := K) (a := fo) (xs := xs) (fun i σ H' => Same H H' ∧ H' q = some (.lst (pl.map V.str)) ∧ H' fo = some (.lst xs) ∧ (∃ (x5 x6 : Option V), σ = [some (.ref a), some (.str g.name), some (.ref fo), some (.str wd), some (.ref lo), x5, x6, none, none]) ∧ Paired (CsAt K H') xs (csT t.names pl j) ∧ ∃ ys, H' lo = some (.lst ys) ∧ Paired (CsAt K H') ys (((csT t.names pl j).take i).flatMap (ext t.names pl j))) ⟨s4.trans s5, s5 _ _ eq4, s5 _ _ efo, ⟨_, _, rfl⟩, Paired.mapP pxs fun _ _ z => z.tps (Tps.of s5), [], upd_same, .nil⟩ (fun i σ H' _ h' => SqL.of h'.2.2.1) ?_ ?_
      · rintro i x σ H6 hx ⟨s6, eq6, efo6, ⟨x5, x6, rfl⟩, pxs6, ys, eys, pys⟩
        obtain ⟨cs, hcs, b, rfl, hb⟩ := Paired.at pxs6 hx
        have lcs := csT_mem (List.mem_of_getElem? hcs)
        -- earlier
        refine ⟨_, rfl, a, dx, _, rfl, s6 _ _ e1, rfl, _, rfl, a, t, g, rfl, pr.same s6, nd, mg, l9, fun q2 H7 s7 nq2 eq2 => ?_⟩
        rw [← hpl] at eq2
        have s07 := s6.trans s7
        refine ⟨_, rfl, b, _, rfl, .inr (SqT.same s7 hb), _, rfl, q2, _, rfl, SqL.of eq2, fun q3 hq3 => ?_⟩
        have ecut : cutV (pl.map V.str) none (some (((cs.map V.str).length : Nat) : Int)) = (pl.take j).map V.str := by rw [cut_take, List.length_map, lcs, List.map_take]
        rw [ecut]
        have s8 := same_new (o := .lst ((pl.take j).map V.str)) hq3
        have s08 := s07.trans s8
        have eq3 : upd H7 q3 (.lst ((pl.take j).map V.str)) q3 = some (.lst ((pl.take j).map V.str)) := upd_same
        have hb8 := SqT.same (s7.trans s8) hb
        have s68 := s7.trans s8
        have ltj : (pl.take j).length = j := by rw [List.length_take]; omega
        generalize upd H7 q3 (.lst ((pl.take j).map V.str)) = H8 at *
        refine ⟨q3, _, rfl, SqL.of eq3, fun D hD => ?_⟩
        refine lc_it (walk_enum (K := K) (a := q3) (xs := (pl.take j).map V.str)) (fun i H' => Same H8 H' ∧ H' D = some (.lst ((erN pl cs i).map V.str))) ⟨same_new hD, upd_same⟩ (fun i H' _ h' => SqL.of (h'.1 _ _ eq3)) ?_ ?_
        · rintro i2 v H9 H10 hi2 ⟨s9, eD⟩ ⟨T', u, z, rfl, hT, rfl, hu, hz⟩
          cases hu
          rw [List.length_map, ltj] at hi2
          have hz : ((pl.take j).map V.str)[i2]? = some z := hz
          obtain ⟨w2, hw2⟩ : ∃ w2, pl[i2]? = some w2 := ⟨_, List.getElem?_eq_getElem (by omega)⟩
          obtain ⟨c2, hc2⟩ : ∃ c2, cs[i2]? = some c2 := ⟨_, List.getElem?_eq_getElem (by omega)⟩
          rw [List.getElem?_map, take_at hi2, hw2] at hz
          cases hz
          have s10 := same_new (o := .tup [.int ((i2 : Nat) : Int), .str w2]) hT
          have st : erN pl cs (i2 + 1) = erN pl cs i2 ++ if c2 = w2 then [w2] else [] := by
            show erN pl cs i2 ++ (if cs.getD i2 "" = pl.getD i2 "" then [pl.getD i2 ""] else []) = _
            rw [getD_at hw2, getD_at hc2]
          have len2 := erN_len (pl := pl) (cs := cs) i2
          have ac : atI (cs.map V.str) ((i2 : Nat) : Int) = some (.str c2) := atI_nat (by rw [List.getElem?_map, hc2]; rfl)
          refine ⟨T', _, rfl, SqT.of upd_same, rfl, _, _, rfl, _, _, rfl, rfl, rfl, _, rfl, _, rfl, b, _, _, _, rfl, rfl, SqT.same (s9.trans s10) hb8, ac, _, rfl, rfl, _, rfl, ite2 (fun he => ?_) (fun he => ?_)⟩
          · have ew : c2 = w2 := by have := of_decide_eq_true he; injection this
            rw [if_pos ew] at st
            refine ⟨_, rfl, _, s10 _ _ eD, small1000 (by rw [List.length_map]; omega), fun b o e => ?_, ?_⟩
            · rw [upd_ne (ne_of_none e hD)]
              exact s10 b o (s9 b o e)
            · rw [upd_same, st, List.map_append]
              rfl
          · have ew : c2 ≠ w2 := fun q => he (decide_eq_true (by rw [q]))
            rw [if_neg ew, List.append_nil] at st
            refine ⟨s9.trans s10, ?_⟩
            rw [st]
            exact s10 _ _ eD
        · rintro H9 ⟨s9, eD⟩
          rw [List.length_map, ltj] at eD
          have s09 := s08.trans s9
          have s69 := s68.trans s9
          refine ⟨_, rfl, .inl ⟨rfl, _, .inl (.inl (s69 _ _ eys))⟩, ?_⟩
          obtain ⟨wl, ewl⟩ : ∃ wl, wl = t.names ++ (erN pl cs j ++ [wd]) := ⟨_, rfl⟩
          have len3 := erN_len (pl := pl) (cs := cs) j
          have lwl : wl.length ≤ 5 := by
            rw [ewl, List.length_append, List.length_append]
            show _ + (_ + 1) ≤ 5
            omega
          have eds : t.names.map V.str ++ ((erN pl cs j).map V.str ++ [V.str wd]) = wl.map V.str := by rw [ewl, List.map_append, List.map_append]; rfl
          have eext : ext t.names pl j cs = wl.map fun o => cs ++ [o] := by
            unfold ext
            rw [ewl, getD_at hwd]
          refine ⟨_, rfl, a, C, dx, _, _, rfl, s09 _ _ e1, TC.cl, TC.nG, rfl, ga, _, rfl, .inl (SqT.same s09 hg), _, rfl, D, _, rfl, .inr (SqL.of eD), _, rfl, ?_⟩
          refine ⟨(by
            show (t.names.map V.str ++ ((erN pl cs j).map V.str ++ [V.str wd])).length ≤ sizeLine
            rw [eds, List.length_map]
            exact Nat.le_of_lt (small1000 (by omega))), fun l hlq => ?_⟩
          have s10 := same_new (o := .lst (t.names.map V.str ++ ((erN pl cs j).map V.str ++ [V.str wd]))) hlq
          have eL : upd H9 l (.lst (t.names.map V.str ++ ((erN pl cs j).map V.str ++ [V.str wd]))) l = some (.lst (wl.map V.str)) := by rw [upd_same, eds]
          generalize upd H9 l (.lst (t.names.map V.str ++ ((erN pl cs j).map V.str ++ [V.str wd]))) = H10 at *
          refine ⟨l, rfl, ⟨_, SqL.of eL⟩, fun D2 hD2 => ?_⟩
          have s610 := s69.trans s10
          have hb10 := SqT.same (s9.trans s10) hb8
          refine lc_list (K := K) (a := l) (xs := wl.map V.str) (fun i H' => Same H10 H' ∧ ∃ zs, H' D2 = some (.lst zs) ∧ Paired (CsAt K H') zs ((wl.take i).map fun o => cs ++ [o])) ⟨same_new hD2, [], upd_same, .nil⟩ (fun i H' _ h' => SqL.of (h'.1 _ _ eL)) ?_ ?_
          · rintro i3 x H11 hx3 ⟨s11, zs, eD2, pz⟩
            obtain ⟨o3, ho3⟩ : ∃ o3, wl[i3]? = some o3 := by
              have := (List.getElem?_eq_some_iff.mp hx3).1
              rw [List.length_map] at this
              exact ⟨_, List.getElem?_eq_getElem this⟩
            rw [List.getElem?_map, ho3] at hx3
            cases hx3
            have lz := Paired.length pz
            rw [List.length_map, List.length_take] at lz
            refine ⟨rfl, _, rfl, b, _, rfl, .inl (SqT.same s11 hb10), _, rfl, Nat.le_of_lt (small1000 (by rw [List.length_append, List.length_map]; show _ + 1 ≤ 1000; omega)), fun T hT => ?_⟩
            have s12 := same_new (o := .tup (cs.map V.str ++ [V.str o3])) hT
            refine ⟨_, s12 _ _ eD2, small1000 (by omega), fun b o e => ?_, zs ++ [.ref T], upd_same, ?_⟩
            · rw [upd_ne (ne_of_none e hD2)]
              exact s12 b o (s11 b o e)
            · have tq := Tps.lst (q := D2) (o := .lst (zs ++ [V.ref T])) (s12 _ _ eD2)
              rw [take_snoc ho3, List.map_append]
              exact Paired.snoc (Paired.mapP pz fun _ _ z => z.tps ((Tps.of s12).trans tq)) ⟨T, rfl, tq.sqt (SqT.of (by rw [upd_same, List.map_append]; rfl))⟩
          · rintro H11 ⟨s11, zs, eD2, pz⟩
            rw [List.length_map, List.take_length, ← eext] at pz
            have s611 := s610.trans s11
            have ly := Paired.length pys
            have lz := Paired.length pz
            have fl := flat_len (f := ext t.names pl j) (l := csT t.names pl j) i
            have ex := ext_len (gl := t.names) (pl := pl) (j := j) (cs := cs)
            have e2 : (csT t.names pl (j + 1)).length = ((csT t.names pl j).flatMap (ext t.names pl j)).length := rfl
            refine ⟨lo, D2, _, _, rfl, rfl, s611 _ _ eys, eD2, Nat.le_of_lt (small1000 (by omega)), ?_⟩
            have tq := Tps.lst (q := lo) (o := .lst (ys ++ zs)) (s611 _ _ eys)
            have t6 := (Tps.of s611).trans tq
            refine ⟨fun b o e => ?_, ?_, ?_, ⟨_, _, rfl⟩, Paired.mapP pxs6 fun _ _ z => z.tps t6, ys ++ zs, upd_same, ?_⟩
            · rw [upd_ne (ne_of_none e nlo)]
              exact s611 b o (s6 b o e)
            · rw [upd_ne qlo]
              exact s611 _ _ eq6
            · rw [upd_ne flo]
              exact s611 _ _ efo6
            · rw [flat_snoc hcs]
              exact Paired.appendP (Paired.mapP pys fun _ _ z => z.tps t6) (Paired.mapP pz fun _ _ z => z.tps tq)
      · rintro σ H6 ⟨s6, eq6, efo6, ⟨x5, x6, rfl⟩, pxs6, ys, eys, pys⟩
        rw [lxs, List.take_length] at pys
        exact ⟨_, rfl, s6, eq6, lo, ys, _, _, _, _, rfl, nlo, eys, pys⟩
    · rintro σ H4 ⟨s4, eq4, fo, xs, x3, x4, x5, x6, rfl, nfo, efo, pxs⟩
      rw [List.length_map] at pxs
      rw [hpl] at pxs k
      exact ⟨_, rfl, k fo xs H4 s4 nfo efo pxs⟩
end

/-! ### zip(a, b, strict=True): the rule, for lists and tuples -/
section
variable {prog : Program} {w : World} {A : Around} {E : Value → Shared → Prop} {s : Shared}
/-- one of the two iterators under a zip: what it walks, where it stands -/
structure ZSrc (prog : Program) (w : World) (it src : Addr) (vs : Array Value) (S : Nat → Heap → Prop) : Prop where
  item : ∀ {A : Around} {E : Value → Shared → Prop} {s : Shared} {i : Nat} {x : Value} {Q : Value → Shared → Prop}, S i s.heap → vs[i]? = some x → (∀ h', S (i + 1) h' → Heap.SameBut it s.heap h' → Q x { s with heap := h' }) → wpAny (model prog w) A (Builtin.SmallTypes.nextOf (.ref it)) Q E s
  stop : ∀ {A : Around} {E : Value → Shared → Prop} {s : Shared} {i : Nat} {Q : Value → Shared → Prop}, A.handled = none → S i s.heap → vs[i]? = none →
    (∀ h' e, Heap.ExtBut it s.heap h' → (∃ o, h'.get? e = some o ∧ o.cls = .type "StopIteration") → E (.ref e) { s with heap := h' }) → wpAny (model prog w) A (Builtin.SmallTypes.nextOf (.ref it)) Q E s
  ext : ∀ {i : Nat} {h h' : Heap}, S i h → (∀ b, b = it ∨ b = src → ∀ o, h.get? b = some o → h'.get? b = some o) → S i h'
def zsT (it src : Addr) (vs : Array Value) (i : Nat) (h : Heap) : Prop := h.IsTupleIter it src i ∧ h.IsTuple src vs
def zsL (it src : Addr) (vs : Array Value) (i : Nat) (h : Heap) : Prop := h.IsListIter it src i ∧ h.IsList src vs
theorem zsrc_T {it src : Addr} {vs : Array Value} (ne : src ≠ it) : ZSrc prog w it src vs (zsT it src vs) where
  item := fun st hx k => RZ.nextOf_tuple_item st.1 st.2 hx fun h' q sb => k h' ⟨q, st.2.extBut sb.extBut ne⟩ sb
  stop := fun hh st hx k => RZ.nextOf_tuple_end hh st.1 st.2 hx k
  ext := fun st k => ⟨st.1.at fun o q => k _ (.inl rfl) o q, let ⟨o, ho, r⟩ := st.2; ⟨o, k _ (.inr rfl) o ho, r⟩⟩
theorem zsrc_L {it src : Addr} {vs : Array Value} (ne : src ≠ it) : ZSrc prog w it src vs (zsL it src vs) where
  item := fun st hx k => wpAny_nextOf_list_item st.1 st.2 hx fun h' q sb => k h' ⟨q, st.2.extBut sb.extBut ne⟩ sb
  stop := fun hh st hx k => wpAny_nextOf_list_end hh st.1 st.2 hx k
  ext := fun st k => ⟨st.1.at fun o q => k _ (.inl rfl) o q, let ⟨o, ho, r⟩ := st.2; ⟨o, k _ (.inr rfl) o ho, r⟩⟩
/-- the strict zip's own object -/
def ZipS (h : Heap) (z TI TO : Addr) (f0 : Value) : Prop := h.get? z = some { cls := .type "zip", dict := none, data := .fields #[f0, .bool false, .bool true, .ref TI, .ref TO], slots := #[] }
theorem draw_item {it src : Addr} {vs : Array Value} {S : Nat → Heap → Prop} (Z : ZSrc prog w it src vs S) {i : Nat} {x : Value} {Q : Option Value → Shared → Prop} (st : S i s.heap) (hx : vs[i]? = some x)
    (k : ∀ h', S (i + 1) h' → Heap.SameBut it s.heap h' → Q (some x) { s with heap := h' }) : wpAny (model prog w) A (Builtin.SmallTypes.nextOrEnd (.ref it)) Q E s := by
  unfold Builtin.SmallTypes.nextOrEnd
  exact wpAny_bind (wpAny_attempt (Z.item st hx fun h' q sb => wpAny_pure (k h' q sb)))
theorem draw_stop {it src : Addr} {vs : Array Value} {S : Nat → Heap → Prop} (Z : ZSrc prog w it src vs S) {i : Nat} {Q : Option Value → Shared → Prop} (hh : A.handled = none) (st : S i s.heap) (hx : vs[i]? = none)
    (k : ∀ h', Heap.ExtBut it s.heap h' → Q none { s with heap := h' }) : wpAny (model prog w) A (Builtin.SmallTypes.nextOrEnd (.ref it)) Q E s := by
  unfold Builtin.SmallTypes.nextOrEnd
  refine wpAny_bind (wpAny_attempt (Z.stop hh st hx fun h' e eb ⟨o, ho, hc⟩ => ?_))
  refine wpAny_bind (wpAny_isInstance (T := "StopIteration") (b := true) ⟨o, ho, hc⟩ isSubtype_stop ?_)
  exact wpAny_pure (k h' eb)
variable {z TI TO i1 i2 l1 l2 : Addr} {k1 k2 : Nat} {xs ys : Array Value} {x y a b : Value} {S1 S2 : Nat → Heap → Prop}
theorem zs_item {Q : Value → Shared → Prop} (D : ZipApart z TI TO i1 i2 l1 l2) (Z1 : ZSrc prog w i1 l1 xs S1) (Z2 : ZSrc prog w i2 l2 ys S2)
    (hz : ZipS s.heap z TI TO .none) (hTI : IsPair s.heap TI (.ref i1) (.ref i2)) (hTO : IsPair s.heap TO a b) (h1 : S1 k1 s.heap) (h2 : S2 k2 s.heap) (hx : xs[k1]? = some x) (hy : ys[k2]? = some y)
    (hQ : ∀ h', ZipS h' z TI TO (rawInt s.heap.objs.size) → IsPair h' TO x y → S1 (k1 + 1) h' → S2 (k2 + 1) h' → IsPair h' s.heap.objs.size x y → h'.objs.size = s.heap.objs.size + 1 →
      (∀ c o, c ≠ z → c ≠ TO → c ≠ i1 → c ≠ i2 → s.heap.get? c = some o → h'.get? c = some o) → Q (.ref s.heap.objs.size) { s with heap := h' }) :
    wpAny (model prog w) A (Builtin.«zip.__next__» ⟨[.ref z], []⟩) (fun fin s' => ∃ v, fin = .done (.ret v) ∧ Q v s') E s := by
  have two : ∀ {c it src : Addr} {h h' : Heap}, Heap.SameBut c h h' → it ≠ c → src ≠ c → ∀ b, b = it ∨ b = src → ∀ o, h.get? b = some o → h'.get? b = some o := fun {c it src h h'} sb n1 n2 b hb o q => by
    rcases hb with rfl | rfl
    · exact sb.extBut _ _ n1 q
    · exact sb.extBut _ _ n2 q
  show wpAny _ _ (field (.ref z) 2 >>= _) _ _ _
  refine wpAny_bind (wpAny_field hz rfl (x := .bool true) rfl ?_)
  show wpAny _ _ (field (.ref z) 3 >>= _) _ _ _
  refine wpAny_bind (wpAny_field hz rfl (x := .ref TI) rfl (wpAny_bind (wpAny_seqItems hTI rfl ?_)))
  show wpAny _ _ (Builtin.SmallTypes.ownedTupleIsFree (.ref z) >>= _) _ _ _
  refine wpAny_bind ?_
  unfold Builtin.SmallTypes.ownedTupleIsFree
  refine wpAny_bind (wpAny_field hz rfl (x := .none) rfl (wpAny_pure ?_))
  simp only [if_true]
  refine wpAny_bind (wpAny_rule (wpAny_bind (wpAny_field hz rfl (x := .ref TO) rfl ?_)))
  refine wpAny_bind (wpAny_setField_rec hz (by simp) fun g1 z1 b1 => ?_)
  replace z1 : ZipS g1 z TI TO .ellipsis := z1
  refine wpAny_bind ?_
  simp only [List.zipIdx_cons, List.zipIdx_nil, List.forIn_cons, List.forIn_nil]
  refine wpAny_bind (wpAny_bind (wpAny_onRaise ?_))
  show wpAny _ _ (Builtin.SmallTypes.nextOrEnd (.ref i1)) _ _ _
  refine draw_item Z1 (Z1.ext h1 (two b1 D.i1z D.l1z)) hx fun g2 q2 b2 => ?_
  have t2 : IsPair g2 TO a b := b2.extBut _ _ D.TOi1 (b1.extBut _ _ D.TOz hTO)
  refine wpAny_bind (wpAny_seqItems t2 rfl (wpAny_bind (wpAny_updateSeq_pair t2 fun g3 t3 b3 => ?_)))
  replace t3 : IsPair g3 TO x b := t3
  refine wpAny_bind (wpAny_letGo (wpAny_pure ?_))
  refine wpAny_bind (wpAny_bind (wpAny_onRaise ?_))
  show wpAny _ _ (Builtin.SmallTypes.nextOrEnd (.ref i2)) _ _ _
  refine draw_item Z2 (Z2.ext (Z2.ext (Z2.ext h2 (two b1 D.i2z D.l2z)) (two b2 D.i12.symm D.l2i1)) (two b3 D.TOi2.symm D.l2TO)) hy fun g4 q4 b4 => ?_
  have t4 : IsPair g4 TO x b := b4.extBut _ _ D.TOi2 t3
  refine wpAny_bind (wpAny_seqItems t4 rfl (wpAny_bind (wpAny_updateSeq_pair t4 fun g5 t5 b5 => ?_)))
  replace t5 : IsPair g5 TO x y := t5
  refine wpAny_bind (wpAny_letGo (wpAny_pure (wpAny_pure ?_)))
  refine wpAny_bind (wpAny_seqItems t5 rfl (wpAny_bind (wpAny_newTuple ?_)))
  have hsz : g5.objs.size = s.heap.objs.size := by rw [b5.1, b4.1, b3.1, b2.1, b1.1]
  have z5 : ZipS g5 z TI TO .ellipsis := b5.extBut _ _ D.TOz.symm (b4.extBut _ _ D.i2z.symm (b3.extBut _ _ D.TOz.symm (b2.extBut _ _ D.i1z.symm z1)))
  have k5 : ∀ c o, c ≠ z → c ≠ TO → c ≠ i1 → c ≠ i2 → s.heap.get? c = some o → g5.get? c = some o := fun c o c1 c2 c3 c4 e =>
    b5.extBut _ _ c2 (b4.extBut _ _ c4 (b3.extBut _ _ c2 (b2.extBut _ _ c3 (b1.extBut _ _ c1 e))))
  have p5 : S1 (k1 + 1) g5 := Z1.ext (Z1.ext (Z1.ext q2 (two b3 D.TOi1.symm D.l1TO)) (two b4 D.i12 D.l1i2)) (two b5 D.TOi1.symm D.l1TO)
  have r5 : S2 (k2 + 1) g5 := Z2.ext q4 (two b5 D.TOi2.symm D.l2TO)
  have zlt : z < g5.objs.size := Heap.lt_size z5
  show wpAny _ _ (Builtin.SmallTypes.ownedTupleHandOut (.ref z) (.ref g5.objs.size) >>= _) _ _ _
  refine wpAny_bind ?_
  unfold Builtin.SmallTypes.ownedTupleHandOut
  have z6 : ZipS (g5.push { cls := .type "tuple", data := .seq #[x, y] }) z TI TO .ellipsis := Heap.get?_push_of_some _ z5
  refine wpAny_bind (wpAny_setField_rec z6 (by simp) fun g7 z7 b7 => ?_)
  replace z7 : ZipS g7 z TI TO (rawInt g5.objs.size) := z7
  refine wpAny_setField_rec z7 (by simp) fun g8 z8 b8 => ?_
  replace z8 : ZipS g8 z TI TO (rawInt g5.objs.size) := z8
  have up : ∀ c o, c ≠ z → g5.get? c = some o → g8.get? c = some o := fun c o c1 e => b8.extBut _ _ c1 (b7.extBut _ _ c1 (Heap.get?_push_of_some _ e))
  have T8 : IsPair g8 g5.objs.size x y := b8.extBut _ _ (Nat.ne_of_gt zlt) (b7.extBut _ _ (Nat.ne_of_gt zlt) (Heap.get?_push_size _ rfl))
  have n8 : g8.objs.size = g5.objs.size + 1 := by rw [b8.1, b7.1, Heap.size_push]
  rw [hsz] at z8 T8 n8
  refine wpAny_pure ⟨_, rfl, ?_⟩
  show Q (.ref g5.objs.size) _
  rw [hsz]
  refine hQ g8 z8 (up _ _ D.TOz t5) (Z1.ext p5 fun c hc o q => ?_) (Z2.ext r5 fun c hc o q => ?_) T8 n8 fun c o c1 c2 c3 c4 e => up c o c1 (k5 c o c1 c2 c3 c4 e)
  · rcases hc with rfl | rfl
    · exact up _ _ D.i1z q
    · exact up _ _ D.l1z q
  · rcases hc with rfl | rfl
    · exact up _ _ D.i2z q
    · exact up _ _ D.l2z q
theorem zs_stop {Q : PySem.Fin → Shared → Prop} (hh : A.handled = none) (D : ZipApart z TI TO i1 i2 l1 l2) (Z1 : ZSrc prog w i1 l1 xs S1) (Z2 : ZSrc prog w i2 l2 ys S2)
    (hz : ZipS s.heap z TI TO .none) (hTI : IsPair s.heap TI (.ref i1) (.ref i2)) (hTO : IsPair s.heap TO a b) (h1 : S1 k1 s.heap) (h2 : S2 k2 s.heap) (hx : xs[k1]? = none) (hy : ys[k2]? = none)
    (hE : ∀ h' e, (∀ c o, c ≠ z → c ≠ TO → c ≠ i1 → c ≠ i2 → s.heap.get? c = some o → h'.get? c = some o) → (∃ o, h'.get? e = some o ∧ o.cls = .type "StopIteration") → E (.ref e) { s with heap := h' }) :
    wpAny (model prog w) A (Builtin.«zip.__next__» ⟨[.ref z], []⟩) Q E s := by
  show wpAny _ _ (field (.ref z) 2 >>= _) _ _ _
  refine wpAny_bind (wpAny_field hz rfl (x := .bool true) rfl ?_)
  show wpAny _ _ (field (.ref z) 3 >>= _) _ _ _
  refine wpAny_bind (wpAny_field hz rfl (x := .ref TI) rfl (wpAny_bind (wpAny_seqItems hTI rfl ?_)))
  show wpAny _ _ (Builtin.SmallTypes.ownedTupleIsFree (.ref z) >>= _) _ _ _
  refine wpAny_bind ?_
  unfold Builtin.SmallTypes.ownedTupleIsFree
  refine wpAny_bind (wpAny_field hz rfl (x := .none) rfl (wpAny_pure ?_))
  simp only [if_true]
  refine wpAny_bind (wpAny_rule (wpAny_bind (wpAny_field hz rfl (x := .ref TO) rfl ?_)))
  refine wpAny_bind (wpAny_setField_rec hz (by simp) fun g1 z1 b1 => ?_)
  replace z1 : ZipS g1 z TI TO .ellipsis := z1
  refine wpAny_bind ?_
  simp only [List.zipIdx_cons, List.zipIdx_nil, List.forIn_cons, List.forIn_nil]
  refine wpAny_bind (wpAny_bind (wpAny_onRaise ?_))
  show wpAny _ _ (Builtin.SmallTypes.nextOrEnd (.ref i1)) _ _ _
  refine draw_stop Z1 hh (Z1.ext h1 fun c hc o q => ?_) hx fun g2 b2 => ?_
  · rcases hc with rfl | rfl
    · exact b1.extBut _ _ D.i1z q
    · exact b1.extBut _ _ D.l1z q
  have z2 : ZipS g2 z TI TO .ellipsis := b2 _ _ D.i1z.symm z1
  refine wpAny_bind (wpAny_setField_rec z2 (by simp) fun g3 z3 b3 => ?_)
  refine wpAny_bind ?_
  show wpAny _ _ (forIn [(Value.ref i2, 1)] PUnit.unit _ >>= _) _ _ _
  rw [List.forIn_cons]
  refine wpAny_bind (wpAny_bind (wpAny_bind (draw_stop Z2 hh (Z2.ext h2 fun c hc o q => ?_) hy fun g4 b4 => ?_)))
  · rcases hc with rfl | rfl
    · exact b3.extBut _ _ D.i2z (b2 _ _ D.i12.symm (b1.extBut _ _ D.i2z q))
    · exact b3.extBut _ _ D.l2z (b2 _ _ D.l2i1 (b1.extBut _ _ D.l2z q))
  show wpAny _ _ (pure (ForInStep.yield PUnit.unit)) _ _ _
  refine wpAny_pure ?_
  show wpAny _ _ (forIn [] PUnit.unit _) _ _ _
  rw [List.forIn_nil]
  refine wpAny_pure (wpAny_bind (wpAny_rule ?_))
  have k4 : ∀ c o, c ≠ z → c ≠ TO → c ≠ i1 → c ≠ i2 → s.heap.get? c = some o → g4.get? c = some o := fun c o c1 c2 c3 c4 q =>
    b4 _ _ c4 (b3.extBut _ _ c1 (b2 _ _ c3 (b1.extBut _ _ c1 q)))
  unfold Builtin.SmallTypes.stopIteration
  refine wpAny_bind ?_
  simp only [newExc, newTuple]
  refine wpAny_bind (wpAny_newObj_type ?_ (by size_fits))
  refine wpAny_bind (m := firstArgMember _ _) (wpAny_of_eq (a := Value.none) (by first | rfl | (simp only [firstArgMember]; rfl)) ?_)
  refine wpAny_newObj_type ?_ (by size_fits)
  simp only [raiseNew]
  refine wpAny_bind (wpAny_handled ?_)
  rw [hh]
  refine wpAny_bind (wpAny_pure (wpAny_throw ?_))
  exact hE _ _ (fun c o c1 c2 c3 c4 q => Heap.get?_push_of_some _ (Heap.get?_push_of_some _ (k4 c o c1 c2 c3 c4 q))) ⟨_, Heap.get?_push_size _ rfl, rfl⟩
theorem pyNext_zs_item {Q : Option Value → Shared → Prop} (D : ZipApart z TI TO i1 i2 l1 l2) (Z1 : ZSrc prog w i1 l1 xs S1) (Z2 : ZSrc prog w i2 l2 ys S2)
    (hz : ZipS s.heap z TI TO .none) (hTI : IsPair s.heap TI (.ref i1) (.ref i2)) (hTO : IsPair s.heap TO a b) (h1 : S1 k1 s.heap) (h2 : S2 k2 s.heap) (hx : xs[k1]? = some x) (hy : ys[k2]? = some y)
    (hQ : ∀ h', ZipS h' z TI TO (rawInt s.heap.objs.size) → IsPair h' TO x y → S1 (k1 + 1) h' → S2 (k2 + 1) h' → IsPair h' s.heap.objs.size x y → h'.objs.size = s.heap.objs.size + 1 →
      (∀ c o, c ≠ z → c ≠ TO → c ≠ i1 → c ≠ i2 → s.heap.get? c = some o → h'.get? c = some o) → Q (some (.ref s.heap.objs.size)) { s with heap := h' }) : wpAny (model prog w) A (pyNext (.ref z)) Q E s := by
  have hT : s.TypeIs (.ref z) "zip" := ⟨_, hz, rfl⟩
  unfold pyNext
  refine wpAny_bind (wpAny_attempt (wpAny_callSpecial?_slot (name := Str.ofString "__next__") hT F.slot_zip_next (wpAny_call_entry F.slot_zip_next hT F.entry_zip_next ?_ (F.args_zip_next_1 _))))
  exact zs_item D Z1 Z2 hz hTI hTO h1 h2 hx hy fun h' a1 a2 a3 a4 a5 a6 a7 => wpAny_pure (hQ h' a1 a2 a3 a4 a5 a6 a7)
theorem pyNext_zs_stop {Q : Option Value → Shared → Prop} (hh : A.handled = none) (D : ZipApart z TI TO i1 i2 l1 l2) (Z1 : ZSrc prog w i1 l1 xs S1) (Z2 : ZSrc prog w i2 l2 ys S2)
    (hz : ZipS s.heap z TI TO .none) (hTI : IsPair s.heap TI (.ref i1) (.ref i2)) (hTO : IsPair s.heap TO a b) (h1 : S1 k1 s.heap) (h2 : S2 k2 s.heap) (hx : xs[k1]? = none) (hy : ys[k2]? = none)
    (hQ : ∀ h', (∀ c o, c ≠ z → c ≠ TO → c ≠ i1 → c ≠ i2 → s.heap.get? c = some o → h'.get? c = some o) → Q none { s with heap := h' }) : wpAny (model prog w) A (pyNext (.ref z)) Q E s := by
  have hT : s.TypeIs (.ref z) "zip" := ⟨_, hz, rfl⟩
  unfold pyNext
  refine wpAny_bind (wpAny_attempt (wpAny_callSpecial?_slot (name := Str.ofString "__next__") hT F.slot_zip_next (wpAny_call_entry F.slot_zip_next hT F.entry_zip_next ?_ (F.args_zip_next_1 _))))
  refine zs_stop hh D Z1 Z2 hz hTI hTO h1 h2 hx hy fun h' e hk ⟨o, ho, hc⟩ => ?_
  refine wpAny_bind (wpAny_isInstance (T := "StopIteration") (b := true) ⟨o, ho, hc⟩ isSubtype_stop ?_)
  exact wpAny_pure (hQ _ hk)
theorem letGo_zs {elts : List Expr} {m : Nat} {pos : Pos} {T : Addr} {Q : Unit → Shared → Prop} (hz : ZipS s.heap z TI TO (rawInt T)) (hQ : ∀ h', ZipS h' z TI TO .none → Heap.SameBut z s.heap h' → Q () { s with heap := h' }) :
    wpAny (model prog w) A (letOwnedTupleGo (.Tuple elts m pos) (.ref z) (.ref T)) Q E s := by
  unfold letOwnedTupleGo
  refine wpAny_bind (wpAny_load hz ?_)
  dsimp only
  rw [if_pos (by simp)]
  refine wpAny_bind (wpAny_rule ?_)
  exact wpAny_setField_rec hz (by simp) fun h' z' b' => hQ h' z' b'
theorem iter_zs {f0 : Value} {Q : Value → Shared → Prop} (hz : ZipS s.heap z TI TO f0) (h : Q (.ref z) s) : wpAny (model prog w) A (pyIter (.ref z)) Q E s := by
  have hT : s.TypeIs (.ref z) "zip" := ⟨_, hz, rfl⟩
  refine wpAny_pyIter_slot hT F.slot_zip_iter (wpAny_call_entry F.slot_zip_iter hT F.entry_zip_iter ?_ (F.args_zip_iter_1 _))
  exact wpAny_pure ⟨_, rfl, "zip", _, hT, F.slot_zip_next.lookup, h⟩
end

/-! calling it -/
theorem tcall_zs (a b v : Value) : checkTypeCall "zip" ⟨[a, b], [(Str.ofString "strict", v)]⟩ = pure () := by kernel_rfl
theorem ncall_zs (a b v : Value) : checkBuiltinCall "zip.__new__" ⟨[.type "zip", a, b], [(Str.ofString "strict", v)]⟩ = pure () := by kernel_rfl
theorem icall_zs (o a b v : Value) : argsOk "object.__init__" ⟨[o, a, b], [(Str.ofString "strict", v)]⟩ := by unfold argsOk; kernel_rfl
/-- the objects that a strict zip lays down -/
def zsHeap (h : Heap) (o1 o2 : Obj) : Heap :=
  ((((h.push o1).push o2).push { cls := .type "tuple", data := .seq #[.ref h.objs.size, .ref (h.push o1).objs.size] }).push { cls := .type "tuple", data := .seq #[.none, .none] }).push
    { cls := .type "zip", data := .fields #[.none, .bool false, .bool true, .ref ((h.push o1).push o2).objs.size, .ref (((h.push o1).push o2).push { cls := .type "tuple", data := .seq #[.ref h.objs.size, .ref (h.push o1).objs.size] }).objs.size] }
def itO (t : Bool) (a : Addr) : Obj := { cls := .type (if t = true then "tuple_iterator" else "list_iterator"), data := .fields #[.ref a, .int 0 0] }
def isO (t : Bool) (h : Heap) (a : Addr) (vs : Array Value) : Prop := if t = true then h.IsTuple a vs else h.IsList a vs
theorem isO_push {t : Bool} {h : Heap} {a : Addr} {vs : Array Value} (x : isO t h a vs) (o : Obj) : isO t (h.push o) a vs := by
  cases t with
  | true => exact Heap.IsTuple.push x o
  | false =>
    obtain ⟨o', ho, r⟩ := x
    exact ⟨o', Heap.get?_push_of_some o ho, r⟩
theorem isO_iter {prog : Program} {w : World} {A : Around} {E : Value → Shared → Prop} {t : Bool} {a : Addr} {vs : Array Value} {s : Shared} {Q : Value → Shared → Prop} (x : isO t s.heap a vs) (h : Q (.ref s.heap.objs.size) { s with heap := s.heap.push (itO t a) }) : wpAny (model prog w) A (pyIter (.ref a)) Q E s := by
  cases t with
  | true => exact wpAny_pyIter_tuple x h
  | false => exact wpAny_pyIter_list x h
theorem meets_zs (t1 t2 : Bool) (a b : Addr) (xs ys : Array Value) : Meets (Builtin.«zip.__new__» ⟨[.type "zip", .ref a, .ref b], [(Str.ofString "strict", .bool true)]⟩)
    (fun _ R s => isO t1 s.heap a xs ∧ isO t2 s.heap b ys ∧ R (.ok (.ret (.ref (s.heap.objs.size + 4)))) { s with heap := zsHeap s.heap (itO t1 a) (itO t2 b) }) :=
  .of_wp fun prog w A R s h => by
    obtain ⟨hp, g, d, tk, os⟩ := s
    obtain ⟨q1, q2, h⟩ := h
    have hsub := sub_zip
    have k1 : ∀ {A' : Around} {E : Value → Shared → Prop} {Q : Value → Shared → Prop}, Q (.ref hp.objs.size) ⟨hp.push (itO t1 a), g, d, tk, os⟩ → wpAny (model prog w) A' (pyIter (.ref a)) Q E ⟨hp, g, d, tk, os⟩ := fun q => isO_iter (s := ⟨hp, g, d, tk, os⟩) q1 q
    have k2 : ∀ {A' : Around} {E : Value → Shared → Prop} {Q : Value → Shared → Prop}, Q (.ref (hp.push (itO t1 a)).objs.size) ⟨(hp.push (itO t1 a)).push (itO t2 b), g, d, tk, os⟩ → wpAny (model prog w) A' (pyIter (.ref b)) Q E ⟨hp.push (itO t1 a), g, d, tk, os⟩ := fun q => isO_iter (s := ⟨hp.push (itO t1 a), g, d, tk, os⟩) (isO_push q2 _) q
    have e2 : (Str.ofString "strict" != ("strict" : Str)) = false := by decide +kernel
    wp_walk using k1, k2
    have e : ∀ o1 o2 o3 o4 : Obj, ((((hp.push o1).push o2).push o3).push o4).objs.size = hp.objs.size + 4 := fun _ _ _ _ => by simp only [Heap.size_push]
    exact ⟨.ref (hp.objs.size + 4), congrArg (fun n => PySem.Fin.done (Flow.ret (Value.ref n))) (e _ _ _ _), h⟩
section
variable {prog : Program} {w : World} {A : Around} {E : Value → Shared → Prop} {s : Shared}
theorem call_zs {t1 t2 : Bool} {a b : Addr} {xs ys : Array Value} {Q : Value → Shared → Prop} (q1 : isO t1 s.heap a xs) (q2 : isO t2 s.heap b ys)
    (h : ∀ h', ZipS h' (s.heap.objs.size + 4) (s.heap.objs.size + 2) (s.heap.objs.size + 3) .none → IsPair h' (s.heap.objs.size + 2) (.ref s.heap.objs.size) (.ref (s.heap.objs.size + 1)) →
      IsPair h' (s.heap.objs.size + 3) .none .none → h'.get? s.heap.objs.size = some (itO t1 a) → h'.get? (s.heap.objs.size + 1) = some (itO t2 b) →
      (∀ c o, s.heap.get? c = some o → h'.get? c = some o) → Q (.ref (s.heap.objs.size + 4)) { s with heap := h' }) :
    wpAny (model prog w) A (call (.type "zip") [.ref a, .ref b] [(Str.ofString "strict", .bool true)]) Q E s := by
  refine callType_newKw F.called_zip (by decide) (tcall_zs _ _ _) (ncall_zs _ _ _) (fun obj => icall_zs obj _ _ _) F.entry_zip_new (meets_zs t1 t2 a b xs ys) ⟨q1, q2, ?_⟩
  have z1 : (s.heap.push (itO t1 a)).objs.size = s.heap.objs.size + 1 := Heap.size_push ..
  have z2 : ((s.heap.push (itO t1 a)).push (itO t2 b)).objs.size = s.heap.objs.size + 2 := by rw [Heap.size_push, z1]
  have z3 : ∀ o, (((s.heap.push (itO t1 a)).push (itO t2 b)).push o).objs.size = s.heap.objs.size + 3 := fun o => by rw [Heap.size_push, z2]
  have z4 : ∀ o o', ((((s.heap.push (itO t1 a)).push (itO t2 b)).push o).push o').objs.size = s.heap.objs.size + 4 := fun o o' => by rw [Heap.size_push, z3]
  have g5 : ∀ o o' o'', o''.isFreed = false → (((((s.heap.push (itO t1 a)).push (itO t2 b)).push o).push o').push o'').get? (s.heap.objs.size + 4) = some o'' := fun o o' o'' hf => by rw [← z4 o o']; exact Heap.get?_push_size _ hf
  have g4 : ∀ o o' o'', o'.isFreed = false → (((((s.heap.push (itO t1 a)).push (itO t2 b)).push o).push o').push o'').get? (s.heap.objs.size + 3) = some o' := fun o o' o'' hf => by rw [← z3 o]; exact Heap.get?_push_of_some _ (Heap.get?_push_size _ hf)
  have g3 : ∀ o o' o'', o.isFreed = false → (((((s.heap.push (itO t1 a)).push (itO t2 b)).push o).push o').push o'').get? (s.heap.objs.size + 2) = some o := fun o o' o'' hf => by rw [← z2]; exact Heap.get?_push_of_some _ (Heap.get?_push_of_some _ (Heap.get?_push_size _ hf))
  have g2 : ∀ o o' o'', (((((s.heap.push (itO t1 a)).push (itO t2 b)).push o).push o').push o'').get? (s.heap.objs.size + 1) = some (itO t2 b) := fun o o' o'' => by rw [← z1]; exact Heap.get?_push_of_some _ (Heap.get?_push_of_some _ (Heap.get?_push_of_some _ (Heap.get?_push_size _ rfl)))
  have g1 : ∀ o o' o'', (((((s.heap.push (itO t1 a)).push (itO t2 b)).push o).push o').push o'').get? s.heap.objs.size = some (itO t1 a) := fun o o' o'' => Heap.get?_push_of_some _ (Heap.get?_push_of_some _ (Heap.get?_push_of_some _ (Heap.get?_push_of_some _ (Heap.get?_push_size _ rfl))))
  have g5' := g5 { cls := .type "tuple", data := .seq #[.ref s.heap.objs.size, .ref (s.heap.push (itO t1 a)).objs.size] } { cls := .type "tuple", data := .seq #[.none, .none] } { cls := .type "zip", data := .fields #[.none, .bool false, .bool true, .ref ((s.heap.push (itO t1 a)).push (itO t2 b)).objs.size, .ref (((s.heap.push (itO t1 a)).push (itO t2 b)).push { cls := .type "tuple", data := .seq #[.ref s.heap.objs.size, .ref (s.heap.push (itO t1 a)).objs.size] }).objs.size] } rfl
  have g3' := g3 { cls := .type "tuple", data := .seq #[.ref s.heap.objs.size, .ref (s.heap.push (itO t1 a)).objs.size] } { cls := .type "tuple", data := .seq #[.none, .none] } { cls := .type "zip", data := .fields #[.none, .bool false, .bool true, .ref ((s.heap.push (itO t1 a)).push (itO t2 b)).objs.size, .ref (((s.heap.push (itO t1 a)).push (itO t2 b)).push { cls := .type "tuple", data := .seq #[.ref s.heap.objs.size, .ref (s.heap.push (itO t1 a)).objs.size] }).objs.size] } rfl
  refine ⟨⟨_, g5', rfl⟩, h _ ?_ ?_ (g4 _ _ _ rfl) (g1 _ _ _) (g2 _ _ _) fun c o q => Heap.get?_push_of_some _ (Heap.get?_push_of_some _ (Heap.get?_push_of_some _ (Heap.get?_push_of_some _ (Heap.get?_push_of_some _ q))))⟩
  · have q := g5'
    conv at q => rhs; rw [z2, z3]
    exact q
  · have q := g3'
    conv at q => rhs; rw [z1]
    exact q
end
/-! callWith of a built-in class with keywords -/
section
variable {M : Model} {A : Around} {E : Value → Shared → Prop} {s : Shared} {env : Env}
theorem cw_typeKw {pos : Pos} {T : String} {e : Expr} {rest : List Expr} {kws : List Keyword} {Q : Value → Shared → Prop}
    (h : wpAny M A (spliced (backTo pos (starEach (e :: rest) env))) (fun vs s₁ => wpAny M A (evalAll ((backToKw pos (keywordEach kws env)).map (·.2)))
      (fun kvs s₂ => wpAny M A (call (.type T) vs (((backToKw pos (keywordEach kws env)).filterMap (·.1)).zip kvs)) Q E s₂) E s₁) E s)
    (he : starEach (e :: rest) env = (false, eval e env) :: starEach rest env) (hp : (backTo pos (starEach (e :: rest) env)).any (·.1) = false)
    (ha : (backToKw pos (keywordEach kws env)).all (·.1.isSome) = true) (hk : (backToKw pos (keywordEach kws env)).any (·.1.isNone) = false) :
    wpAny M A (callWith pos (.type T) [] (backTo pos (starEach (e :: rest) env)) (backToKw pos (keywordEach kws env))) Q E s := by
  unfold callWith
  refine wpAny_bind (wpAny_holding (PyProof.Rows.evalArgs_kw2 ha (wpAny_mono h (fun vs s1 h1 => wpAny_mono h1 (fun kvs s2 h2 => wpAny_bind (wpAny_standAt ?_)) fun _ _ x => x) fun _ _ x => x) he))
  simp only [hp, hk, Bool.or_false]
  refine wpAny_bind (wpAny_pure ?_)
  exact wpAny_bind (wpAny_mono h2 (fun r s3 hr => wpAny_bind (wpAny_holding (wpAny_point (wpAny_pure hr)))) fun _ _ x => x)
end
/-! the walk -/
/-- a list (t false) or a tuple (t true) of the heap -/
def SqB (K : PySem.W.Frag) (t : Bool) (H : Hp) (a : Addr) (xs : List V) : Prop := if t = true then SqT K H a xs else SqL K H a xs
def ItS (K : PySem.W.Frag) (t1 t2 : Bool) (a b : Addr) : It :=
  ⟨fun i H => ∃ (xs ys : List V) (x y : V), SqB K t1 H a xs ∧ SqB K t2 H b ys ∧ xs[i]? = some x ∧ ys[i]? = some y,
    fun i H v H' => ∃ T x y, v = .ref T ∧ H T = none ∧ H' = upd H T (.tup [x, y]) ∧ (∀ xs, SqB K t1 H a xs → xs[i]? = some x) ∧ ∀ ys, SqB K t2 H b ys → ys[i]? = some y,
    fun i H => ∃ xs ys : List V, SqB K t1 H a xs ∧ SqB K t2 H b ys ∧ xs.length ≤ i ∧ ys.length ≤ i⟩
def zsB (t : Bool) (it src : Addr) (i : Nat) (h : Heap) : Prop := if t = true then h.IsTupleIter it src i else h.IsListIter it src i
section
variable {X : Cx} {pins : List (Addr × Obj)} {σ : L2.St} {H : Hp} {s : Shared}
theorem sqb_at {t : Bool} {a : Addr} {xs : List V} (I : Inv X pins σ H s) (h : SqB X.K t H a xs) : ∃ its : List Value, Vals xs its ∧ isO t s.heap a its.toArray ∧ a < s.heap.objs.size := by
  cases t with
  | true =>
    obtain ⟨its, rv, p, _⟩ := I.tuple h
    obtain ⟨o, ho, _⟩ := id p
    exact ⟨its, rv, p, Heap.lt_size ho⟩
  | false =>
    obtain ⟨its, rv, p, _⟩ := I.list h
    exact ⟨its, rv, p.isList, p.lt⟩
theorem sqb_inj {t : Bool} {a : Addr} {xs ys : List V} (I : Inv X pins σ H s) (h : SqB X.K t H a xs) (k : SqB X.K t H a ys) : xs = ys := by
  cases t with
  | true => exact I.tuple_inj h k
  | false => exact I.list_inj h k
end
theorem zsrc_B {prog : Program} {w : World} {t : Bool} {it src : Addr} {vs : Array Value} (ne : src ≠ it) : ZSrc prog w it src vs (fun i h => zsB t it src i h ∧ isO t h src vs) := by
  cases t with
  | true => exact zsrc_T ne
  | false => exact zsrc_L ne
theorem zsB_at {t : Bool} {it src : Addr} {i : Nat} {h h' : Heap} (x : zsB t it src i h) (e : ∀ o, h.get? it = some o → h'.get? it = some o) : zsB t it src i h' := by
  cases t with
  | true => exact Heap.IsTupleIter.at x e
  | false => exact Heap.IsListIter.at x e
theorem zsB_obj {t : Bool} {it src : Addr} {i : Nat} {h : Heap} (x : zsB t it src i h) : ∃ o, h.get? it = some o ∧ ∀ v, o.data ≠ .cell v := by
  cases t with
  | true => obtain ⟨o, e, _, d⟩ := x; exact ⟨o, e, fun v q => by rw [d] at q; cases q⟩
  | false => obtain ⟨o, e, _, d⟩ := x; exact ⟨o, e, fun v q => by rw [d] at q; cases q⟩
theorem turn_zs {P : Program} {w : World} {K : PySem.W.Frag} {elts : List Expr} {kk : Nat} {tpos : Pos} {t1 t2 : Bool} {a b z TI TO i1 i2 : Addr} (D : ZipApart z TI TO i1 i2 a b) :
    Turn P w K (.Tuple elts kk tpos) (ItS K t1 t2 a b) [z, TI, TO, i1, i2] z (fun i h => ZipS h z TI TO .none ∧ IsPair h TI (.ref i1) (.ref i2) ∧ (∃ x y, IsPair h TO x y) ∧ zsB t1 i1 a i h ∧ zsB t2 i2 b i h) where
  mem := by simp
  obj := fun i h st c hc => by
    obtain ⟨hz, hTI, ⟨x, y, hTO⟩, h1, h2⟩ := st
    simp only [List.mem_cons, List.not_mem_nil, or_false] at hc
    rcases hc with rfl | rfl | rfl | rfl | rfl
    · exact ⟨_, hz, fun v q => nomatch q⟩
    · exact ⟨_, hTI, fun v q => nomatch q⟩
    · exact ⟨_, hTO, fun v q => nomatch q⟩
    · exact zsB_obj h1
    · exact zsB_obj h2
  keep := fun i h h' st k => by
    obtain ⟨hz, hTI, ⟨x, y, hTO⟩, h1, h2⟩ := st
    exact ⟨k z (by simp) _ hz, k TI (by simp) _ hTI, ⟨x, y, k TO (by simp) _ hTO⟩, zsB_at h1 fun o q => k i1 (by simp) o q, zsB_at h2 fun o q => k i2 (by simp) o q⟩
  item := by
    intro X hP hw hK hc i pins s σ H E I hf st hg
    subst hP hw hK
    obtain ⟨hz, hTI, ⟨x0, y0, hTO⟩, h1, h2⟩ := st
    obtain ⟨xs, ys, x, y, hqx, hqy, hx, hy⟩ := hg
    obtain ⟨its, rv, p, _⟩ := sqb_at I hqx
    obtain ⟨its2, rv2, p2, _⟩ := sqb_at I hqy
    obtain ⟨u, hu, ru⟩ := rv.get hx
    obtain ⟨u2, hu2, ru2⟩ := rv2.get hy
    have hzl : z < s.heap.objs.size := Heap.lt_size hz
    refine pyNext_zs_item D (zsrc_B D.l1i1) (zsrc_B D.l2i2) hz hTI hTO ⟨h1, p⟩ ⟨h2, p2⟩ (x := u) (y := u2) (by simpa using hu) (by simpa using hu2) fun h' z' TO' h1' h2' hT hsz hk => ?_
    refine ⟨_, rfl, letGo_zs (s := { s with heap := h' }) z' fun h'' z'' sb => ?_⟩
    have hT2 : h''.get? s.heap.objs.size = some { cls := .type "tuple", data := .seq #[u, u2] } := (sb.2 _ (Nat.ne_of_gt hzl)).trans hT
    have new : ObjOk X.prog X.w (upd H s.heap.objs.size (.tup [x, y])) h'' s.heap.objs.size (.tup [x, y]) := ⟨by show 2 ≤ sizeLine; decide, [u, u2], .cons ru (.cons ru2 .nil), ⟨_, hT2, rfl, _, rfl⟩⟩
    have all : ∀ c o, c ∉ [z, TI, TO, i1, i2] → s.heap.get? c = some o → h''.get? c = some o := fun c o hb q => by
      simp only [List.mem_cons, List.not_mem_nil, or_false, not_or] at hb
      exact (sb.2 c hb.1).trans (hk c o hb.1 hb.2.2.1 hb.2.2.2.1 hb.2.2.2.2 q)
    have I1 : Inv X pins σ (upd H s.heap.objs.size (.tup [x, y])) { s with heap := h'' } := I.turnedNew (t' := s.toks) (ch := [z, TI, TO, i1, i2]) all hf (Nat.le_refl _) new
    refine ⟨.ref s.heap.objs.size, _, I1, rfl, ⟨_, x, y, rfl, I.hok.fresh (Nat.le_refl _), rfl, fun l hl => by rw [sqb_inj I hl hqx]; exact hx, fun l hl => by rw [sqb_inj I hl hqy]; exact hy⟩, ⟨z'', ?_, ⟨u, u2, ?_⟩, ?_, ?_⟩, fun c hcm => ?_⟩
    · exact (sb.2 _ D.TIz).trans (hk _ _ D.TIz D.TITO D.TIi1 D.TIi2 hTI)
    · exact (sb.2 _ D.TOz).trans TO'
    · exact zsB_at h1'.1 fun o q => (sb.2 _ D.i1z).trans q
    · exact zsB_at h2'.1 fun o q => (sb.2 _ D.i2z).trans q
    · have hlt : c < s.heap.objs.size := by
        simp only [List.mem_cons, List.not_mem_nil, or_false] at hcm
        rcases hcm with rfl | rfl | rfl | rfl | rfl
        · exact hzl
        · exact Heap.lt_size hTI
        · exact Heap.lt_size hTO
        · obtain ⟨_, e, _⟩ := zsB_obj h1; exact Heap.lt_size e
        · obtain ⟨_, e, _⟩ := zsB_obj h2; exact Heap.lt_size e
      rw [upd_ne (Nat.ne_of_lt hlt)]
      exact (hf c hcm).1
  done := by
    intro X hP hw hK hc i pins s σ H E I hf st hg
    subst hP hw hK
    obtain ⟨hz, hTI, ⟨x0, y0, hTO⟩, h1, h2⟩ := st
    obtain ⟨xs, ys, hqx, hqy, n1, n2⟩ := hg
    obtain ⟨its, rv, p, _⟩ := sqb_at I hqx
    obtain ⟨its2, rv2, p2, _⟩ := sqb_at I hqy
    have l1 := rv.length
    have l2 := rv2.length
    exact pyNext_zs_stop (I.ok.hd hc) D (zsrc_B D.l1i1) (zsrc_B D.l2i2) hz hTI hTO ⟨h1, p⟩ ⟨h2, p2⟩ (by simp; omega) (by simp; omega) fun h' hk => ⟨rfl, I.turnedL (t' := s.toks) (ch := [z, TI, TO, i1, i2]) (fun c o hb q => by
      simp only [List.mem_cons, List.not_mem_nil, or_false, not_or] at hb
      exact hk c o hb.1 hb.2.2.1 hb.2.2.2.1 hb.2.2.2.2 q) hf⟩
  self := fun A i s Q E st h => iter_zs st.1 h
def iZipS (K : PySem.W.Frag) (t1 t2 : Bool) (ta tk : TA) : TI := fun σ H R => ta σ H fun vs H1 => tk σ H1 fun zs H2 => ∃ a b xs ys, zs = [.bl true] ∧ vs = [.ref a, .ref b] ∧ SqB K t1 H2 a xs ∧ SqB K t2 H2 b ys ∧ R (ItS K t1 t2 a b) H2
theorem pi_zipS {X : Cx} (t1 t2 : Bool) {e e2 : Expr} {ta tk : TA} {p pos tpos : Pos} {elts : List Expr} {kk : Nat} {kws : List Keyword} (hg : Gl X "zip") (hm : X.mg "zip" = none) (ha : PA X [e, e2] ta) (hk : PK X kws tk)
    (hs : starEach [e, e2] X.env = (false, eval e X.env) :: starEach [e2] X.env := by rfl) (hpl : (backTo pos (starEach [e, e2] X.env)).any (·.1) = false := by rfl)
    (hall : (backToKw pos (keywordEach kws X.env)).all (·.1.isSome) = true := by rfl) (hnone : (backToKw pos (keywordEach kws X.env)).any (·.1.isNone) = false := by rfl) (hks : (backToKw pos (keywordEach kws X.env)).filterMap (·.1) = [Str.ofString "strict"] := by rfl) :
    PI X (.Tuple elts kk tpos) (.Call (.Name "zip" p) [e, e2] kws pos) (iZipS X.K t1 t2 ta tk) := by
  refine ⟨fun pins s σ H R I h => ?_⟩
  refine wpAny_Call_Name_kw (ld_blt I hg hm PyProof.Rows.boot_zip ?_)
  refine cw_typeKw (thn (ha.run pos pins s σ H _ I h) fun us s1 ⟨vs, H1, I1, r1, q1⟩ => thn (hk.run pos pins s1 σ H1 _ I1 q1) fun ws s2 ⟨zs, H2, I2, r2, q2⟩ => ?_) hs hpl hall hnone
  rw [hks]
  obtain ⟨a, b, xs, ys, rfl, rfl, hqx, hqy, q⟩ := q2
  obtain ⟨w1, rfl, e1⟩ := vals1 r2
  obtain rfl : w1 = Value.bool true := e1
  obtain ⟨u1, u2, rfl, c1, c2⟩ := vals2 r1
  cases c1
  cases c2
  have fresh5 : ∀ c, c ∈ [s2.heap.objs.size + 4, s2.heap.objs.size + 2, s2.heap.objs.size + 3, s2.heap.objs.size, s2.heap.objs.size + 1] → FpOk X pins H2 c := fun c hcm => by
    have hle : s2.heap.objs.size ≤ c := by
      simp only [List.mem_cons, List.not_mem_nil, or_false] at hcm
      rcases hcm with rfl | rfl | rfl | rfl | rfl <;> exact (by first | exact Nat.le_refl _ | exact Nat.le_add_right _ _)
    exact I2.fpOk hle (I2.hok.fresh hle)
  obtain ⟨its, rv, p1, l1⟩ := sqb_at I2 hqx
  obtain ⟨its2, rv2, p2, l2⟩ := sqb_at I2 hqy
  refine call_zs p1 p2 fun h' hz hTI hTO g1 g2 hk => iter_zs hz ?_
  have I3 : Inv X pins σ H2 { s2 with heap := h' } := I2.kept (t' := s2.toks) hk
  refine ⟨s2.heap.objs.size + 4, [s2.heap.objs.size + 4, s2.heap.objs.size + 2, s2.heap.objs.size + 3, s2.heap.objs.size, s2.heap.objs.size + 1], _, _, H2, rfl, I3, turn_zs (t1 := t1) (t2 := t2) (PySem.W.ktu_apart s2.heap.objs.size a b l1 l2), ⟨hz, hTI, ⟨_, _, hTO⟩, ?_, ?_⟩, fresh5, q⟩
  · cases t1 with
    | true => exact ⟨_, g1, rfl, rfl⟩
    | false => exact ⟨_, g1, rfl, rfl⟩
  · cases t2 with
    | true => exact ⟨_, g2, rfl, rfl⟩
    | false => exact ⟨_, g2, rfl, rfl⟩
theorem walk_zs {K : PySem.W.Frag} {t1 t2 : Bool} {a b : Addr} {xs ys : List V} (hl : xs.length = ys.length) : Walk (ItS K t1 t2 a b) xs.length (fun H => SqB K t1 H a xs ∧ SqB K t2 H b ys) (fun i H v H' => ∃ T x y, v = .ref T ∧ H T = none ∧ H' = upd H T (.tup [x, y]) ∧ xs[i]? = some x ∧ ys[i]? = some y) := by
  refine ⟨fun i _ hi q => ⟨xs, ys, xs[i], ys[i]'(by omega), q.1, q.2, by simp [hi], by simp [show i < ys.length by omega]⟩, fun _ q => ⟨xs, ys, q.1, q.2, Nat.le_refl _, by omega⟩, fun i H v H' _ q w => ?_⟩
  obtain ⟨T, x, y, h1, h2, h3, h4, h5⟩ := w
  exact ⟨T, x, y, h1, h2, h3, h4 xs q.1, h5 ys q.2⟩

/-! ### Program.cells -/
abbrev sPCel : Stmt := inClass (topS 63) 19
abbrev NPCel : List Str := ["self", "name", "case", "words", "one", "cell"]
abbrev PPCel : List Str := ["self", "name", "case"]
theorem scPCel : FnScope NPCel PPCel (defScope sPCel) := ⟨rfl, rfl, rfl, by decide +kernel, rfl, by decide +kernel, by decide +kernel⟩
def csD (cs : List Str) : PyData := .tuple (cs.map PyData.str)
theorem eqvAll_strs : ∀ (cs : List Str) (ds : List PyData), PyData.eqvAll (cs.map PyData.str) ds = true ↔ ds = cs.map PyData.str
  | [], [] => by simp [PyData.eqvAll]
  | [], d :: r => by simp [PyData.eqvAll]
  | c :: r, [] => by simp [PyData.eqvAll]
  | c :: r, d :: t => by
    rw [List.map_cons]
    simp only [PyData.eqvAll, Bool.and_eq_true]
    rw [eqvAll_strs r t]
    cases d <;> simp [PyData.eqv]
    intro _
    exact eq_comm
theorem eqv_csD (cs : List Str) (d : PyData) : PyData.eqv (csD cs) d = true ↔ d = csD cs := by
  unfold csD
  cases d <;> simp [PyData.eqv, eqvAll_strs]
theorem any_csD (l : List (List Str)) (d : PyData) : ((l.map csD).any fun z => PyData.eqv z d) = true ↔ ∃ cs ∈ l, d = csD cs := by
  rw [List.any_eq_true]
  constructor
  · rintro ⟨z, hz, h⟩
    obtain ⟨cs, hc, rfl⟩ := List.mem_map.mp hz
    exact ⟨cs, hc, (eqv_csD cs d).mp h⟩
  · rintro ⟨cs, hc, h⟩
    exact ⟨csD cs, List.mem_map.mpr ⟨cs, hc, rfl⟩, (eqv_csD cs d).mpr h⟩
theorem cs_dq {K : PySem.W.Frag} {H : Hp} {x : V} {cs : List Str} (h : CsAt K H x cs) : Dq K H x (csD cs) := by
  obtain ⟨b, rfl, q⟩ := h
  refine .tup q ?_
  clear q
  induction cs with
  | nil => exact .nil
  | cons c r ih => exact .cons (.str c) ih
theorem cs_dqs {K : PySem.W.Frag} {H : Hp} : ∀ {xs : List V} {l : List (List Str)}, Paired (CsAt K H) xs l → DqAll K H xs (l.map csD)
  | _, _, .nil => .nil
  | _, _, .cons h t => .cons (cs_dq h) (cs_dqs t)
theorem gd_cs {cs : List Str} (h : ∀ s ∈ cs, PyData.strOk s = true) (l : cs.length ≤ 1000) : Gd (csD cs) 1 := .map (fun x hx => .str (h x hx)) l
theorem erN_mem {pl cs : List Str} : ∀ {i : Nat} {s : Str}, s ∈ erN pl cs i → ∃ k, k < i ∧ s = pl.getD k ""
  | 0, s, h => nomatch h
  | i + 1, s, h => by
    rcases List.mem_append.mp h with h | h
    · obtain ⟨k, hk, e⟩ := erN_mem h
      exact ⟨k, by omega, e⟩
    · split at h
      · exact ⟨i, by omega, List.mem_singleton.mp h⟩
      · exact nomatch h
theorem getD_mem {pl : List Str} {k : Nat} (h : k < pl.length) : pl.getD k "" ∈ pl := by
  rw [List.getD_eq_getElem?_getD, List.getElem?_eq_getElem h]
  exact List.getElem_mem h
theorem csT_str {gl pl : List Str} : ∀ {j : Nat} {cs : List Str}, j ≤ pl.length → cs ∈ csT gl pl j → ∀ s ∈ cs, s ∈ gl ∨ s ∈ pl
  | 0, cs, _, h, s, hs => by rw [List.mem_singleton.mp h] at hs; exact nomatch hs
  | j + 1, cs, hj, h, s, hs => by
    obtain ⟨c0, h0, h1⟩ := List.mem_flatMap.mp h
    obtain ⟨o, ho, rfl⟩ := List.mem_map.mp h1
    rcases List.mem_append.mp hs with hs | hs
    · exact csT_str (by omega) h0 s hs
    · rw [List.mem_singleton.mp hs]
      rcases List.mem_append.mp ho with ho | ho
      · exact .inl ho
      · rcases List.mem_append.mp ho with ho | ho
        · obtain ⟨k, hk, e⟩ := erN_mem ho
          rw [e]
          exact .inr (getD_mem (by omega))
        · rw [List.mem_singleton.mp ho]
          exact .inr (getD_mem (by omega))
def spCel (K : PySem.W.Frag) (C CI : Addr) : Sp := fun vs H Q E => ∃ (a : Addr) (t : Tr) (f : Fn) (cv : V) (d : PyData), vs = [.ref a, .str f.name, cv] ∧ PrgAt K C H a t ∧ (t.fns.map Fn.name).Nodup ∧ f ∈ t.fns ∧ f.ps.length ≤ 900 ∧ t.names.length ≤ 2 ∧ (plF f).length ≤ 2 ∧
  (∀ s, s ∈ t.names ∨ s ∈ plF f → PyData.strOk s = true) ∧ Dq K H cv d ∧ CmpD d ∧
  ((∃ cs ∈ csT t.names (plF f) (plF f).length, d = csD cs ∧ ∀ p H', Same H H' → H' p = some (.tup ((t.names ++ erN (plF f) cs (plF f).length).map V.str)) → Q (.ref p) H') ∨
   ((∀ cs ∈ csT t.names (plF f) (plF f).length, d ≠ csD cs) ∧ ∀ d' H', Same H H' → H' d' = none → E (.ref CI) (some d') (upd H' d' (.xd [("value", cv)]))))
theorem units65 {k : Nat} {A : Around} (r : Room k A) : A.units + 65 < cLine := by have := r.un; omega
structure TxCel (mg : Str → Option Value) : Prop where
  n_isinstance : mg "isinstance" = none
  n_tuple : mg "tuple" = none
  n_str : mg "str" = none
  n_all : mg "all" = none
  n_zip : mg "zip" = none
section
variable {P : Program} {w : World} {K : PySem.W.Frag} {mg : Str → Option Value} {base : Heap} {C : Addr} {C' : Nat → Addr}
theorem ok_PCel {f : Addr} {fd : FuncData} (F : Fun K "cells" "Program.cells" sPCel f fd) (T : TxCel mg) (TC : TxPrg K C) (X : ErrH P w K mg base C') (GP : HasM P w K mg base CX0 3 C "places" PPPla (spPla K C)) (GC : HasM P w K mg base CX0 4 C "cases" PPCas (spCas K C)) : FnOk P w K mg base (L2N.CX P w) 5 f fd PPCel (spCel K C (C' 8)) := by
  refine Fun.okN F scPCel (fun vs H Q E h => ?_) (fun cdv A outer s H vs Q E hr h => ?_)
  · obtain ⟨a, t, g, cv, d, rfl, _⟩ := h
    rfl
  · obtain ⟨a, t, g, cv, d, rfl, pr, nd, mf, l9, lN, lP, hok, hd, cd, h⟩ := h
    obtain ⟨dx, pv0, gl, e1, e2, e3⟩ := id pr
    have hr3 := hr.mono (j := 3) (by decide)
    have tk := L2N.takes_of (X := cxOf (L2N.CX P w) P w K mg base NPCel "Program.cells" (defScope sPCel) f cdv A outer s H E) (E := E) rfl rfl rfl rfl
    refine ⟨_, (pss_cons (ps_set (i := 3) scPCel.nd rfl (Or.inl rfl) (pe_methH (pv 0) TC.cl GP hr3 pass0 (pa_cons (pv 1) pa_nil)))
  (pss_cons (ps_if (PW.pt (pw_or (pt_not (pt_val (pe_callB call_isi (by rfl) T.n_isinstance bb_isinstance (pa_cons (pv 2) (pa_cons (pe_bltn (v := .ty "tuple") (by rfl) T.n_tuple bb_tuple rfl) pa_nil))))) (pw_or1 (pt_not (pt_val (pe_callB (cr_all rfl) (by rfl) T.n_all bb_all (pa_cons (pe_lc (own := [("one", 4)]) (g := gName 4) (tt := tYes) rfl scPCel.nd (pi_tup (pv 2)) (blkOk_by (own := [("one", 4)]) (N := NPCel) (sc := (defScope sPCel)) (by decide +kernel)) (fun _ _ _ _ _ => (pg_name (i := 4) scPCel.nd rfl (Or.inl rfl))) (fun _ _ _ _ _ => pts_nil) (fun _ _ _ _ _ => (pe_callB (r := rIsi K) call_isi (by rfl) T.n_isinstance bb_isinstance (pa_cons (pv 4) (pa_cons (pe_bltn (v := .ty "str") (by rfl) T.n_str bb_str rfl) pa_nil))))) pa_nil)))))))
  (pss_one (ps_raiseX rfl tk X.h8 (hr.mono (by decide)) rfl (pa_cons (pv 2) pa_nil)))
  pss_nil)
  (pss_cons (ps_if (pt_cmpR (op_notInD (units65 hr)) (pv 2) (pe_methH (pv 0) TC.cl GC hr pass0 (pa_cons (pv 1) pa_nil)) (by rfl))
  (pss_one (ps_raiseX rfl tk X.h8 (hr.mono (by decide)) rfl (pa_cons (pv 2) pa_nil)))
  pss_nil)
  (pss_one (ps_ret (pe_tup (StX.pa_star (pe_fld (pv 0) rfl) (StX.pa_star (pe_lc (own := [("one", 4), ("cell", 5)]) (g := gTup K 2 (gCons (gName 4) (gCons (gName 5) gNil))) rfl scPCel.nd (pi_zipS false true (by rfl) T.n_zip (pa_cons (pv 3) (pa_cons (pv 2) pa_nil)) (pk_cons pe_bl pk_nil)) (blkOk_by (own := [("one", 4), ("cell", 5)]) (N := NPCel) (sc := (defScope sPCel)) (by decide +kernel)) (fun _ _ _ _ _ => (pg_tup (by rfl) (pgs_cons (pg_name (i := 4) scPCel.nd rfl (Or.inl rfl)) (pgs_cons (pg_name (i := 5) scPCel.nd rfl (Or.inl rfl)) pgs_nil)))) (fun _ _ _ _ _ => (pts_one (pt_cmpR (r := rEq) op_eq (pv 4) (pv 5) (nomark _)))) (fun _ _ _ _ _ => (pv 4))) pa_nil)))))))), ?_⟩
    refine ⟨_, rfl, a, dx, _, rfl, e1, rfl, _, rfl, a, t, g, rfl, pr, nd, mf, l9, fun q H1 s1 nq eq => ?_⟩
    have hd1 := hd.same s1
    refine ⟨_, rfl, _, _, _, _, _, rfl, .ty _, dq_ty hd1, dq_tu hd1, _, rfl, ?_⟩
    have csTu : ∀ cs, isTu (csD cs) = true := fun _ => rfl
    by_cases hb : isTu d = true
    case neg =>
      refine iteS (by rw [Bool.eq_false_iff.mpr hb]; rfl) (iteT ?_)
      rcases h with ⟨cs, _, rfl, _⟩ | ⟨_, k⟩
      · exact absurd (csTu cs) hb
      · exact ⟨_, rfl, _, rfl, fun d' hd' => k d' H1 s1 hd'⟩
    refine iteE (by rw [hb]; rfl) ?_
    obtain ⟨ca, xs, ds, rfl, rfl, hq, hds⟩ : ∃ (ca : Addr) (xs : List V) (ds : List PyData), cv = .ref ca ∧ d = .tuple ds ∧ SqT K H ca xs ∧ DqAll K H xs ds := by
      cases hd with
      | tup q1 q2 => exact ⟨_, _, _, rfl, rfl, q1, q2⟩
      | _ => cases hb
    have hl9 : ds.length ≤ 1000 := cd.len
    have lxs := hds.len
    have hq1 := SqT.same s1 hq
    refine ⟨_, rfl, ca, rfl, ⟨_, hq1⟩, fun D hD => ?_⟩
    refine lc_tup (K := K) (a := ca) (xs := xs) (fun i H' => Same H1 H' ∧ H' D = some (.lst (((ds.take i).map isSt).map V.bl))) ⟨same_new hD, upd_same⟩ (fun i H' _ h' => SqT.same h'.1 hq1) ?_ ?_
    · rintro i x H2 hx ⟨s2, eD⟩
      obtain ⟨dd, hdd, qx⟩ := DqAll.at hds hx
      have qx2 := qx.same (s1.trans s2)
      have hi := (List.getElem?_eq_some_iff.mp hx).1
      refine ⟨rfl, _, rfl, _, _, _, _, _, rfl, .ty _, dq_ty qx2, dq_st qx2, ?_⟩
      refine ⟨_, eD, small1000 (by rw [List.length_map, List.length_map, List.length_take]; omega), fun b o e => ?_, ?_⟩
      · rw [upd_ne (ne_of_none e hD)]
        exact s2 b o e
      · rw [upd_same, take_snoc hdd, List.map_append, List.map_append]
        rfl
    rintro H2 ⟨s2, eD⟩
    rw [lxs, List.take_length] at eD
    refine ⟨D, _, rfl, SqL.of eD, ?_⟩
    have s02 := s1.trans s2
    refine ⟨_, rfl, ?_⟩
    by_cases hs : ((ds.map isSt).map V.bl).length = ds.length ∧ (ds.map isSt).all id = true
    case neg =>
      have hs2 : (ds.map isSt).all id = false := Bool.eq_false_iff.mpr fun z => hs ⟨by rw [List.length_map, List.length_map], z⟩
      refine iteS (by rw [hs2]; rfl) ?_
      rcases h with ⟨cs, _, e, _⟩ | ⟨_, k⟩
      · exfalso
        have e : ds = cs.map PyData.str := by injection e
        rw [e] at hs2
        have q : ((cs.map PyData.str).map isSt).all id = true := List.all_eq_true.mpr fun b hb => by
          obtain ⟨x, hx, rfl⟩ := List.mem_map.mp hb
          obtain ⟨y, _, rfl⟩ := List.mem_map.mp hx
          rfl
        rw [q] at hs2
        cases hs2
      · exact ⟨_, rfl, _, rfl, fun d' hd' => k d' H2 s02 hd'⟩
    refine iteE (by rw [hs.2]; rfl) ?_
    refine ⟨_, rfl, _, rfl, a, dx, _, rfl, s02 _ _ e1, rfl, _, rfl, a, t, g, rfl, pr.same s02, nd, mf, l9, lN, lP, fun q2 xs2 H3 s3 nq2 eq2 pcs => ?_⟩
    have s03 := s02.trans s3
    have sz := csT_sz (pl := plF g) lN (show (plF g).length ≤ 2 from lP)
    have shl : SeqAt.shaped (.list ((csT t.names (plF g) (plF g).length).map csD)) = true := by
      refine (Gd.cmp (Gd.lst (k := 1) (fun e he => ?_) (by rw [List.length_map]; omega)) (by decide)).shaped
      obtain ⟨cs, hc, rfl⟩ := List.mem_map.mp he
      exact gd_cs (fun s hs => hok s (csT_str (Nat.le_refl _) hc s hs)) (by rw [csT_mem hc]; omega)
    refine ⟨.tuple ds, (csT t.names (plF g) (plF g).length).map csD, (hd.same s03).dp, .lst (SqL.of eq2) (DqAll.dp (cs_dqs pcs)), cd.shaped, shl, _, rfl, ?_⟩
    rcases h with ⟨cs, hcs, e, k⟩ | ⟨hne, k⟩
    case inr =>
      refine iteS ?_ ⟨_, rfl, _, rfl, fun d' hd' => k d' H3 s03 hd'⟩
      rw [Bool.not_eq_true', Bool.eq_false_iff]
      intro z
      obtain ⟨cs, hc, e⟩ := (any_csD _ _).mp z
      exact hne cs hc e
    refine iteE (by rw [(any_csD _ _).mpr ⟨cs, hcs, e⟩]; rfl) ?_
    have e : ds = cs.map PyData.str := by injection e
    subst e
    have exs : xs = cs.map V.str := dp_strs hds.dp
    subst exs
    obtain ⟨ga, gs, rfl, hg, hgd⟩ := e3.tupInv
    have egs : gs = t.names.map V.str := dp_strs hgd
    subst egs
    have lcs := csT_mem hcs
    have eqw := (s2.trans s3) _ _ eq
    have hq3 := SqT.same (s1.trans (s2.trans s3)) hq
    refine ⟨_, rfl, a, C, dx, _, _, rfl, s03 _ _ e1, TC.cl, TC.nG, rfl, ga, _, rfl, .inl (SqT.same s03 hg), ?_⟩
    refine ⟨_, rfl, _, rfl, q, ca, _, _, rfl, rfl, SqL.of eqw, hq3, fun D3 hD3 => ?_⟩
    refine lc_it (walk_zs (K := K) (t1 := false) (t2 := true) (a := q) (b := ca) (xs := (plF g).map V.str) (ys := cs.map V.str) (by rw [List.length_map, List.length_map, lcs])) (fun i H' => Same H3 H' ∧ H' D3 = some (.lst ((erN (plF g) cs i).map V.str))) ⟨same_new hD3, upd_same⟩ (fun i H' _ h' => ⟨SqL.of (h'.1 _ _ eqw), SqT.same h'.1 hq3⟩) ?_ ?_
    · rintro i2 v H9 H10 hi2 ⟨s9, eD3⟩ ⟨T', x, y, rfl, hT, rfl, hx, hy⟩
      rw [List.length_map] at hi2
      obtain ⟨w2, hw2⟩ : ∃ w2, (plF g)[i2]? = some w2 := ⟨_, List.getElem?_eq_getElem (by omega)⟩
      obtain ⟨c2, hc2⟩ : ∃ c2, cs[i2]? = some c2 := ⟨_, List.getElem?_eq_getElem (by omega)⟩
      rw [List.getElem?_map, hw2] at hx
      rw [List.getElem?_map, hc2] at hy
      cases hx
      cases hy
      have s10 := same_new (o := .tup [.str w2, .str c2]) hT
      have st : erN (plF g) cs (i2 + 1) = erN (plF g) cs i2 ++ if c2 = w2 then [w2] else [] := by
        show erN (plF g) cs i2 ++ (if cs.getD i2 "" = (plF g).getD i2 "" then [(plF g).getD i2 ""] else []) = _
        rw [getD_at hw2, getD_at hc2]
      have len2 := erN_len (pl := plF g) (cs := cs) i2
      refine ⟨T', _, rfl, SqT.of upd_same, rfl, _, _, rfl, _, _, rfl, rfl, rfl, _, rfl, _, rfl, rfl, _, rfl, ite2 (fun he => ?_) (fun he => ?_)⟩
      · have ew : c2 = w2 := by have := of_decide_eq_true he; injection this with this; exact this.symm
        rw [if_pos ew] at st
        refine ⟨_, rfl, _, s10 _ _ eD3, small1000 (by rw [List.length_map]; omega), fun b o e => ?_, ?_⟩
        · rw [upd_ne (ne_of_none e hD3)]
          exact s10 b o (s9 b o e)
        · rw [upd_same, st, List.map_append]
          rfl
      · have ew : c2 ≠ w2 := fun q => he (decide_eq_true (by rw [q]))
        rw [if_neg ew, List.append_nil] at st
        refine ⟨s9.trans s10, ?_⟩
        rw [st]
        exact s10 _ _ eD3
    · rintro H9 ⟨s9, eD3⟩
      rw [List.length_map] at eD3
      refine ⟨D3, _, rfl, .inr (SqL.of eD3), ?_⟩
      have len2 := erN_len (pl := plF g) (cs := cs) (plF g).length
      have el : t.names.map V.str ++ ((erN (plF g) cs (plF g).length).map V.str ++ []) = (t.names ++ erN (plF g) cs (plF g).length).map V.str := by rw [List.append_nil, List.map_append]
      refine ⟨Nat.le_of_lt (small1000 (by rw [el, List.length_map, List.length_append]; omega)), fun p hp => k p _ ((s03.trans s9).trans (same_new hp)) (by rw [upd_same, el])⟩
end

/-! ### the law -/
def rSlU (K : PySem.W.Frag) : V → Option Int → Option Int → Hp → VK → Prop := fun x lo hi H Q => ∃ a xs, x = .ref a ∧ SqT K H a xs ∧ ∀ p H', Same H H' → SqT K H' p (cutV xs lo hi) → Q (.ref p) H'
theorem sl_tupU {X : Cx} : SlR X (rSlU X.K) := by
  intro pins s σ H x v vl vu lo hi sl Q I rx hs pl pu h
  obtain ⟨a, xs, rfl, hx, k⟩ := h
  refine sl_tupA pins s σ H _ v vl vu lo hi sl Q I rx hs pl pu ⟨a, xs, rfl, hx, fun hw => k a H (Same.refl _) ?_, fun _ p hp => k p _ (same_new hp) (SqT.of upd_same)⟩
  have e : cutV xs lo hi = xs := by
    unfold cutV
    rw [hw.1, hw.2, List.drop_zero, Nat.sub_zero, List.take_length]
  rw [e]
  exact hx
def rCatV (K : PySem.W.Frag) : R2 := fun x y H Q => ∃ a b xs ys, x = .ref a ∧ y = .ref b ∧ SqT K H a xs ∧ SqT K H b ys ∧ xs.length + ys.length ≤ sizeLine ∧ ∀ p H', Same H H' → SqT K H' p (xs ++ ys) → Q (.ref p) H'
theorem op_catV {X : Cx} : OpR X (binaryOp .Add) (rCatV X.K) := fun pins s σ H x y v u Q I rx ry ⟨a, b, xs, ys, e1, e2, q1, q2, sz, k⟩ =>
  op_catA pins s σ H x y v u Q I rx ry ⟨a, b, xs, ys, e1, e2, q1, q2, sz, fun e => k b H (Same.refl _) (by rw [e]; exact q2), fun _ e => k a H (Same.refl _) (by rw [e, List.append_nil]; exact q1), fun _ _ p hp => k p _ (same_new hp) (SqT.of upd_same)⟩

/-! ### _law_cases -/
abbrev sLCs : Stmt := topS 75
abbrev NLCs : List Str := ["_law_tree_here", "_law_name", "_law_function", "_law_one", "_law_found", "_law_places", "_law_param", "_law_longer", "_law_case", "_law_earlier", "_law_k"]
abbrev PLCs : List Str := ["_law_tree_here", "_law_name"]
theorem scLCs : FnScope NLCs PLCs (defScope sLCs) := ⟨rfl, rfl, rfl, by decide +kernel, rfl, by decide +kernel, by decide +kernel⟩
structure TxLCs (mg : Str → Option Value) : Prop where
  n_range : mg "range" = none
  n_len : mg "len" = none
  n_list : mg "list" = none
def plJ (f : Fn) (j : Nat) : List Str := ((f.ps.take j).filter Prod.snd).map Prod.fst
theorem plJ_pre (f : Fn) (j : Nat) : ∃ r, plF f = plJ f j ++ r := by
  refine ⟨((f.ps.drop j).filter Prod.snd).map Prod.fst, ?_⟩
  unfold plF plJ
  rw [← List.map_append, ← List.filter_append, List.take_append_drop]
theorem plJ_at {f : Fn} {j i : Nat} {x : Str} (h : (plJ f j)[i]? = some x) : (plF f)[i]? = some x := by
  obtain ⟨r, e⟩ := plJ_pre f j
  rw [e, List.getElem?_append_left (List.getElem?_eq_some_iff.mp h).1]
  exact h
theorem plJ_len (f : Fn) (j : Nat) : (plJ f j).length ≤ (plF f).length := by
  obtain ⟨r, e⟩ := plJ_pre f j
  rw [e, List.length_append]
  omega
theorem plJ_next {f : Fn} {j : Nat} {q : Str × Bool} (h : f.ps[j]? = some q) : plJ f (j + 1) = plJ f j ++ if q.2 = true then [q.1] else [] := by
  unfold plJ
  rw [take_snoc h, List.filter_append, List.map_append, List.filter_cons]
  split <;> rfl
theorem plJ_all (f : Fn) : plJ f f.ps.length = plF f := by
  unfold plJ plF
  rw [List.take_length]
theorem filter_one {g : Fn} : ∀ {l : List Fn}, (l.map Fn.name).Nodup → g ∈ l → (l.filter fun f => decide (f.name = g.name)) = [g]
  | x :: r, nd, h => by
    rw [List.map_cons, List.nodup_cons] at nd
    rw [List.filter_cons]
    rcases List.mem_cons.mp h with rfl | h
    · rw [if_pos (decide_eq_true rfl), List.filter_eq_nil_iff.mpr]
      intro y hy z
      exact nd.1 (List.mem_map.mpr ⟨y, hy, of_decide_eq_true z⟩)
    · rw [if_neg, filter_one nd.2 h]
      intro z
      exact nd.1 (List.mem_map.mpr ⟨g, h, (of_decide_eq_true z).symm⟩)
def spLCs (K : PySem.W.Frag) : Sp := fun vs H Q _ => ∃ (v : V) (t : Tr) (f : Fn), vs = [v, .str f.name] ∧ Dp K H v (trD t) ∧ (t.fns.map Fn.name).Nodup ∧ f ∈ t.fns ∧ t.fns.length ≤ 6 ∧ f.ps.length ≤ 900 ∧ t.names.length ≤ 2 ∧ (plF f).length ≤ 2 ∧
  ∀ (q : Addr) (xs : List V) (H' : Hp), Same H H' → H q = none → H' q = some (.lst xs) → Paired (CsAt K H') xs (csT t.names (plF f) (plF f).length) → Q (.ref q) H'
section
variable {P : Program} {w : World} {K : PySem.W.Frag} {mg : Str → Option Value} {base : Heap}
theorem ok_LCs {f : Addr} {fd : FuncData} (F : Fun K "_law_cases" "_law_cases" sLCs f fd) (T : TxLCs mg) : FnOk P w K mg base CX0 1 f fd PLCs (spLCs K) := by
  refine F.ok scLCs (fun vs H Q E h => ?_) (fun cdv A outer s H vs Q E hr h => ?_)
  · obtain ⟨v, t, g, rfl, _⟩ := h
    rfl
  · obtain ⟨v, t, g, rfl, hv, nd, mf, l6, l9, lN, lP, k⟩ := h
    refine ⟨_, (pss_cons (ps_set (i := 2) scLCs.nd rfl (Or.inl rfl) (pe_ix (r := rIxL K) ix_list (pe_lc (own := [("_law_one", 3)]) (g := gName 3) rfl scLCs.nd (pi_tup (pe_ix (r := rIxT K) ix_tup (pv 0) pe_int (fun _ _ => rfl))) (blkOk_by (own := [("_law_one", 3)]) (N := NLCs) (sc := (defScope sLCs)) (by decide +kernel)) (fun _ _ _ _ _ => (pg_name (i := 3) scLCs.nd rfl (Or.inl rfl))) (fun _ _ _ _ _ => (pts_one (pt_cmpR (r := rEq) op_eq (pe_ix (r := rIxT K) ix_tup (pv 3) pe_int (fun _ _ => rfl)) (pv 1) (nomark _)))) (fun _ _ _ _ _ => (pv 3))) pe_int (fun _ _ => rfl)))
  (pss_cons (ps_set (i := 4) scLCs.nd rfl (Or.inl rfl) (pe_lst (pa_cons (pe_tup pa_nil) pa_nil)))
  (pss_cons (ps_set (i := 5) scLCs.nd rfl (Or.inr rfl) (pe_lst pa_nil))
  (pss_cons (ps_for PassesOwn.never rfl (pi_tup (pe_ix (r := rIxT K) ix_tup (pv 2) pe_int (fun _ _ => rfl))) (pg_name (i := 6) scLCs.nd rfl (Or.inl rfl))
  (pss_one (ps_if (pt_val (pe_ix (r := rIxT K) ix_tup (pv 6) pe_int (fun _ _ => rfl)))
  (pss_cons (ps_set (i := 7) scLCs.nd rfl (Or.inl rfl) (pe_lst pa_nil))
  (pss_cons (ps_for PassesOwn.never rfl (pi_list (pv 4)) (pg_name (i := 8) scLCs.nd rfl (Or.inr rfl))
  (pss_cons (ps_setLc (i := 9) (own := [("_law_k", 10)]) (g := gName 10) rfl scLCs.nd rfl rfl (sw_true rfl rfl rfl (by decide +kernel)) (pi_range1 (by rfl) T.n_range (pa_cons (pe_callB call_len_seq (by rfl) T.n_len bb_len (pa_cons (pv 5) pa_nil)) pa_nil)) (blkOk_by (own := [("_law_k", 10)]) (N := NLCs) (sc := (defScope sLCs)) (by decide +kernel)) (fun _ _ _ _ _ => (pg_name (i := 10) scLCs.nd rfl (Or.inl rfl))) (fun _ _ _ _ _ => (pts_one (pt_cmpR (r := rEq) op_eq (pe_ix (r := rIxT K) ix_tup (pv 8) (pv 10) (fun _ _ => rfl)) (pe_ix (r := rIxL K) ix_list (pv 5) (pv 10) (fun _ _ => rfl)) (nomark _)))) (fun _ _ _ _ _ => (pe_ix (r := rIxL K) ix_list (pv 5) (pv 10) (fun _ _ => rfl))))
  (pss_one (ps_set (i := 7) scLCs.nd rfl (Or.inl rfl) (pe_op op_cat (pv 7) (pe_lc (own := [("_law_one", 3)]) (g := gName 3) (tt := tYes) rfl scLCs.nd (pi_list (pe_op op_cat (pe_op op_cat (pe_callTy call_list_of (by rfl) T.n_list bb_list (pa_cons (pe_ix (r := rIxT K) ix_tup (pv 0) pe_int (fun _ _ => rfl)) pa_nil)) (pv 9)) (pe_lst (pa_cons (pe_ix (r := rIxT K) ix_tup (pv 6) pe_int (fun _ _ => rfl)) pa_nil)))) (blkOk_by (own := [("_law_one", 3)]) (N := NLCs) (sc := (defScope sLCs)) (by decide +kernel)) (fun _ _ _ _ _ => (pg_name (i := 3) scLCs.nd rfl (Or.inl rfl))) (fun _ _ _ _ _ => pts_nil) (fun _ _ _ _ _ => (pe_op (r := rCatV K) op_catV (pv 8) (pe_tup (pa_cons (pv 3) pa_nil))))))))))
  (pss_cons (ps_set (i := 4) scLCs.nd rfl (Or.inl rfl) (pv 7))
  (pss_one (ps_expr (pe_bm PySem.F.plainAttrs_list PySem.F.slot_list_append PySem.F.type_list_append mt_append (pv 5) (pa_cons (pe_ix (r := rIxT K) ix_tup (pv 6) pe_int (fun _ _ => rfl)) pa_nil)))))))
  pss_nil)))
  (pss_one (ps_ret (pv 4))))))), ?_⟩
    have hv' : Dp K H v (.tuple [nmD t.names, nmD t.kinds, .tuple (t.keeps.map exD), .tuple (t.fns.map fnD)]) := hv
    obtain ⟨ca, xs, rfl, hq, hd⟩ := hv'.tupInv
    obtain ⟨x0, x1, x2, x3, rfl, h0, _, _, h3⟩ := hd.four
    obtain ⟨c, zs, rfl, hc, hcd⟩ := h3.tupInv
    have pf := DpAll.map hcd
    have lz := Paired.length pf
    obtain ⟨ga, gs, rfl, hg, hgd⟩ := h0.tupInv
    have egs : gs = t.names.map V.str := dp_strs hgd
    subst egs
    refine ⟨_, rfl, ca, _, _, _, rfl, rfl, hq, rfl, c, rfl, ⟨_, hc⟩, fun D hD => ?_⟩
    refine lc_tup (K := K) (a := c) (xs := zs) (fun i H' => Same H H' ∧ ∃ ys, H' D = some (.lst ys) ∧ Paired (fun x f => Dp K H x (fnD f)) ys ((t.fns.take i).filter fun f => decide (f.name = g.name))) ⟨same_new hD, [], upd_same, .nil⟩ (fun i H' _ h' => SqT.same h'.1 hc) ?_ ?_
    · rintro i x H1 hx ⟨s1, ys, eD, py⟩
      obtain ⟨fn, hfn, hfd⟩ := Paired.at pf hx
      have hfd' : Dp K H x (.tuple [.str fn.name, .tuple (fn.ps.map prD), blD fn.b]) := hfd
      obtain ⟨d, ds, rfl, hd1, hdd⟩ := hfd'.tupInv
      obtain ⟨u1, u2, u3, rfl, g1, _, _⟩ := hdd.three
      rw [g1.strInv] at hd1
      have ly := Paired.length py
      have lf := List.length_filter_le (fun f => decide (f.name = g.name)) (t.fns.take i)
      rw [List.length_take] at lf
      refine ⟨rfl, _, rfl, d, _, _, _, rfl, rfl, SqT.same s1 hd1, rfl, _, rfl, rfl, _, rfl, ite2 (fun he => ?_) (fun he => ?_)⟩
      · have en : fn.name = g.name := by have := of_decide_eq_true he; injection this
        refine ⟨_, rfl, _, eD, small1000 (by omega), fun b o e => ?_, _, upd_same, ?_⟩
        · rw [upd_ne (ne_of_none e hD)]
          exact s1 b o e
        · rw [take_snoc hfn, List.filter_append, List.filter_cons, if_pos (decide_eq_true en)]
          exact Paired.snoc py hfd
      · have en : fn.name ≠ g.name := fun q => he (decide_eq_true (by rw [q]))
        refine ⟨s1, ys, eD, ?_⟩
        rw [take_snoc hfn, List.filter_append, List.filter_cons, if_neg (by rw [decide_eq_false en]; decide)]
        simpa using py
    rintro H1 ⟨s1, ys, eD, py⟩
    rw [lz, List.take_length, filter_one nd mf] at py
    obtain ⟨vf, rfl, dvf⟩ : ∃ vf, ys = [vf] ∧ Dp K H vf (fnD g) := by
      cases py with
      | cons a b => cases b; exact ⟨_, rfl, a⟩
    have dvf' : Dp K H vf (.tuple [.str g.name, .tuple (g.ps.map prD), blD g.b]) := dvf
    obtain ⟨fa, fs, rfl, hfa, hfd⟩ := dvf'.tupInv
    obtain ⟨v1, v2, v3, rfl, w1, w2, _⟩ := hfd.three
    obtain ⟨pa0, ps, rfl, hp, hpd⟩ := w2.tupInv
    have pp := DpAll.map hpd
    have lp : ps.length = g.ps.length := Paired.length pp
    refine ⟨D, _, _, _, rfl, rfl, SqL.of eD, rfl, ?_⟩
    refine ⟨(by show 0 ≤ sizeLine; decide), fun z hz => ?_⟩
    have s2 := s1.trans (same_new (o := .tup []) hz)
    refine ⟨(by show 1 ≤ sizeLine; decide), fun f0 hf0 => ?_⟩
    have s3 := s2.trans (same_new (o := .lst [V.ref z]) hf0)
    have nf0 := none_same s2 hf0
    have ez : SqT K (upd (upd H1 z (.tup [])) f0 (.lst [V.ref z])) z (([] : List Str).map V.str) := SqT.of ((same_new hf0) _ _ upd_same)
    have ef0 : upd (upd H1 z (.tup [])) f0 (.lst [V.ref z]) f0 = some (.lst [V.ref z]) := upd_same
    generalize upd (upd H1 z (.tup [])) f0 (.lst [V.ref z]) = H2 at *
    refine ⟨(by show 0 ≤ sizeLine; decide), fun pa hpa => ?_⟩
    have npa := none_same s3 hpa
    have sp := same_new (o := .lst []) hpa
    have s4 := s3.trans sp
    refine ⟨_, rfl, fa, _, _, _, rfl, rfl, SqT.same s4 hfa, rfl, pa0, rfl, ⟨_, SqT.same s4 hp⟩, ?_⟩
    refine for_tup (K := K) (a := pa0) (xs := ps) (fun j σ H' => Same H H' ∧ H' pa = some (.lst ((plJ g j).map V.str)) ∧ ∃ (fo : Addr) (xs : List V) (x6 x7 x8 x9 : Option V), σ = [some (.ref ca), some (.str g.name), some (.ref fa), none, some (.ref fo), some (.ref pa), x6, x7, x8, x9, none] ∧ H fo = none ∧ fo ≠ pa ∧ H' fo = some (.lst xs) ∧ Paired (CsAt K H') xs (csT t.names (plF g) (plJ g j).length)) ⟨s4, upd_same, f0, _, _, _, _, _, rfl, nf0, ne_of_none ef0 hpa, sp _ _ ef0, .cons ⟨z, rfl, SqT.same sp ez⟩ .nil⟩ (fun j σ H' _ h' => SqT.same h'.1 hp) ?_ ?_
    · rintro j x σ H4 hx ⟨s4, eq4, fo, xs, x6, x7, x8, x9, rfl, nfo, nfp, efo, pxs⟩
      obtain ⟨q, ht, htd⟩ := Paired.at pp hx
      have htd : Dp K H x (.tuple [.str q.1, .bool q.2]) := htd
      obtain ⟨cc, zs2, rfl, hcc, hccd⟩ := htd.tupInv
      obtain ⟨u, w, rfl, hu, hw⟩ := hccd.two
      rw [hu.strInv, Dp.blInv hw] at hcc
      have nx := plJ_next ht
      refine ⟨_, rfl, cc, _, _, _, rfl, rfl, SqT.same s4 hcc, rfl, q.2, rfl, ?_⟩
      cases hb : q.2 with
      | false =>
        rw [hb, if_neg (by decide), List.append_nil] at nx
        refine iteF ⟨s4, ?_⟩
        rw [nx]
        exact ⟨eq4, fo, xs, _, _, _, _, rfl, nfo, nfp, efo, pxs⟩
      | true =>
        rw [hb, if_pos rfl] at nx
        refine iteT ?_
        obtain ⟨J, eJ⟩ : ∃ J, J = (plJ g j).length := ⟨_, rfl⟩
        have hJ : (plF g)[J]? = some q.1 := plJ_at (f := g) (j := j + 1) (by rw [nx, eJ, List.getElem?_append_right (Nat.le_refl _), Nat.sub_self]; rfl)
        have lJ : J + 1 ≤ (plF g).length := by
          have := plJ_len g (j + 1)
          rw [nx, List.length_append, ← eJ] at this
          exact this
        have nJ : (plJ g (j + 1)).length = J + 1 := by rw [nx, List.length_append, ← eJ]; rfl
        rw [← eJ] at pxs
        have lxs := Paired.length pxs
        have sz := csT_sz (pl := plF g) lN (show J ≤ 2 by omega)
        have sz2 := csT_sz (pl := plF g) lN (show J + 1 ≤ 2 by omega)
        have hPl : ∀ {i : Nat} {x : Str}, i < J → (plF g)[i]? = some x → (plJ g j)[i]? = some x := fun {i x} hi h => by
          obtain ⟨r, e⟩ := plJ_pre g j
          rw [e, List.getElem?_append_left (by rw [← eJ]; exact hi)] at h
          exact h
        refine ⟨(by show 0 ≤ sizeLine; decide), fun lo hlo => ?_⟩
        have s5 := same_new (o := .lst []) hlo
        have s45 := s4.trans s5
        have nlo := none_same s4 hlo
        have nlp : lo ≠ pa := (ne_of_none eq4 hlo).symm
        have eq5 := s5 _ _ eq4
        have efo5 := s5 _ _ efo
        have pxs5 := Paired.mapP pxs fun _ _ z => CsAt.tps (Tps.of s5) z
        have elo : upd H4 lo (.lst []) lo = some (.lst []) := upd_same
        generalize upd H4 lo (.lst []) = H5 at *
        refine ⟨_, rfl, fo, rfl, ⟨_, SqL.of efo5⟩, ?_⟩
        refine for_list (K := K) (a := fo) (xs := xs) (fun i σ H' => Same H5 H' ∧ ∃ (lo : Addr) (ys : List V) (x8 x9 : Option V), σ = [some (.ref ca), some (.str g.name), some (.ref fa), none, some (.ref fo), some (.ref pa), some (.ref cc), some (.ref lo), x8, x9, none] ∧ H lo = none ∧ lo ≠ pa ∧ H' lo = some (.lst ys) ∧ Paired (CsAt K H') ys (((csT t.names (plF g) J).take i).flatMap (ext t.names (plF g) J))) ⟨Same.refl _, lo, [], _, _, rfl, nlo, nlp, elo, .nil⟩ (fun i σ H' _ h' => SqL.of (h'.1 _ _ efo5)) ?_ ?_
        · rintro i x σ H6 hx ⟨s6, lo, ys, x8, x9, rfl, nlo, nlp, eys, pys⟩
          obtain ⟨cs, hcs, b, rfl, hb5⟩ := Paired.at pxs5 hx
          have lcs := csT_mem (List.mem_of_getElem? hcs)
          have s06 := s45.trans s6
          have hb6 := SqT.same s6 hb5
          have eq6 := s6 _ _ eq5
          have e62 : (2 : Int) ^ 62 = 4611686018427387904 := by decide
          refine ⟨_, rfl, pa, _, rfl, .inl (SqL.of eq6), (((plJ g j).map V.str).length : Int), rfl, by omega, by rw [List.length_map]; omega, fun D hD => ?_⟩
          refine lc_range (lo := 0) (n := (((plJ g j).map V.str).length : Int).toNat) (fun i H' => Same H6 H' ∧ H' D = some (.lst ((erN (plF g) cs i).map V.str))) ⟨same_new hD, upd_same⟩ ?_ ?_
          · rintro i2 H7 hi2 ⟨s7, eD⟩
            have hi2 : i2 < J := by rw [List.length_map, ← eJ] at hi2; omega
            obtain ⟨w2, hw2⟩ : ∃ w2, (plF g)[i2]? = some w2 := ⟨_, List.getElem?_eq_getElem (by omega)⟩
            obtain ⟨c2, hc2⟩ : ∃ c2, cs[i2]? = some c2 := ⟨_, List.getElem?_eq_getElem (by omega)⟩
            have st : erN (plF g) cs (i2 + 1) = erN (plF g) cs i2 ++ if c2 = w2 then [w2] else [] := by
              show erN (plF g) cs i2 ++ (if cs.getD i2 "" = (plF g).getD i2 "" then [(plF g).getD i2 ""] else []) = _
              rw [getD_at hw2, getD_at hc2]
            have len2 := erN_len (pl := plF g) (cs := cs) i2
            have ac : atI (cs.map V.str) (0 + ((i2 : Nat) : Int)) = some (.str c2) := by rw [Int.zero_add]; exact atI_nat (by rw [List.getElem?_map, hc2]; rfl)
            have aw : atI ((plJ g j).map V.str) (0 + ((i2 : Nat) : Int)) = some (.str w2) := by rw [Int.zero_add]; exact atI_nat (by rw [List.getElem?_map, hPl hi2 hw2]; rfl)
            refine ⟨rfl, _, rfl, _, rfl, b, _, _, _, rfl, rfl, SqT.same s7 hb6, ac, _, rfl, _, rfl, pa, _, _, _, rfl, rfl, SqL.of (s7 _ _ eq6), aw, rfl, _, rfl, ite2 (fun he => ?_) (fun he => ?_)⟩
            · have ew : c2 = w2 := by have := of_decide_eq_true he; injection this
              rw [if_pos ew] at st
              refine ⟨_, rfl, _, rfl, pa, _, _, _, rfl, rfl, SqL.of (s7 _ _ eq6), aw, _, eD, small1000 (by rw [List.length_map]; omega), fun b o e => ?_, ?_⟩
              · rw [upd_ne (ne_of_none e hD)]
                exact s7 b o e
              · rw [upd_same, st, List.map_append]
                rfl
            · have ew : c2 ≠ w2 := fun q => he (decide_eq_true (by rw [q]))
              rw [if_neg ew, List.append_nil] at st
              refine ⟨s7, ?_⟩
              rw [st]
              exact eD
          · rintro H7 ⟨s7, eD⟩
            have eD : H7 D = some (.lst ((erN (plF g) cs J).map V.str)) := by
              rw [List.length_map, ← eJ] at eD
              exact eD
            obtain ⟨wl, ewl⟩ : ∃ wl, wl = t.names ++ (erN (plF g) cs J ++ [q.1]) := ⟨_, rfl⟩
            have len3 := erN_len (pl := plF g) (cs := cs) J
            have lwl : wl.length ≤ 5 := by
              rw [ewl, List.length_append, List.length_append]
              show _ + (_ + 1) ≤ 5
              omega
            have eds : t.names.map V.str ++ (erN (plF g) cs J).map V.str ++ [V.str q.1] = wl.map V.str := by rw [ewl, List.map_append, List.map_append, List.append_assoc]; rfl
            have eext : ext t.names (plF g) J cs = wl.map fun o => cs ++ [o] := by
              unfold ext
              rw [ewl, getD_at hJ]
            have s07 := s06.trans s7
            have s67 := s6.trans s7
            refine ⟨_, rfl, _, rfl, ca, _, _, _, rfl, rfl, SqT.same s07 hq, rfl, ga, _, rfl, .inr (SqT.same s07 hg), fun l1 hl1 => ?_⟩
            have t1 := same_new (o := .lst (t.names.map V.str)) hl1
            refine ⟨_, rfl, l1, D, _, _, rfl, rfl, upd_same, t1 _ _ eD, Nat.le_of_lt (small1000 (by rw [List.length_map, List.length_map]; omega)), fun l2 hl2 => ?_⟩
            have t2 := t1.trans (same_new (o := .lst (t.names.map V.str ++ (erN (plF g) cs J).map V.str)) hl2)
            refine ⟨_, rfl, cc, _, _, _, rfl, rfl, SqT.same (s07.trans t2) hcc, rfl, (by show 1 ≤ sizeLine; decide), fun l3 hl3 => ?_⟩
            have t3' := same_new (o := .lst [V.str q.1]) hl3
            have t3 := t2.trans t3'
            refine ⟨l2, l3, _, _, rfl, rfl, t3' _ _ upd_same, upd_same, Nat.le_of_lt (small1000 (by rw [List.length_append, List.length_map, List.length_map]; show _ + 1 ≤ 1000; omega)), fun l4 hl4 => ?_⟩
            have t4 := t3.trans (same_new (o := .lst (t.names.map V.str ++ (erN (plF g) cs J).map V.str ++ [V.str q.1])) hl4)
            rw [eds] at *
            generalize upd (upd (upd H7 l1 (.lst (t.names.map V.str))) l2 (.lst (t.names.map V.str ++ (erN (plF g) cs J).map V.str))) l3 (.lst [V.str q.1]) = HH at *
            have eL : upd HH l4 (.lst (wl.map V.str)) l4 = some (.lst (wl.map V.str)) := upd_same
            generalize upd HH l4 (.lst (wl.map V.str)) = H8 at *
            refine ⟨l4, rfl, ⟨_, SqL.of eL⟩, fun D2 hD2 => ?_⟩
            have hb8 := SqT.same (s7.trans t4) hb6
            refine lc_list (K := K) (a := l4) (xs := wl.map V.str) (fun i H' => Same H8 H' ∧ ∃ zs, H' D2 = some (.lst zs) ∧ Paired (CsAt K H') zs ((wl.take i).map fun o => cs ++ [o])) ⟨same_new hD2, [], upd_same, .nil⟩ (fun i H' _ h' => SqL.of (h'.1 _ _ eL)) ?_ ?_
            · rintro i3 x H11 hx3 ⟨s11, zs, eD2, pz⟩
              obtain ⟨o3, ho3⟩ : ∃ o3, wl[i3]? = some o3 := by
                have := (List.getElem?_eq_some_iff.mp hx3).1
                rw [List.length_map] at this
                exact ⟨_, List.getElem?_eq_getElem this⟩
              rw [List.getElem?_map, ho3] at hx3
              cases hx3
              have lz := Paired.length pz
              rw [List.length_map, List.length_take] at lz
              refine ⟨rfl, _, rfl, _, rfl, (by show 1 ≤ sizeLine; decide), fun tt htt => ?_⟩
              have s12 := same_new (o := .tup [V.str o3]) htt
              refine ⟨b, tt, _, _, rfl, rfl, SqT.same (s11.trans s12) hb8, SqT.of upd_same, Nat.le_of_lt (small1000 (by rw [List.length_map]; show _ + 1 ≤ 1000; omega)), fun T' H12 s13 qT => ?_⟩
              have s14 := s12.trans s13
              refine ⟨_, s14 _ _ eD2, small1000 (by omega), fun b o e => ?_, zs ++ [.ref T'], upd_same, ?_⟩
              · rw [upd_ne (ne_of_none e hD2)]
                exact s14 b o (s11 b o e)
              · have tq := Tps.lst (q := D2) (o := .lst (zs ++ [V.ref T'])) (s14 _ _ eD2)
                rw [take_snoc ho3, List.map_append]
                exact Paired.snoc (Paired.mapP pz fun _ _ z => z.tps ((Tps.of s14).trans tq)) ⟨T', rfl, tq.sqt (by rw [List.map_append]; exact qT)⟩
            · rintro H11 ⟨s11, zs, eD2, pz⟩
              rw [List.length_map, List.take_length, ← eext] at pz
              have s611 := (s7.trans t4).trans s11
              have ly := Paired.length pys
              have lz := Paired.length pz
              have fl := flat_len (f := ext t.names (plF g) J) (l := csT t.names (plF g) J) i
              have ex := ext_len (gl := t.names) (pl := plF g) (j := J) (cs := cs)
              have e2 : (csT t.names (plF g) (J + 1)).length = ((csT t.names (plF g) J).flatMap (ext t.names (plF g) J)).length := rfl
              refine ⟨lo, D2, _, _, rfl, rfl, s611 _ _ eys, eD2, Nat.le_of_lt (small1000 (by omega)), fun lo2 hlo2 => ?_⟩
              have s15 := same_new (o := .lst (ys ++ zs)) hlo2
              have s16 := (s6.trans s611).trans s15
              refine ⟨s16, lo2, ys ++ zs, _, _, rfl, none_same (s45.trans (s6.trans s611)) hlo2, (ne_of_none ((s6.trans s611) _ _ eq5) hlo2).symm, upd_same, ?_⟩
              rw [flat_snoc hcs]
              exact Paired.appendP (Paired.mapP pys fun _ _ z => z.tps (Tps.of (s611.trans s15))) (Paired.mapP pz fun _ _ z => z.tps (Tps.of s15))
        · rintro σ H6 ⟨s6, lo, ys, x8, x9, rfl, nlo, nlp, eys, pys⟩
          rw [lxs, List.take_length] at pys
          refine ⟨_, rfl, _, rfl, .inl ⟨rfl, _, .inl (.inl (s6 _ _ eq5))⟩, _, rfl, cc, _, _, _, rfl, rfl, SqT.same (s45.trans s6) hcc, rfl, pa, _, _, rfl, rfl, s6 _ _ eq5, small1000 (by rw [List.length_map]; omega), ?_⟩
          have tq := Tps.lst (q := pa) (o := .lst ((plJ g j).map V.str ++ [V.str q.1])) (s6 _ _ eq5)
          refine ⟨fun b o e => ?_, ?_, lo, ys, _, _, _, _, rfl, nlo, nlp, ?_, ?_⟩
          · rw [upd_ne (ne_of_none e npa)]
            exact (s45.trans s6) b o e
          · rw [upd_same, nx, List.map_append]
            rfl
          · rw [upd_ne nlp]
            exact eys
          · rw [nJ]
            exact Paired.mapP pys fun _ _ z => z.tps tq
    · rintro σ H4 ⟨s4, eq4, fo, xs, x6, x7, x8, x9, rfl, nfo, nfp, efo, pxs⟩
      rw [lp, plJ_all] at pxs
      exact ⟨_, rfl, k fo xs H4 s4 nfo efo pxs⟩
end

/-! ### _law_bent -/
abbrev sLBt : Stmt := topS 78
abbrev NLBt : List Str := ["_law_pool_here", "_law_tree_here", "_law_function", "_law_case", "_law_words", "_law_param", "_law_word", "_law_at", "_law_choice"]
abbrev PLBt : List Str := ["_law_pool_here", "_law_tree_here", "_law_function", "_law_case"]
theorem scLBt : FnScope NLBt PLBt (defScope sLBt) := ⟨rfl, rfl, rfl, by decide +kernel, rfl, by decide +kernel, by decide +kernel⟩
structure TxLBt (mg : Str → Option Value) : Prop where
  n_len : mg "len" = none
  n_list : mg "list" = none
theorem DqAll.append {K : PySem.W.Frag} {H : Hp} : ∀ {xs ys : List V} {ds es : List PyData}, DqAll K H xs ds → DqAll K H ys es → DqAll K H (xs ++ ys) (ds ++ es)
  | _, _, _, _, .nil, h => h
  | _, _, _, _, .cons a b, h => .cons a (DqAll.append b h)
theorem dq_strs {K : PySem.W.Frag} {H : Hp} : ∀ l : List Str, DqAll K H (l.map V.str) (l.map PyData.str)
  | [] => .nil
  | _ :: r => .cons (.str _) (dq_strs r)
theorem bent_tup {K : PySem.W.Frag} {H : Hp} {p : Addr} {l1 l2 : List Str} {mid : List V} {dm : List PyData} (h : SqT K H p (l1.map V.str ++ mid ++ l2.map V.str)) (hm : DqAll K H mid dm) (gm : ∀ d ∈ dm, Gd d 1) (o1 : ∀ s ∈ l1, PyData.strOk s = true) (o2 : ∀ s ∈ l2, PyData.strOk s = true) (l : l1.length + dm.length + l2.length ≤ 1000) :
    ∃ d, Dq K H (.ref p) d ∧ Gd d 2 := by
  refine ⟨.tuple (l1.map PyData.str ++ dm ++ l2.map PyData.str), .tup h (DqAll.append (DqAll.append (dq_strs l1) hm) (dq_strs l2)), Gd.tup (fun d hd => ?_) (by rw [List.length_append, List.length_append, List.length_map, List.length_map]; exact l)⟩
  rcases List.mem_append.mp hd with hd | hd
  · rcases List.mem_append.mp hd with hd | hd
    · obtain ⟨s, hs, rfl⟩ := List.mem_map.mp hd
      exact (Gd.str (o1 s hs)).mono (by decide)
    · exact gm d hd
  · obtain ⟨s, hs, rfl⟩ := List.mem_map.mp hd
    exact (Gd.str (o2 s hs)).mono (by decide)
/-- a value that is the same in every heap -/
def Scal (v : V) (d : PyData) : Prop := Gd d 0 ∧ ∀ (K : PySem.W.Frag) (H : Hp), Dq K H v d
def spLBt (K : PySem.W.Frag) : Sp := fun vs H Q _ => ∃ (p c : Addr) (lim : V) (n : Nat) (v gv : V) (t : Tr) (g : Fn) (b : Addr) (cs : List Str), vs = [.ref p, v, gv, .ref b] ∧ PoolAt H p c lim n ∧ n < 100000000000 ∧ Dp K H v (trD t) ∧ Dp K H gv (fnD g) ∧ SqT K H b (cs.map V.str) ∧
  t.names.length ≤ 2 ∧ t.kinds.length ≤ 10 ∧ g.ps.length ≤ 10 ∧ cs.length ≤ 2 ∧ (∀ s, s ∈ t.names ∨ s ∈ t.kinds ∨ s ∈ prs g ∨ s = g.name ∨ s ∈ cs → PyData.strOk s = true) ∧
  ∀ (w : V) (d : PyData) (H' : Hp), PoolAt H' p c lim (n + 3) → But p c H H' → Dq K H' w d → Gd d 2 → Q w H'
section
variable {P : Program} {w : World} {K : PySem.W.Frag} {mg : Str → Option Value} {base : Heap}
theorem ok_LBt {f : Addr} {fd : FuncData} (F : Fun K "_law_bent" "_law_bent" sLBt f fd) (T : TxLBt mg) (GD : Has P w K mg base CX0 2 "_law_draw" PDraw spDraw) : FnOk P w K mg base CX0 3 f fd PLBt (spLBt K) := by
  refine F.ok scLBt (fun vs H Q E h => ?_) (fun cdv A outer s H vs Q E hr h => ?_)
  · obtain ⟨p, c, lim, n, v, gv, t, g, b, cs, rfl, _⟩ := h
    rfl
  · obtain ⟨p, c, lim, n, v, gv, t, g, b, cs, rfl, P0, hn, hv, hgv, hb, lN, lK, lP, lc, hok, k⟩ := h
    refine ⟨_, (pss_cons (ps_set (i := 4) scLBt.nd rfl (Or.inl rfl) (pe_op op_cat (pe_op op_cat (pe_op op_cat (pe_callTy call_list_of (by rfl) T.n_list bb_list (pa_cons (pe_ix (r := rIxT K) ix_tup (pv 1) pe_int (fun _ _ => rfl)) pa_nil)) (pe_callTy call_list_of (by rfl) T.n_list bb_list (pa_cons (pe_ix (r := rIxT K) ix_tup (pv 1) pe_int (fun _ _ => rfl)) pa_nil))) (pe_lc (own := [("_law_param", 5)]) (g := gName 5) (tt := tYes) rfl scLBt.nd (pi_tup (pe_ix (r := rIxT K) ix_tup (pv 2) pe_int (fun _ _ => rfl))) (blkOk_by (own := [("_law_param", 5)]) (N := NLBt) (sc := (defScope sLBt)) (by decide +kernel)) (fun _ _ _ _ _ => (pg_name (i := 5) scLBt.nd rfl (Or.inl rfl))) (fun _ _ _ _ _ => pts_nil) (fun _ _ _ _ _ => (pe_ix (r := rIxT K) ix_tup (pv 5) pe_int (fun _ _ => rfl))))) (pe_lst (pa_cons (pe_ix (r := rIxT K) ix_tup (pv 2) pe_int (fun _ _ => rfl)) (pa_cons pe_str (pa_cons pe_non (pa_cons pe_int pa_nil)))))))
  (pss_cons (ps_set (i := 6) scLBt.nd rfl (Or.inl rfl) (pe_ix (r := rIxL K) ix_list (pv 4) (pe_callH GD hr rfl pass0 (pa_cons (pv 0) (pa_cons (pe_callB call_len_seq (by rfl) T.n_len bb_len (pa_cons (pv 4) pa_nil)) pa_nil))) (fun _ _ => rfl)))
  (pss_cons (ps_set (i := 7) scLBt.nd rfl (Or.inl rfl) (pe_callH GD hr rfl pass0 (pa_cons (pv 0) (pa_cons (pe_op op_add (pe_callB call_len_seq (by rfl) T.n_len bb_len (pa_cons (pv 3) pa_nil)) pe_int) pa_nil))))
  (pss_cons (ps_set (i := 8) scLBt.nd rfl (Or.inl rfl) (pe_callH GD hr rfl pass0 (pa_cons (pv 0) (pa_cons pe_int pa_nil))))
  (pss_cons (ps_if (pt_cmpR op_eq (pv 8) pe_int (nomark _))
  (pss_one (ps_ret (pe_op op_catV (pe_slice sl_tupU (pv 3) po_none (po_some (pv 7))) (pe_slice sl_tupU (pv 3) (po_some (pe_op op_add (pv 7) pe_int)) po_none))))
  pss_nil)
  (pss_cons (ps_if (pt_cmpR op_eq (pv 8) pe_int (nomark _))
  (pss_one (ps_ret (pe_op op_catV (pe_op op_catV (pe_slice sl_tupU (pv 3) po_none (po_some (pv 7))) (pe_tup (pa_cons (pe_lst (pa_cons (pv 6) pa_nil)) pa_nil))) (pe_slice sl_tupU (pv 3) (po_some (pe_op op_add (pv 7) pe_int)) po_none))))
  pss_nil)
  (pss_cons (ps_if (pt_cmpR op_eq (pv 8) pe_int (nomark _))
  (pss_one (ps_ret (pe_op op_catV (pe_op op_catV (pe_slice sl_tupU (pv 3) po_none (po_some (pv 7))) (pe_tup (pa_cons (pv 6) pa_nil))) (pe_slice sl_tupU (pv 3) (po_some (pv 7)) po_none))))
  pss_nil)
  (pss_cons (ps_if (pt_cmpR op_eq (pv 8) pe_int (nomark _))
  (pss_one (ps_ret (pe_callTy call_list_of (by rfl) T.n_list bb_list (pa_cons (pv 3) pa_nil))))
  pss_nil)
  (pss_cons (ps_if (pt_cmpR op_eq (pv 8) pe_int (nomark _))
  (pss_one (ps_ret (pv 6)))
  pss_nil)
  (pss_one (ps_ret (pe_op op_catV (pe_op op_catV (pe_slice sl_tupU (pv 3) po_none (po_some (pv 7))) (pe_tup (pa_cons (pv 6) pa_nil))) (pe_slice sl_tupU (pv 3) (po_some (pe_op op_add (pv 7) pe_int)) po_none))))))))))))), ?_⟩
    have hv' : Dp K H v (.tuple [nmD t.names, nmD t.kinds, .tuple (t.keeps.map exD), .tuple (t.fns.map fnD)]) := hv
    obtain ⟨ca, xs, rfl, hq, hd⟩ := hv'.tupInv
    obtain ⟨x0, x1, x2, x3, rfl, h0, h1, _, _⟩ := hd.four
    obtain ⟨ga, gs, rfl, hg, hgd⟩ := h0.tupInv
    have egs : gs = t.names.map V.str := dp_strs hgd
    subst egs
    obtain ⟨ka, ks, rfl, hk, hkd⟩ := h1.tupInv
    have eks : ks = t.kinds.map V.str := dp_strs hkd
    subst eks
    have hgv' : Dp K H gv (.tuple [.str g.name, .tuple (g.ps.map prD), blD g.b]) := hgv
    obtain ⟨fa, fs, rfl, hfa, hfd⟩ := hgv'.tupInv
    obtain ⟨v1, v2, v3, rfl, w1, w2, _⟩ := hfd.three
    rw [w1.strInv] at hfa
    obtain ⟨pa0, ps, rfl, hp, hpd⟩ := w2.tupInv
    have pp := DpAll.map hpd
    have lp : ps.length = g.ps.length := Paired.length pp
    refine ⟨_, rfl, ca, _, _, _, rfl, rfl, hq, rfl, ga, _, rfl, .inr hg, fun l1 hl1 => ?_⟩
    have t1 := same_new (o := .lst (t.names.map V.str)) hl1
    refine ⟨_, rfl, ca, _, _, _, rfl, rfl, SqT.same t1 hq, rfl, ka, _, rfl, .inr (SqT.same t1 hk), fun l2 hl2 => ?_⟩
    have t2' := same_new (o := .lst (t.kinds.map V.str)) hl2
    have t2 := t1.trans t2'
    refine ⟨l1, l2, _, _, rfl, rfl, t2' _ _ upd_same, upd_same, Nat.le_of_lt (small1000 (by rw [List.length_map, List.length_map]; omega)), fun l3 hl3 => ?_⟩
    have t3 := t2.trans (same_new (o := .lst (t.names.map V.str ++ t.kinds.map V.str)) hl3)
    have e3 : upd (upd (upd H l1 (.lst (t.names.map V.str))) l2 (.lst (t.kinds.map V.str))) l3 (.lst (t.names.map V.str ++ t.kinds.map V.str)) l3 = some (.lst (t.names.map V.str ++ t.kinds.map V.str)) := upd_same
    generalize upd (upd (upd H l1 (.lst (t.names.map V.str))) l2 (.lst (t.kinds.map V.str))) l3 (.lst (t.names.map V.str ++ t.kinds.map V.str)) = H3 at *
    refine ⟨_, rfl, fa, _, _, _, rfl, rfl, SqT.same t3 hfa, rfl, pa0, rfl, ⟨_, SqT.same t3 hp⟩, fun D hD => ?_⟩
    refine lc_tup (K := K) (a := pa0) (xs := ps) (fun i H' => Same H3 H' ∧ H' D = some (.lst (((g.ps.take i).map Prod.fst).map V.str))) ⟨same_new hD, upd_same⟩ (fun i H' _ h' => SqT.same (t3.trans h'.1) hp) ?_ ?_
    · rintro i x H4 hx ⟨s4, eD⟩
      obtain ⟨q, ht, htd⟩ := Paired.at pp hx
      have htd : Dp K H x (.tuple [.str q.1, .bool q.2]) := htd
      obtain ⟨cc, zs2, rfl, hcc, hccd⟩ := htd.tupInv
      obtain ⟨u, w, rfl, hu, hw⟩ := hccd.two
      rw [hu.strInv] at hcc
      refine ⟨rfl, _, rfl, cc, _, _, _, rfl, rfl, SqT.same (t3.trans s4) hcc, rfl, _, eD, small1000 (by rw [List.length_map, List.length_map, List.length_take]; omega), fun b o e => ?_, ?_⟩
      · rw [upd_ne (ne_of_none e hD)]
        exact s4 b o e
      · rw [upd_same, take_snoc ht, List.map_append, List.map_append]
        rfl
    rintro H4 ⟨s4, eD⟩
    rw [lp, List.take_length] at eD
    have t4 := t3.trans s4
    have lpr : ((g.ps.map Prod.fst).map V.str).length = g.ps.length := by rw [List.length_map, List.length_map]
    refine ⟨l3, D, _, _, rfl, rfl, s4 _ _ e3, eD, Nat.le_of_lt (small1000 (by rw [List.length_append, lpr, List.length_map, List.length_map]; omega)), fun l4 hl4 => ?_⟩
    have t5' := same_new (o := .lst (t.names.map V.str ++ t.kinds.map V.str ++ (g.ps.map Prod.fst).map V.str)) hl4
    have t5 := t4.trans t5'
    have e5 : upd H4 l4 (.lst (t.names.map V.str ++ t.kinds.map V.str ++ (g.ps.map Prod.fst).map V.str)) l4 = some (.lst (t.names.map V.str ++ t.kinds.map V.str ++ (g.ps.map Prod.fst).map V.str)) := upd_same
    generalize upd H4 l4 (.lst (t.names.map V.str ++ t.kinds.map V.str ++ (g.ps.map Prod.fst).map V.str)) = H5 at *
    refine ⟨_, rfl, fa, _, _, _, rfl, rfl, SqT.same t5 hfa, rfl, (by show 4 ≤ sizeLine; decide), fun l5 hl5 => ?_⟩
    have t6' := same_new (o := .lst [V.str g.name, V.str "", V.non, V.int 3]) hl5
    have t6 := t5.trans t6'
    obtain ⟨W, eW⟩ : ∃ W, W = t.names.map V.str ++ t.kinds.map V.str ++ (g.ps.map Prod.fst).map V.str ++ [V.str g.name, V.str "", V.non, V.int 3] := ⟨_, rfl⟩
    have lW : W.length ≤ 30 := by
      rw [eW, List.length_append, List.length_append, List.length_append, lpr, List.length_map, List.length_map]
      show _ + 4 ≤ 30
      omega
    have lW4 : 4 ≤ W.length := by
      rw [eW, List.length_append]
      show 4 ≤ _ + 4
      omega
    have scW : ∀ w ∈ W, ∃ d, Scal w d := by
      have st : ∀ s : Str, PyData.strOk s = true → ∃ d, Scal (.str s) d := fun s h => ⟨_, .str h, fun _ _ => .str s⟩
      intro w hw
      rw [eW] at hw
      rcases List.mem_append.mp hw with hw | hw
      · rcases List.mem_append.mp hw with hw | hw
        · rcases List.mem_append.mp hw with hw | hw
          · obtain ⟨s, hs, rfl⟩ := List.mem_map.mp hw
            exact st s (hok s (.inl hs))
          · obtain ⟨s, hs, rfl⟩ := List.mem_map.mp hw
            exact st s (hok s (.inr (.inl hs)))
        · obtain ⟨s, hs, rfl⟩ := List.mem_map.mp hw
          exact st s (hok s (.inr (.inr (.inl hs))))
      · simp only [List.mem_cons, List.not_mem_nil, or_false] at hw
        rcases hw with rfl | rfl | rfl | rfl
        · exact st _ (hok _ (.inr (.inr (.inr (.inl rfl)))))
        · exact st _ (by decide +kernel)
        · exact ⟨_, Gd.non, fun _ _ => .non⟩
        · exact ⟨_, Gd.int 3, fun _ _ => .int 3⟩
    refine ⟨l4, l5, _, _, rfl, rfl, t6' _ _ e5, upd_same, Nat.le_of_lt (small1000 (by rw [← List.length_append, ← eW]; omega)), fun l6 hl6 => ?_⟩
    have t7 := t6.trans (same_new (o := .lst (t.names.map V.str ++ t.kinds.map V.str ++ (g.ps.map Prod.fst).map V.str ++ [V.str g.name, V.str "", V.non, V.int 3])) hl6)
    have P7 := P0.same t7
    have eL : LsAt (upd (upd H5 l5 (.lst [V.str g.name, V.str "", V.non, V.int 3])) l6 (.lst (t.names.map V.str ++ t.kinds.map V.str ++ (g.ps.map Prod.fst).map V.str ++ [V.str g.name, V.str "", V.non, V.int 3]))) p c l6 W := by
      rw [eW]
      exact LsAt.new (P0.same t6) hl6
    generalize upd (upd H5 l5 (.lst [V.str g.name, V.str "", V.non, V.int 3])) l6 (.lst (t.names.map V.str ++ t.kinds.map V.str ++ (g.ps.map Prod.fst).map V.str ++ [V.str g.name, V.str "", V.non, V.int 3])) = H7 at *
    refine ⟨_, rfl, _, rfl, _, rfl, l6, _, rfl, .inl (SqL.of eL.e), p, c, lim, n, _, rfl, P7, by omega, by omega, by omega, fun r H8 r0 r1 P8 b78 => ?_⟩
    obtain ⟨wv, hwv, mwv⟩ := atI_in r0 r1
    obtain ⟨dw, gdw, qw⟩ := scW wv mwv
    refine ⟨l6, _, _, _, rfl, rfl, SqL.of (eL.but b78).e, hwv, ?_⟩
    have hb8 := (b78.tps P7).sqt (SqT.same t7 hb)
    have b08 : But p c H H8 := fun x o z h1 h2 => b78 _ _ (t7 _ _ z) h1 h2
    refine ⟨_, rfl, _, rfl, b, _, rfl, .inr hb8, _, _, rfl, rfl, p, c, lim, _, _, rfl, P8, by omega, by rw [List.length_map]; omega, by rw [List.length_map]; omega, fun a H9 a0 a1 P9 b89 => ?_⟩
    refine ⟨_, rfl, p, c, lim, _, 6, rfl, P9, by omega, by decide, by decide, fun ch H10 ch0 ch1 P10 b910 => ?_⟩
    have hb9 := (b910.tps P9).sqt ((b89.tps P8).sqt hb8)
    have b010 := (b08.trans b89).trans b910
    obtain ⟨j, rfl⟩ : ∃ j : Nat, a = (j : Int) := ⟨a.toNat, by omega⟩
    have hj : j ≤ 2 := by rw [List.length_map] at a1; omega
    clear b910 b89 b78 b08 hb8 P9 P8 P7 eL
    have ct1 : cutV (cs.map V.str) none (some (j : Int)) = (cs.take j).map V.str := by rw [cut_take, List.map_take]
    have ct2 : ∀ i : Nat, cutV (cs.map V.str) (some (i : Int)) none = (cs.drop i).map V.str := fun i => by rw [cut_drop, List.map_drop]
    have ct3 : cutV (cs.map V.str) (some ((j : Int) + 1)) none = (cs.drop (j + 1)).map V.str := ct2 (j + 1)
    have okt : ∀ s ∈ cs.take j, PyData.strOk s = true := fun s hs => hok s (.inr (.inr (.inr (.inr (List.mem_of_mem_take hs)))))
    have okd : ∀ i, ∀ s ∈ cs.drop i, PyData.strOk s = true := fun i s hs => hok s (.inr (.inr (.inr (.inr (List.mem_of_mem_drop hs)))))
    have ltk : (cs.take j).length ≤ 2 := by rw [List.length_take]; omega
    have ldr : ∀ i, (cs.drop i).length ≤ 2 := fun i => by rw [List.length_drop]; omega
    have go : ∀ (H' : Hp) (v : V) (d : PyData), Same H10 H' → Dq K H' v d → Gd d 2 → Q v H' := fun H' v d s q gd => k v d H' (P10.same s) (fun x o z h1 h2 => s _ _ (b010 _ _ z h1 h2)) q gd
    -- case[:at] + m + case[i:]
    have three : ∀ (H' H'' : Hp) (p1 p3 : Addr) (mid : List V) (dm : List PyData) (i : Nat), Same H10 H' → Same H' H'' → SqT K H'' p3 (cutV (cs.map V.str) none (some (j : Int)) ++ mid ++ cutV (cs.map V.str) (some (i : Int)) none) → DqAll K H' mid dm → (∀ d ∈ dm, Gd d 1) → dm.length ≤ 1 → Q (.ref p3) H'' := fun H' H'' p1 p3 mid dm i s1 s2 q qm gm lm => by
      rw [ct1, ct2 i] at q
      obtain ⟨d, qd, gd⟩ := bent_tup q (qm.same s2) gm okt (okd i) (by have := ldr i; omega)
      exact go _ _ _ (s1.trans s2) qd gd
    have lcut : ∀ a b, (cutV (cs.map V.str) a b).length ≤ 2 := fun a b => by have := cutV_length (cs.map V.str) a b; rw [List.length_map] at this; omega
    refine ⟨_, rfl, rfl, _, rfl, ite2 (fun _ => ?_) (fun _ => ?_)⟩
    · refine ⟨_, rfl, _, rfl, _, rfl, b, _, rfl, hb9, fun p1 H11 s11 q1 => ?_⟩
      refine ⟨_, rfl, _, rfl, _, _, rfl, rfl, _, rfl, b, _, rfl, SqT.same s11 hb9, fun p2 H12 s12 q2 => ?_⟩
      refine ⟨p1, p2, _, _, rfl, rfl, SqT.same s12 q1, q2, Nat.le_of_lt (small1000 (by have := lcut none (some (j : Int)); have := lcut (some ((j : Int) + 1)) none; omega)), fun p3 H13 s13 q3 => ?_⟩
      exact three H12 H13 p1 p3 [] [] (j + 1) (s11.trans s12) s13 (by rw [List.append_nil]; exact q3) .nil (fun _ z => nomatch z) (by decide)
    refine ⟨_, rfl, rfl, _, rfl, ite2 (fun _ => ?_) (fun _ => ?_)⟩
    · refine ⟨_, rfl, _, rfl, _, rfl, b, _, rfl, hb9, fun p1 H11 s11 q1 => ?_⟩
      refine ⟨_, rfl, (by show 1 ≤ sizeLine; decide), fun lw hlw => ?_⟩
      have u1 := same_new (o := .lst [wv]) hlw
      have elw : upd H11 lw (.lst [wv]) lw = some (.lst [wv]) := upd_same
      generalize upd H11 lw (.lst [wv]) = H12 at *
      refine ⟨(by show 1 ≤ sizeLine; decide), fun tw htw => ?_⟩
      have u2 := same_new (o := .tup [V.ref lw]) htw
      have u12 := u1.trans u2
      refine ⟨p1, tw, _, _, rfl, rfl, SqT.same u12 q1, SqT.of upd_same, Nat.le_of_lt (small1000 (by have := lcut none (some (j : Int)); show _ + 1 ≤ 1000; omega)), fun p2 H13 s13 q2 => ?_⟩
      have u13 := (s11.trans u12).trans s13
      refine ⟨_, rfl, _, rfl, _, _, rfl, rfl, _, rfl, b, _, rfl, SqT.same u13 hb9, fun p3 H14 s14 q3 => ?_⟩
      refine ⟨p2, p3, _, _, rfl, rfl, SqT.same s14 q2, q3, Nat.le_of_lt (small1000 (by rw [List.length_append]; have := lcut none (some (j : Int)); have := lcut (some ((j : Int) + 1)) none; show _ + 1 + _ ≤ 1000; omega)), fun p4 H15 s15 q4 => ?_⟩
      exact three H14 H15 p1 p4 [.ref lw] [.list [dw]] (j + 1) (u13.trans s14) s15 q4 (.cons (.lst (s14 _ _ (s13 _ _ (u2 _ _ elw))) (.cons (qw K _) .nil)) .nil) (fun d hd => by rw [List.mem_singleton.mp hd]; exact Gd.lst (fun e he => by rw [List.mem_singleton.mp he]; exact gdw) (by show 1 ≤ 1000; decide)) (Nat.le_refl 1)
    refine ⟨_, rfl, rfl, _, rfl, ite2 (fun _ => ?_) (fun _ => ?_)⟩
    · refine ⟨_, rfl, _, rfl, _, rfl, b, _, rfl, hb9, fun p1 H11 s11 q1 => ?_⟩
      refine ⟨_, rfl, (by show 1 ≤ sizeLine; decide), fun tw htw => ?_⟩
      have u2 := same_new (o := .tup [wv]) htw
      refine ⟨p1, tw, _, _, rfl, rfl, SqT.same u2 q1, SqT.of upd_same, Nat.le_of_lt (small1000 (by have := lcut none (some (j : Int)); show _ + 1 ≤ 1000; omega)), fun p2 H13 s13 q2 => ?_⟩
      have u13 := (s11.trans u2).trans s13
      refine ⟨_, rfl, _, rfl, _, rfl, b, _, rfl, SqT.same u13 hb9, fun p3 H14 s14 q3 => ?_⟩
      refine ⟨p2, p3, _, _, rfl, rfl, SqT.same s14 q2, q3, Nat.le_of_lt (small1000 (by rw [List.length_append]; have := lcut none (some (j : Int)); have := lcut (some (j : Int)) none; show _ + 1 + _ ≤ 1000; omega)), fun p4 H15 s15 q4 => ?_⟩
      exact three H14 H15 p1 p4 [wv] [dw] j (u13.trans s14) s15 q4 (.cons (qw K _) .nil) (fun d hd => by rw [List.mem_singleton.mp hd]; exact gdw.mono (by decide)) (Nat.le_refl 1)
    refine ⟨_, rfl, rfl, _, rfl, ite2 (fun _ => ?_) (fun _ => ?_)⟩
    · refine ⟨_, rfl, b, _, rfl, .inr hb9, fun l hl => ?_⟩
      refine go _ _ (.list (cs.map PyData.str)) (same_new hl) (.lst upd_same (dq_strs cs)) (Gd.lst (k := 1) (fun d hd => ?_) (by rw [List.length_map]; omega))
      obtain ⟨s, hs, rfl⟩ := List.mem_map.mp hd
      exact (Gd.str (hok s (.inr (.inr (.inr (.inr hs)))))).mono (by decide)
    refine ⟨_, rfl, rfl, _, rfl, ite2 (fun _ => ?_) (fun _ => ?_)⟩
    · exact ⟨_, rfl, go _ _ dw (Same.refl _) (qw K _) (gdw.mono (by decide))⟩
    · refine ⟨_, rfl, _, rfl, _, rfl, b, _, rfl, hb9, fun p1 H11 s11 q1 => ?_⟩
      refine ⟨_, rfl, (by show 1 ≤ sizeLine; decide), fun tw htw => ?_⟩
      have u2 := same_new (o := .tup [wv]) htw
      refine ⟨p1, tw, _, _, rfl, rfl, SqT.same u2 q1, SqT.of upd_same, Nat.le_of_lt (small1000 (by have := lcut none (some (j : Int)); show _ + 1 ≤ 1000; omega)), fun p2 H13 s13 q2 => ?_⟩
      have u13 := (s11.trans u2).trans s13
      refine ⟨_, rfl, _, rfl, _, _, rfl, rfl, _, rfl, b, _, rfl, SqT.same u13 hb9, fun p3 H14 s14 q3 => ?_⟩
      refine ⟨p2, p3, _, _, rfl, rfl, SqT.same s14 q2, q3, Nat.le_of_lt (small1000 (by rw [List.length_append]; have := lcut none (some (j : Int)); have := lcut (some ((j : Int) + 1)) none; show _ + 1 + _ ≤ 1000; omega)), fun p4 H15 s15 q4 => ?_⟩
      exact three H14 H15 p1 p4 [wv] [dw] (j + 1) (u13.trans s14) s15 q4 (.cons (qw K _) .nil) (fun d hd => by rw [List.mem_singleton.mp hd]; exact gdw.mono (by decide)) (Nat.le_refl 1)
end

/-! ### all(list) where an error is handled -/
namespace TH
open PySem.W PyProof.Rows L2H HotX
section
variable {prog : Program} {w : World} {A : Around} {E : Value → Shared → Prop} {s : Shared}
theorem pyNext_list_end_hot {it l x1 : Addr} {i : Nat} {items : Array Value} {Q : Option Value → Shared → Prop} (hot : HotAt A x1 s.heap) (hit : s.heap.IsListIter it l i) (hl : s.heap.IsList l items) (hx : items[i]? = none) (hne : x1 ≠ it)
    (hQ : ∀ h', Heap.ExtBut it s.heap h' → Q none { s with heap := h' }) : wpAny (model prog w) A (pyNext (.ref it)) Q E s := by
  obtain ⟨o, ho, hc, hd⟩ := id hit
  obtain ⟨ol, hol, _, nl, hdl⟩ := hl
  obtain ⟨hh, o1, vs1, h1, d1, c1⟩ := hot
  unfold pyNext
  refine wpAny_bind (wpAny_attempt (wpAny_callSpecial?_slot (name := Str.ofString "__next__") hit.typeIs slot_listiter_next
    (wpAny_call_entry slot_listiter_next hit.typeIs entry_listiter_next ?_ (args_listiter_next _))))
  show wpAny _ _ (field (.ref it) 0 >>= _) _ _ s
  refine wpAny_bind (wpAny_field ho hd (x := .ref l) rfl ?_)
  show wpAny _ _ (if (Value.ref l == Value.none) = true then _ else _) _ _ s
  rw [if_neg (show ¬ ((Value.ref l == Value.none) = true) from Bool.false_ne_true)]
  show wpAny _ _ (field (.ref it) 1 >>= _) _ _ s
  refine wpAny_bind (wpAny_field ho hd (x := .int i 0) rfl ?_)
  show wpAny _ _ (seqItems? (.ref l) >>= _) _ _ s
  refine wpAny_bind (wpAny_seqItems hol hdl ?_)
  simp only [Int.toNat_natCast, hx]
  refine wpAny_bind (wpAny_rule (wpAny_bind (wpAny_setField ho hd (by simp) ?_)))
  show wpAny _ _ (newExc (.type "StopIteration") [] >>= _) _ _ _
  refine wpAny_bind ?_
  simp only [newExc, newTuple]
  refine wpAny_bind (wpAny_newObj_type ?_ (by size_fits))
  refine wpAny_bind (m := firstArgMember _ _) (wpAny_of_eq (a := Value.none) (by first | rfl | (simp only [firstArgMember]; rfl)) ?_)
  refine wpAny_newObj_type ?_ (by size_fits)
  have h1u := (Heap.get?_update_other s.heap (Obj.mapFields (·.setIfInBounds 0 Value.none)) (Ne.symm hne)).trans h1
  refine raiseNew_hot ⟨hh, o1, vs1, Heap.get?_push_of_some _ (Heap.get?_push_of_some _ h1u), d1, c1⟩ (Nat.ne_of_lt (Heap.lt_size (Heap.get?_push_of_some _ h1u))) (Heap.get?_push_size _ rfl) rfl (by first | (simp; done) | (simp; omega) | (simp only [Array.size_append]; simp; omega)) ?_
  refine wpAny_bind (wpAny_isInstance (T := "StopIteration") (b := true) ⟨_, Heap.get?_update_self _ (Heap.get?_push_size _ rfl) rfl, rfl⟩ isSubtype_stop ?_)
  refine wpAny_pure (hQ _ fun b o hb e => ?_)
  have eu := (Heap.get?_update_other s.heap (Obj.mapFields (·.setIfInBounds 0 Value.none)) (Ne.symm hb)).trans e
  rw [Heap.get?_update_other _ _ (Nat.ne_of_gt (Heap.lt_size (Heap.get?_push_of_some _ eu)))]
  exact Heap.get?_push_of_some _ (Heap.get?_push_of_some _ eu)
theorem walks_listH {x1 : Addr} {o1 : Obj} {vs1 : Array Value} (hh : A.handled = some (.ref x1)) (d1 : o1.data = .fields vs1) (c1 : vs1[2]? = some Value.none) (I ax : Addr) (hne : ax ≠ I) (hx1 : x1 ≠ I) (items : Array Value) :
    Walks prog w A I [I, ax, x1] [I] items.size (fun i v => items[i]? = some v) (fun i h => h.IsListIter I ax i ∧ h.IsList ax items ∧ h.get? x1 = some o1) where
  sub := fun b hb => by simp at hb; simp [hb]
  frame := fun _ _ _ st hk => ⟨st.1.at fun o e => hk I (by simp) o e, st.2.1.at fun o e => hk ax (by simp) o e, hk x1 (by simp) _ st.2.2⟩
  item := fun i s Q E hi st hQ => by
    refine wpAny_pyNext_list_item st.1 st.2.1 (x := items[i]) (by simp [hi]) fun h' hit' hs' => ?_
    exact hQ _ h' s.toks (by simp [hi]) ⟨hit', st.2.1.extBut hs'.extBut hne, hs'.extBut x1 _ hx1 st.2.2⟩ fun b o hb e => hs'.extBut b o (fun h => hb (by simp [h])) e
  done := fun s Q E st hQ => pyNext_list_end_hot ⟨hh, o1, vs1, st.2.2, d1, c1⟩ st.1 st.2.1 (by simp) hx1 fun h' he' => hQ h' s.toks fun b o hb e => he' b o (fun h => hb (by simp [h])) e
  self := fun _ _ _ _ st hQ => wpAny_pyIter_listiter st.1 hQ
end
theorem cr_allH {X : Cx} {p : Addr × Obj} (hot : Hot1 X.A p) (hp : p ∈ X.pn) : CallR X (.builtin "all") (rAll X.K) := by
  intro pins s σ H vs us Q I r h
  obtain ⟨a, bs, rfl, hs, q⟩ := h
  obtain ⟨its, rv, hl, _⟩ := I.list hs
  rw [Vals.ref1 r]
  have hb := rv.bls
  obtain ⟨hh, vs1, d1, c1⟩ := hot
  have P1 := (I.pin p (List.mem_append_left _ hp)).1
  refine call_all_walk (iter_any hl.isList fun s₂ e2 st hne => ?_)
  subst e2
  refine ⟨_, _, _, _, _, _, _, rfl, walks_listH (A := X.A.in1) (x1 := p.1) (o1 := p.2) hh d1 c1 _ a hne (Nat.ne_of_lt (Heap.lt_size P1)) its.toArray, ⟨st.1, st.2, Heap.get?_push_of_some _ P1⟩, truth_bools hb, fun h' tk hk => ?_⟩
  refine ⟨.bl _, H, I.kept fun b o eo => hk b o (fun hmem => ?_) (Heap.get?_push_of_some _ eo), ?_, q⟩
  · rcases List.mem_cons.mp hmem with e1 | hmem
    · exact absurd (e1 ▸ Heap.lt_size eo) (Nat.lt_irrefl _)
    · cases hmem
  · show Value.bool _ = Value.bool _
    rw [← L2.all_range, hb, List.size_toArray, List.length_map]
end TH

/-! ### _law_same where an error is handled -/
theorem unitsH {k : Nat} {A : Around} (r : L2H.RoomH k A) : A.units + 64 < cLine := by have := r.un; omega
section
open L2H
variable {P : Program} {w : World} {K : PySem.W.Frag} {mg : Str → Option Value} {base : Heap}
theorem ok_SamH {f : Addr} {fd : FuncData} (F : Fun K "_law_same" "_law_same" sSame f fd) (T : TxSam mg) (m : mg "_law_same" = some (.ref f)) (kp : PySem.W.keepIn K (.ref f) = true) (b : Binds K fd PSame []) : ∀ n, FnP P w K mg base n f fd PSame (fun _ => spSam K n) := by
  intro n
  induction n with
  | zero => exact ⟨fun _ _ _ _ _ h => by obtain ⟨_, _, _, _, _, _, _, h, _⟩ := h; omega, fun _ _ _ _ _ _ _ _ _ _ _ _ _ _ _ h => by obtain ⟨_, _, _, _, _, _, _, h, _⟩ := h; omega⟩
  | succ n ih =>
    refine Fun.okP F scSame (fun p vs H Q E h => ?_) (fun cdv A outer s H vs Q E p hot hr h => ?_)
    · obtain ⟨x, y, d, e, rfl, _⟩ := h
      rfl
    · obtain ⟨x, y, d, e, rfl, hx, hy, hn, cd, ce, k⟩ := h
      refine ⟨_, (pss_cons (ps_if (pt_cmpR op_isN (pv 1) pe_non (nomark _))
  (pss_one (ps_ret (pe_cmpR op_isN (pv 0) pe_non (nomark _))))
  pss_nil)
  (pss_cons (ps_if (PW.pt (pw_or (pt_val (pe_callB call_isi (by rfl) T.n_isinstance bb_isinstance (pa_cons (pv 1) (pa_cons (pe_bltn (v := .ty "bool") (by rfl) T.n_bool bb_bool rfl) pa_nil)))) (pw_or1 (pt_val (pe_callB call_isi (by rfl) T.n_isinstance bb_isinstance (pa_cons (pv 0) (pa_cons (pe_bltn (v := .ty "bool") (by rfl) T.n_bool bb_bool rfl) pa_nil)))))))
  (pss_one (ps_ret (pe_and (pe_callB call_isi (by rfl) T.n_isinstance bb_isinstance (pa_cons (pv 1) (pa_cons (pe_bltn (v := .ty "bool") (by rfl) T.n_bool bb_bool rfl) pa_nil))) (pe_and (pe_callB call_isi (by rfl) T.n_isinstance bb_isinstance (pa_cons (pv 0) (pa_cons (pe_bltn (v := .ty "bool") (by rfl) T.n_bool bb_bool rfl) pa_nil))) (pe_one (pe_cmpR (op_eqD (unitsH hr)) (pv 0) (pv 1) (nomark _)))))))
  pss_nil)
  (pss_cons (ps_if (PW.pt (pw_or (pt_val (pe_callB call_isi (by rfl) T.n_isinstance bb_isinstance (pa_cons (pv 1) (pa_cons (pe_bltn (v := .ty "int") (by rfl) T.n_int bb_int rfl) pa_nil)))) (pw_or1 (pt_val (pe_callB call_isi (by rfl) T.n_isinstance bb_isinstance (pa_cons (pv 1) (pa_cons (pe_bltn (v := .ty "str") (by rfl) T.n_str bb_str rfl) pa_nil)))))))
  (pss_one (ps_ret (pe_and (pe_cmpR op_eq (pe_callB call_isi (by rfl) T.n_isinstance bb_isinstance (pa_cons (pv 0) (pa_cons (pe_bltn (v := .ty "int") (by rfl) T.n_int bb_int rfl) pa_nil))) (pe_callB call_isi (by rfl) T.n_isinstance bb_isinstance (pa_cons (pv 1) (pa_cons (pe_bltn (v := .ty "int") (by rfl) T.n_int bb_int rfl) pa_nil))) (nomark _)) (pe_one (pe_cmpR (op_eqD (unitsH hr)) (pv 0) (pv 1) (nomark _))))))
  pss_nil)
  (pss_cons (ps_if (PW.pt (pw_or (pt_cmpR op_ne (pe_callB call_isi (by rfl) T.n_isinstance bb_isinstance (pa_cons (pv 1) (pa_cons (pe_bltn (v := .ty "tuple") (by rfl) T.n_tuple bb_tuple rfl) pa_nil))) (pe_callB call_isi (by rfl) T.n_isinstance bb_isinstance (pa_cons (pv 0) (pa_cons (pe_bltn (v := .ty "tuple") (by rfl) T.n_tuple bb_tuple rfl) pa_nil))) (nomark _)) (pw_or1 (pt_cmpR op_ne (pe_callB call_isi (by rfl) T.n_isinstance bb_isinstance (pa_cons (pv 1) (pa_cons (pe_bltn (v := .ty "list") (by rfl) T.n_list bb_list rfl) pa_nil))) (pe_callB call_isi (by rfl) T.n_isinstance bb_isinstance (pa_cons (pv 0) (pa_cons (pe_bltn (v := .ty "list") (by rfl) T.n_list bb_list rfl) pa_nil))) (nomark _)))))
  (pss_one (ps_ret pe_bl))
  pss_nil)
  (pss_one (ps_ret (pe_and (pe_cmpR op_eq (pe_callB call_len_seq (by rfl) T.n_len bb_len (pa_cons (pv 0) pa_nil)) (pe_callB call_len_seq (by rfl) T.n_len bb_len (pa_cons (pv 1) pa_nil)) (nomark _)) (pe_one (pe_callB (TH.cr_allH hot List.mem_cons_self) (by rfl) T.n_all bb_all (pa_cons (pe_lcP (own := [("_law_k", 2)]) (g := gName 2) hot List.mem_cons_self scSame.nd (L2H.pi_range1H (by rfl) T.n_range (pa_cons (pe_callB call_len_seq (by rfl) T.n_len bb_len (pa_cons (pv 1) pa_nil)) pa_nil)) (blkOk_by (own := [("_law_k", 2)]) (N := NSame) (sc := (defScope sSame)) (by decide +kernel)) (fun _ _ _ _ _ => (pg_name (i := 2) scSame.nd rfl (Or.inl rfl))) (fun _ _ _ _ _ => (pe_callP ih hr hot List.mem_cons_self rfl m kp b (pa_cons (pe_ix (r := fun x y H Q => rIxT K x y H Q ∨ rIxL K x y H Q) (IxR.or ix_tup ix_list) (pv 0) (pv 2) (fun _ _ => rfl)) (pa_cons (pe_ix (r := fun x y H Q => rIxT K x y H Q ∨ rIxL K x y H Q) (IxR.or ix_tup ix_list) (pv 1) (pv 2) (fun _ _ => rfl)) pa_nil))))) pa_nil)))))))))), ?_⟩
      have eqv_of : d = e → PyData.eqv d e = true := fun z => by rw [z]; exact SeqAt.eqv_refl _ ce.lay
      refine ⟨_, rfl, rfl, _, rfl, ?_⟩
      by_cases hN : y = .non
      · refine iteS (decide_eq_true hN) ⟨_, rfl, rfl, k _ H (fun z => ?_) (Same.refl _)⟩
        subst hN
        cases hy
        subst z
        cases hx
        rfl
      refine iteE (decide_eq_false hN) ?_
      -- bool
      refine ⟨_, rfl, _, _, _, _, _, rfl, .ty _, dq_ty hy, dq_bo hy, _, rfl, ?_⟩
      by_cases hb : isBo e = true
      · refine iteS hb (iteT ?_)
        refine ⟨_, rfl, _, _, _, _, _, rfl, .ty _, dq_ty hy, dq_bo hy, _, rfl, iteS hb ⟨_, rfl, _, _, _, _, _, rfl, .ty _, dq_ty hx, dq_bo hx, _, rfl, ?_⟩⟩
        by_cases hb2 : isBo d = true
        · exact iteS hb2 ⟨_, rfl, _, rfl, d, e, hx.dp, hy.dp, cd.shaped, ce.shaped, k _ H eqv_of (Same.refl _)⟩
        · exact iteE (Bool.eq_false_iff.mpr hb2) (k _ H (fun z => absurd (z ▸ hb) hb2) (Same.refl _))
      have hb := Bool.eq_false_iff.mpr hb
      refine iteE hb ⟨_, rfl, _, _, _, _, _, rfl, .ty _, dq_ty hx, dq_bo hx, _, rfl, ?_⟩
      by_cases hb2 : isBo d = true
      · refine iteS hb2 ⟨_, rfl, _, _, _, _, _, rfl, .ty _, dq_ty hy, dq_bo hy, _, rfl, iteE hb (k _ H (fun z => ?_) (Same.refl _))⟩
        rw [z, hb] at hb2
        cases hb2
      have hb2 := Bool.eq_false_iff.mpr hb2
      refine iteE hb2 ?_
      -- int, str
      refine ⟨_, rfl, _, _, _, _, _, rfl, .ty _, dq_ty hy, dq_in hy, _, rfl, ?_⟩
      by_cases hi : isIn e = true
      · refine iteS hi (iteT ?_)
        refine ⟨_, rfl, _, _, _, _, _, rfl, .ty _, dq_ty hx, dq_in hx, _, rfl, _, _, _, _, _, rfl, .ty _, dq_ty hy, dq_in hy, rfl, _, rfl, ?_⟩
        by_cases hq : isIn d = isIn e
        · exact iteS (decide_eq_true (by rw [hq])) ⟨_, rfl, _, rfl, d, e, hx.dp, hy.dp, cd.shaped, ce.shaped, k _ H eqv_of (Same.refl _)⟩
        · exact iteE (decide_eq_false fun z => hq (V.bl.inj z)) (k _ H (fun z => absurd (by rw [z]) hq) (Same.refl _))
      have hi := Bool.eq_false_iff.mpr hi
      refine iteE hi ⟨_, rfl, _, _, _, _, _, rfl, .ty _, dq_ty hy, dq_st hy, _, rfl, ?_⟩
      by_cases hs : isSt e = true
      · refine iteS hs ?_
        refine ⟨_, rfl, _, _, _, _, _, rfl, .ty _, dq_ty hx, dq_in hx, _, rfl, _, _, _, _, _, rfl, .ty _, dq_ty hy, dq_in hy, rfl, _, rfl, ?_⟩
        by_cases hq : isIn d = isIn e
        · exact iteS (decide_eq_true (by rw [hq])) ⟨_, rfl, _, rfl, d, e, hx.dp, hy.dp, cd.shaped, ce.shaped, k _ H eqv_of (Same.refl _)⟩
        · exact iteE (decide_eq_false fun z => hq (V.bl.inj z)) (k _ H (fun z => absurd (by rw [z]) hq) (Same.refl _))
      have hs := Bool.eq_false_iff.mpr hs
      refine iteE hs ?_
      -- tuple, list
      refine ⟨_, rfl, _, _, _, _, _, rfl, .ty _, dq_ty hy, dq_tu hy, _, rfl, _, _, _, _, _, rfl, .ty _, dq_ty hx, dq_tu hx, rfl, _, rfl, ?_⟩
      by_cases ht : isTu e = isTu d
      case neg => exact iteS (by rw [decide_eq_false fun z => ht (V.bl.inj z)]; rfl) (iteT (k _ H (fun z => absurd (by rw [z]) ht) (Same.refl _)))
      refine iteE (by rw [decide_eq_true (by rw [ht])]; rfl) ⟨_, rfl, _, _, _, _, _, rfl, .ty _, dq_ty hy, dq_li hy, _, rfl, _, _, _, _, _, rfl, .ty _, dq_ty hx, dq_li hx, rfl, _, rfl, ?_⟩
      by_cases hl : isLi e = isLi d
      case neg => exact iteS (by rw [decide_eq_false fun z => hl (V.bl.inj z)]; rfl) (k _ H (fun z => absurd (by rw [z]) hl) (Same.refl _))
      refine iteE (by rw [decide_eq_true (by rw [hl])]; rfl) ?_
      obtain ⟨a, xs, b, ys, rfl, rfl, sx, sy, dx, dy, inj⟩ : ∃ (a : Addr) (xs : List V) (b : Addr) (ys : List V), x = .ref a ∧ y = .ref b ∧ (∀ H', Same H H' → SqT K H' a xs ∨ SqL K H' a xs) ∧ (∀ H', Same H H' → SqT K H' b ys ∨ SqL K H' b ys) ∧ DqAll K H xs (kids d) ∧ DqAll K H ys (kids e) ∧ (d = e → kids d = kids e) := by
        cases hy with
        | non => exact absurd rfl hN
        | bl _ => cases hb
        | int _ => cases hi
        | str _ => cases hs
        | tup q1 q2 =>
          cases hx with
          | tup q3 q4 => exact ⟨_, _, _, _, rfl, rfl, fun H' s => .inl (SqT.same s q3), fun H' s => .inl (SqT.same s q1), q4, q2, fun z => by rw [z]⟩
          | _ => cases ht
        | lst q1 q2 =>
          cases hx with
          | lst q3 q4 => exact ⟨_, _, _, _, rfl, rfl, fun H' s => .inr (SqL.of (s _ _ q3)), fun H' s => .inr (SqL.of (s _ _ q1)), q4, q2, fun z => by rw [z]⟩
          | _ => cases hl
      have lx := dx.len
      have ly := dy.len
      have l1 := cd.len
      have l2 := ce.len
      have flip : ∀ {H' : Hp} {a : Addr} {xs : List V}, SqT K H' a xs ∨ SqL K H' a xs → SqL K H' a xs ∨ SqT K H' a xs := fun h => h.symm
      refine ⟨_, rfl, a, xs, rfl, flip (sx H (Same.refl _)), _, rfl, b, ys, rfl, flip (sy H (Same.refl _)), rfl, _, rfl, ?_⟩
      by_cases hlen : xs.length = ys.length
      case neg => exact iteE (decide_eq_false fun z => hlen (by injection z with z; omega)) (k _ H (fun z => absurd (by rw [lx, ly, inj z]) hlen) (Same.refl _))
      refine iteS (decide_eq_true (by rw [hlen])) ?_
      refine ⟨_, rfl, b, ys, rfl, flip (sy H (Same.refl _)), ?_⟩
      have e62 : (2 : Int) ^ 62 = 4611686018427387904 := by decide
      refine ⟨((ys.length : Nat) : Int), rfl, by omega, by omega, fun D hD => lc_range (lo := 0) (n := ((ys.length : Nat) : Int).toNat) (fun i H' => Same H H' ∧ ∃ bs : List Bool, H' D = some (.lst (bs.map V.bl)) ∧ bs.length = i ∧ (d = e → ∀ c ∈ bs, c = true)) ⟨same_new hD, [], upd_same, rfl, fun _ _ z => (nomatch z)⟩ ?_ ?_⟩
      · rintro i H1 hi2 ⟨s1, bs, eD, lb, hbs⟩
        have hi2 : i < ys.length := by omega
        obtain ⟨x, hx2⟩ : ∃ x, xs[i]? = some x := ⟨_, List.getElem?_eq_getElem (by omega)⟩
        obtain ⟨y, hy2⟩ : ∃ y, ys[i]? = some y := ⟨_, List.getElem?_eq_getElem hi2⟩
        obtain ⟨dd, hdd, qx⟩ := DqAll.at dx hx2
        obtain ⟨ee, hee, qy⟩ := DqAll.at dy hy2
        have ca : ∀ {H' : Hp} {a : Addr} {xs : List V} {v : V} {Q : VK}, (SqT K H' a xs ∨ SqL K H' a xs) → atI xs (0 + (i : Int)) = some v → Q v H' → (rIxT K (.ref a) (.int (0 + (i : Int))) H' Q ∨ rIxL K (.ref a) (.int (0 + (i : Int))) H' Q) := fun h hv q => h.elim (fun h => .inl ⟨_, _, _, _, rfl, rfl, h, hv, q⟩) fun h => .inr ⟨_, _, _, _, rfl, rfl, h, hv, q⟩
        have kd := cd.kid hdd
        have ke := ce.kid hee
        refine ⟨wipe1 (by decide), _, rfl, _, rfl, ca (sx _ s1) (by rw [Int.zero_add]; exact atI_nat hx2) ⟨_, rfl, _, rfl, ca (sy _ s1) (by rw [Int.zero_add]; exact atI_nat hy2) ⟨x, y, dd, ee, rfl, qx.same s1, qy.same s1, by omega, kd.1, ke.1, fun c H2 hc s2 => ⟨_, s2 _ _ eD, small1000 (by rw [List.length_map]; omega), fun c o z => ?_, bs ++ [c], ?_, by rw [List.length_append, lb]; rfl, fun z c2 hc2 => ?_⟩⟩⟩⟩
        · rw [upd_ne (ne_of_none z hD)]
          exact s2 _ _ (s1 _ _ z)
        · rw [upd_same, List.map_append]
          rfl
        · rcases List.mem_append.mp hc2 with w | w
          · exact hbs z c2 w
          · rw [List.mem_singleton.mp w]
            refine hc ?_
            rw [inj z, hee] at hdd
            exact (Option.some.inj hdd).symm
      · rintro H1 ⟨s1, bs, eD, lb, hbs⟩
        refine ⟨D, _, rfl, SqL.of eD, k _ H1 (fun z => ?_) s1⟩
        rw [List.all_eq_true]
        exact fun c hc => hbs z c hc
end

/-! ### isinstance of, and calls with, the error of a suite that takes several classes -/
theorem bb_ValueError : bootBuiltins "ValueError" = some (.type "ValueError") := by decide +kernel
/-- isinstance(e, c) in a suite that takes several classes -/
def rIsXG (K : PySem.W.Frag) (cls : Value) (d : Option Addr) (a : Addr) : List V → Hp → VK → Prop := fun xs H Q => ∃ D dd : Addr, cls = .ref D ∧ d = some dd ∧ ExcC K D ∧ rIsX K D a dd xs H Q
theorem call_isXG {X : Cx} {a : Addr} {cls : Value} {d : Option Addr} {oe : Obj} (hz : L2N.Zn cls d oe) (hf : ∃ vs, oe.data = .fields vs) (hp : (a, oe) ∈ X.pn) : CallR X (.builtin "isinstance") (rIsXG X.K cls d a) := by
  intro pins s σ H xs us Q I r h
  obtain ⟨D, dd, rfl, rfl, C, h⟩ := h
  exact call_isX C hz hf hp pins s σ H xs us Q I r h
/-- a def under its name, to be called where an error is handled -/
structure HasP (P : Program) (w : World) (K : PySem.W.Frag) (mg : Str → Option Value) (base : Heap) (k : Nat) (x : Str) (ps : List Str) (sp : Addr × Obj → Sp) : Prop where
  ex : ∃ (f : Addr) (fd : FuncData), FnP P w K mg base k f fd ps sp ∧ mg x = some (.ref f) ∧ PySem.W.keepIn K (.ref f) = true ∧ Binds K fd ps []
/-- f(e, ..), e the error of the suite -/
def tCallPG (sp : Addr × Obj → Sp) (a : Addr) (cls : Value) (d : Option Addr) (t : TA) : TE := fun σ H Q => t σ H fun vs H1 => ∀ oe, L2N.Zn cls d oe → (∃ vs, oe.data = .fields vs) → sp (a, oe) vs H1 Q (fun _ _ _ => False)
open L2H PyProof.Rows in
theorem pe_callPG {X : Cx} {k : Nat} {ps : List Str} {sp : Addr × Obj → Sp} {x : Str} {q pos : Pos} {e : Expr} {es : List Expr} {t : TA} {a : Addr} {oe : Obj} {cls : Value} {d : Option Addr} (F : HasP X.prog X.w X.K X.mg X.base k x ps sp) (hr : RoomH k X.A) (hot : Hot1 X.A (a, oe)) (hz : L2N.Zn cls d oe) (hf : ∃ vs, oe.data = .fields vs) (hp : (a, oe) ∈ X.pn) (hg : Gl X x) (ha : PA X (e :: es) t)
    (hdb : (x == ("__debug__" : Str)) = false := by decide) (he : starEach (e :: es) X.env = (false, eval e X.env) :: starEach es X.env := by rfl) (hpl : (backTo pos (starEach es X.env)).any (·.1) = false := by rfl) : PE X (.Call (.Name x q) (e :: es) [] pos) (tCallPG sp a cls d t) := by
  obtain ⟨f, fd, F, hm, hk, hb⟩ := F.ex
  refine ⟨fun pins s σ H Q I h => wpAny_Call_Name_kw (ld_glob I hg hm (PySem.W.callWith_K (h₀ := X.base) I.ok.mod.kin hk (thn (ha.run pos pins s σ H _ I h) fun us s1 ⟨vs, H1, I1, r, q⟩ => ⟨I1.kIn, ?_⟩) he hpl) hdb)⟩
  have q := q oe hz hf
  have b := hb s1 us I1.kIn (by rw [List.append_nil, ← r.length]; exact F.len _ _ _ _ _ q)
  rw [List.append_nil] at b
  have P1 := I1.pin (a, oe) (List.mem_append_left _ hp)
  show wpAny _ _ (call (.ref f) us) _ _ _
  refine wpAny_call (codeAny_mono (F.run X.A X.stack s1 H1 us vs Q (fun _ _ _ => False) (a, oe) hr hot ⟨P1.1, P1.2.1, fun hm => (List.mem_cons.mp (I1.stkSub a hm)).elim P1.2.2.1 P1.2.2.2.1, P1.2.2.2.2⟩ I1.env0 b r q) fun r s' hq => ?_)
  cases r with
  | error e => exact hq.elim
  | ok fl =>
    cases fl with
    | ret u => exact I1.after hq
    | next => exact hq.elim
    | brk => exact hq.elim
    | cont => exact hq.elim

/-! ### the law -/
/-- o.m(e, ..), what it raises told by the slots -/
def tMethT (C : Addr) (m : Str) (sp : Sp) (E : L2.St → XK) (ta : TE) (t : TA) : TE := fun σ H Q => ta σ H fun x H1 => ∃ a dx fs, x = .ref a ∧ H1 a = some (.ins C dx fs) ∧ fs.lookup m = none ∧ t σ H1 fun vs H2 => sp (x :: vs) H2 Q (E σ)
theorem pe_methT {X : Cx} {CX : CXT} {k : Nat} {C : Addr} {m : Str} {ps : List Str} {sp : Sp} {E : L2.St → XK} {o e : Expr} {es : List Expr} {ta : TE} {t : TA} {apos pos : Pos} {pl : Sem Bool} (he : PE X o ta) (c : Cls X.K C) (M : HasM X.prog X.w X.K X.mg X.base CX k C m ps sp) (hr : Room k X.A) (hx : ∀ σ, PassesAt CX X σ (E σ)) (ha : PA X (e :: es) t)
    (hst : starEach (e :: es) X.env = (false, eval e X.env) :: starEach es X.env := by rfl) (hpl : (backTo pos (starEach es X.env)).any (·.1) = false := by rfl)
    (ht : eval (.Call (.Attribute o m apos) (e :: es) [] pos) X.env = (do
      let ov ← eval o X.env
      standAt apos.atName
      let (f, first) ← holding [ov] (getMethod ov m pl)
      callWith pos f first (backTo pos (starEach (e :: es) X.env)) (backToKw pos (keywordEach [] X.env))) := by rfl) :
    PE X (.Call (.Attribute o m apos) (e :: es) [] pos) (tMethT C m sp E ta t) := by
  obtain ⟨f, fd, hm, F, hb⟩ := M.ex
  refine ⟨fun pins s σ H Q I h => ?_⟩
  refine PySem.W.methodCall_KW (pl := pl) (thn (he.run pins s σ H _ I h) fun u s1 ⟨x, H1, I1, rx, a, dx, fs, ex, ea, l, q⟩ => ?_) ht
  subst ex
  obtain rfl : u = Value.ref a := rx
  refine getmeth_ok I1 ea c hm l ?_
  refine PySem.W.callWith_K (first := [.ref a]) (h₀ := X.base) I.ok.mod.kin hm.kp (thn (ha.run pos pins s1 σ H1 _ I1 q) fun us s2 ⟨vs, H2, I2, r, q2⟩ => ⟨I2.kIn, ?_⟩) hst hpl
  exact run_fnS (us := .ref a :: us) (vs := .ref a :: vs) F hr hb (hx σ) I2 (.cons rfl r) q2
theorem pass0N {X : Cx} : Passes (L2N.CX X.prog X.w) X E0 := fun _ _ _ _ _ _ _ c => by
  obtain ⟨_, _, _, _, _, _, _, _, _, _, _, _, z⟩ := c
  exact z.elim
/-- what the law asks of InvalidCase's class -/
structure ErrI (K : PySem.W.Frag) (CI CU CP : Addr) : Prop where
  ii : PySem.W.exmOne K (.ref CI) (.ref CI) = some true
  iu : PySem.W.exmOne K (.ref CI) (.ref CU) = some false
  xf : XfC K CI
  no : PySem.W.findIn K (.ref CI) "value" = some none
  ex : ExcC K CI
  kP : PySem.W.kitOne K (.ref CI) (.ref CP) = some true
  kV : PySem.W.kitOne K (.ref CI) (.type "ValueError") = some true
abbrev sLaw : Stmt := topS 79
abbrev NLaw : List Str := ["_law_script", "_law_pool_here", "_law_tree_here", "_law_program", "_law_function", "_law_name", "_law_due", "_law_told", "_law_case", "_law_places", "_law_param", "_law_own", "_law_k", "_law_bent_here", "_law_is_case", "_law_raised", "e"]
abbrev PLaw : List Str := ["_law_script"]
theorem scLaw : FnScope NLaw PLaw (defScope sLaw) := ⟨rfl, rfl, rfl, by decide +kernel, rfl, by decide +kernel, by decide +kernel⟩
structure TxLw (mg : Str → Option Value) : Prop where
  n_tuple : mg "tuple" = none
  n_isinstance : mg "isinstance" = none
  n_range : mg "range" = none
  n_len : mg "len" = none
  n_ValueError : mg "ValueError" = none
def spLaw (K : PySem.W.Frag) : Sp := fun vs H Q _ => ∃ (a : Addr) (ns : List Int), vs = [.ref a] ∧ SqL K H a (ns.map V.int) ∧ ns.length ≤ 63 ∧ ∀ H', Q (.bl true) H'
theorem csT_pos {gl pl : List Str} : ∀ j : Nat, 0 < (csT gl pl j).length
  | 0 => Nat.one_pos
  | j + 1 => by
    have h := csT_pos (gl := gl) (pl := pl) j
    show 0 < ((csT gl pl j).flatMap (ext gl pl j)).length
    cases e : csT gl pl j with
    | nil => rw [e] at h; exact absurd h (by decide)
    | cons c r =>
      rw [List.flatMap_cons, List.length_append]
      have : 0 < (ext gl pl j c).length := by
        unfold ext
        rw [List.length_map, List.length_append, List.length_append]
        show 0 < _ + (_ + 1)
        omega
      omega
theorem paired_mem {α β : Type} {F : α → β → Prop} : ∀ {l₁ : List α} {l₂ : List β}, Paired F l₁ l₂ → ∀ {x : α}, x ∈ l₁ → ∃ y ∈ l₂, F x y
  | _, _, .nil, x, h => nomatch h
  | _, _, .cons r t, x, h => by
    rcases List.mem_cons.mp h with rfl | h
    · exact ⟨_, List.mem_cons_self, r⟩
    · obtain ⟨y, hy, f⟩ := paired_mem t h
      exact ⟨y, List.mem_cons_of_mem _ hy, f⟩
theorem tNil_go {σ : L2.St} {H : Hp} {k : List V → Hp → Prop} (h : k [] H) : tNil σ H k := h
section
variable {P : Program} {w : World} {K : PySem.W.Frag} {mg : Str → Option Value} {base : Heap} {C CP : Addr} {C' : Nat → Addr}
theorem ok_Law {f : Addr} {fd : FuncData} (F : Fun K "law" "law" sLaw f fd) (T : TxLw mg) (TC : TxPrg K C) (gP : mg "ProgramError" = some (.ref CP)) (X : ErrH P w K mg base C') (M : ErrI K (C' 8) (C' 9) CP)
    (GP : Has P w K mg base CX0 1 "_law_pool" PPool (spPool K)) (GD : Has P w K mg base CX0 2 "_law_draw" PDraw spDraw) (GT : Has P w K mg base CX0 16 "_law_tree" PLTr (spLTr K)) (GPr : HasC P w K mg base CX0 26 "Program" C PPIni (spPIni K C 6))
    (GCa : HasM P w K mg base CX0 4 C "cases" PPCas (spCas K C)) (GCe : HasM P w K mg base (L2N.CX P w) 5 C "cells" PPCel (spCel K C (C' 8))) (GLC : Has P w K mg base CX0 1 "_law_cases" PLCs (spLCs K)) (GLB : Has P w K mg base CX0 3 "_law_bent" PLBt (spLBt K)) (GS : Has P w K mg base CX0 40 "_law_same" PSame (spSam K 40)) (GSH : HasP P w K mg base 40 "_law_same" PSame (fun _ => spSam K 40)) :
    FnOk P w K mg base CX0 41 f fd PLaw (spLaw K) := by
  refine F.ok scLaw (fun vs H Q E h => ?_) (fun cdv A outer s H vs Q E hr h => ?_)
  · obtain ⟨a, ns, rfl, _⟩ := h
    rfl
  · obtain ⟨sc, ns0, rfl, hS, hl, k⟩ := h
    have hr1 := hr.mono (j := 1) (by decide)
    have hr2 := hr.mono (j := 2) (by decide)
    have hr3 := hr.mono (j := 3) (by decide)
    have hr4 := hr.mono (j := 4) (by decide)
    have hr5 := hr.mono (j := 5) (by decide)
    have hr16 := hr.mono (j := 16) (by decide)
    have hr27 := hr.mono (j := 27) (by decide)
    refine ⟨_, (pss_cons (ps_set (i := 1) scLaw.nd rfl (Or.inl rfl) (pe_callH GP hr1 rfl pass0 (pa_cons (pv 0) pa_nil)))
  (pss_cons (ps_set (i := 2) scLaw.nd rfl (Or.inl rfl) (pe_callH GT hr16 rfl pass0 (pa_cons (pv 1) pa_nil)))
  (pss_cons (ps_set (i := 3) scLaw.nd rfl (Or.inl rfl) (pe_makeH GPr hr27 rfl pass0 (pa_cons (pv 2) pa_nil)))
  (pss_cons (ps_for PassesOwn.never rfl (pi_tup (pe_ix (r := rIxT K) ix_tup (pv 2) pe_int (fun _ _ => rfl))) (pg_name (i := 4) scLaw.nd rfl (Or.inl rfl))
  (pss_cons (ps_set (i := 5) scLaw.nd rfl (Or.inl rfl) (pe_ix (r := rIxT K) ix_tup (pv 4) pe_int (fun _ _ => rfl)))
  (pss_cons (ps_set (i := 6) scLaw.nd rfl (Or.inl rfl) (pe_callH GLC hr1 rfl pass0 (pa_cons (pv 2) (pa_cons (pv 5) pa_nil))))
  (pss_cons (ps_set (i := 7) scLaw.nd rfl (Or.inl rfl) (pe_methH (pv 3) TC.cl GCa hr4 pass0 (pa_cons (pv 5) pa_nil)))
  (pss_cons (ps_if (pt_not (pt_val (pe_callH GS hr rfl pass0 (pa_cons (pv 7) (pa_cons (pv 6) pa_nil)))))
  (pss_one (ps_ret pe_bl))
  pss_nil)
  (pss_cons (ps_expr (pe_bm PySem.F.plainAttrs_list PySem.F.slot_list_append PySem.F.type_list_append mt_append (pv 7) (pa_cons (pe_tup pa_nil) pa_nil)))
  (pss_cons (ps_set (i := 8) scLaw.nd rfl (Or.inr rfl) (pe_ix (r := rIxL K) ix_list (pv 6) (pe_callH GD hr2 rfl pass0 (pa_cons (pv 1) (pa_cons (pe_callB call_len_seq (by rfl) T.n_len bb_len (pa_cons (pv 6) pa_nil)) pa_nil))) (fun _ _ => rfl)))
  (pss_cons (ps_set (i := 9) scLaw.nd rfl (Or.inr rfl) (pe_lc (own := [("_law_param", 10)]) (g := gName 10) rfl scLaw.nd (pi_tup (pe_ix (r := rIxT K) ix_tup (pv 4) pe_int (fun _ _ => rfl))) (blkOk_by (own := [("_law_param", 10)]) (N := NLaw) (sc := (defScope sLaw)) (by decide +kernel)) (fun _ _ _ _ _ => (pg_name (i := 10) scLaw.nd rfl (Or.inl rfl))) (fun _ _ _ _ _ => (pts_one (pt_val (pe_ix (r := rIxT K) ix_tup (pv 10) pe_int (fun _ _ => rfl))))) (fun _ _ _ _ _ => (pe_ix (r := rIxT K) ix_tup (pv 10) pe_int (fun _ _ => rfl)))))
  (pss_cons (ps_setLc (i := 11) (own := [("_law_k", 12)]) (g := gName 12) rfl scLaw.nd rfl rfl (sw_true rfl rfl rfl (by decide +kernel)) (pi_range1 (by rfl) T.n_range (pa_cons (pe_callB call_len_seq (by rfl) T.n_len bb_len (pa_cons (pv 9) pa_nil)) pa_nil)) (blkOk_by (own := [("_law_k", 12)]) (N := NLaw) (sc := (defScope sLaw)) (by decide +kernel)) (fun _ _ _ _ _ => (pg_name (i := 12) scLaw.nd rfl (Or.inl rfl))) (fun _ _ _ _ _ => (pts_one (pt_cmpR (r := rEq) op_eq (pe_ix (r := rIxT K) ix_tup (pv 8) (pv 12) (fun _ _ => rfl)) (pe_ix (r := rIxL K) ix_list (pv 9) (pv 12) (fun _ _ => rfl)) (nomark _)))) (fun _ _ _ _ _ => (pe_ix (r := rIxL K) ix_list (pv 9) (pv 12) (fun _ _ => rfl))))
  (pss_cons (ps_if (PW.pt (pw_or (pt_not (pt_val (pe_callH GS hr rfl pass0 (pa_cons (pe_methH (pv 3) TC.cl GCe hr5 pass0N (pa_cons (pv 5) (pa_cons (pv 8) pa_nil))) (pa_cons (pe_op op_catV (pe_ix (r := rIxT K) ix_tup (pv 2) pe_int (fun _ _ => rfl)) (pe_callTy call_tuple_of (by rfl) T.n_tuple bb_tuple (pa_cons (pv 11) pa_nil))) pa_nil))))) (pw_or1 (pt_not (pt_val (pe_callH GS hr rfl pass0 (pa_cons (pe_methH (pv 3) TC.cl GCa hr4 pass0 (pa_cons (pv 5) pa_nil)) (pa_cons (pv 6) pa_nil))))))))
  (pss_one (ps_ret pe_bl))
  pss_nil)
  (pss_cons (ps_set (i := 13) scLaw.nd rfl (Or.inl rfl) (pe_callH GLB hr3 rfl pass0 (pa_cons (pv 1) (pa_cons (pv 2) (pa_cons (pv 4) (pa_cons (pv 8) pa_nil))))))
  (pss_cons (ps_set (i := 14) scLaw.nd rfl (Or.inl rfl) (pe_and (pe_callB call_isi (by rfl) T.n_isinstance bb_isinstance (pa_cons (pv 13) (pa_cons (pe_bltn (v := .ty "tuple") (by rfl) T.n_tuple bb_tuple rfl) pa_nil))) (pe_one (pe_cmpR (op_inD (units65 hr)) (pv 13) (pv 6) (by rfl)))))
  (pss_cons (ps_set (i := 15) scLaw.nd rfl (Or.inl rfl) pe_bl)
  (pss_cons (ps_tryX (Wout := fun _ _ _ _ => False) rfl rfl scLaw.nd (fun _ _ x => by obtain ⟨_, _, _, _, _, _, _, _, _, _, _, _, _, _, _, _, z⟩ := x; exact z) (fun W pn xe tk _ => pss_one (ps_expr (pe_methT (pv 3) TC.cl GCe hr5 (L2N.passAt tk) (pa_cons (pv 5) (pa_cons (pv 13) pa_nil))))) (.only (.one ⟨rfl, by decide, .inl X.h9.mg⟩) (fun a oe cls d pn hz hf => pss_one (ps_ret pe_bl)) (.named (i := 16) (.one ⟨rfl, by decide, .inl X.h8.mg⟩) rfl rfl (fun a oe cls d pn hz hf => pss_one (ps_set (i := 15) scLaw.nd rfl (Or.inl rfl) (pe_and (pe_callPG GSH ⟨hr.dp, hr.un⟩ (hot_suite hz hf) hz hf List.mem_cons_self rfl (pa_cons (pe_xfG hz hf (pv 16)) (pa_cons (pv 13) pa_nil))) (pe_and (pe_callB (r := rIsXG K cls d a) (call_isXG hz hf List.mem_cons_self) (by rfl) T.n_isinstance bb_isinstance (pa_cons (pv 16) (pa_cons (pe_globE (v := .ref CP) rfl ⟨_, gP, rfl⟩) pa_nil))) (pe_one (pe_callB (r := rIsXG K cls d a) (call_isXG hz hf List.mem_cons_self) (by rfl) T.n_isinstance bb_isinstance (pa_cons (pv 16) (pa_cons (pe_bltn (v := .ty "ValueError") (by rfl) T.n_ValueError bb_ValueError rfl) pa_nil)))))))) .nil)))
  (pss_one (ps_if (pt_cmpR op_eq (pv 15) (pv 14) (nomark _))
  (pss_one (ps_ret pe_bl))
  pss_nil))))))))))))))))
  (pss_one (ps_ret pe_bl)))))), ?_⟩
    refine ⟨_, rfl, sc, ns0, rfl, hS, hl, fun p c H1 s1 np nc P1 => ?_⟩
    refine ⟨_, rfl, p, c, 0, rfl, P1, by decide, fun v t bu H2 dr dv P2 b2 => ?_⟩
    have hct := ct_eq
    have hcb := cb5
    obtain ⟨c5, hc5⟩ : ∃ c5, c5 = cb 5 := ⟨_, rfl⟩
    rw [← hc5] at hcb hct
    have tok := dr.shape.tree
    have nd : (t.fns.map Fn.name).Nodup := by
      have := tok.nm.nd
      unfold evT at this
      exact (List.nodup_append.mp (List.nodup_append.mp this).2.1).2.1
    have fnn : ∀ f ∈ t.fns, isName f.name = true := fun f hf => (tok.ok.2.2.2.2 f hf).1.1
    have lN : t.names.length ≤ 2 := by
      obtain ⟨ws, _, l16, nN, nK, hN, _, _, eN, _⟩ := dr.ex
      rw [eN, List.length_take]
      omega
    have lK : t.kinds.length ≤ 10 := Nat.le_trans tok.sm.kinds (by decide)
    have lps : ∀ g ∈ t.fns, g.ps.length ≤ 2 := fun g mf => by
      obtain ⟨ws, _, _, nN, nK, _, _, _, _, _, _, _, _, _, _, _, w8, w9, w10, _, _, _, hf⟩ := dr.ex
      obtain ⟨⟨b1, b2, k, ep⟩, _⟩ := hf g mf
      rw [ep, List.length_take]
      show min k 2 ≤ 2
      omega
    have okN : ∀ s ∈ t.names, PyData.strOk s = true := fun s hs => strOk_name (tok.ok.1.2 s hs).1
    have okK : ∀ s ∈ t.kinds, PyData.strOk s = true := fun s hs => strOk_name (tok.ok.2.1.2 s hs).1
    have okF : ∀ g ∈ t.fns, PyData.strOk g.name = true ∧ ∀ s ∈ prs g, PyData.strOk s = true := fun g mf => by
      have q := tok.ok.2.2.2.2 g mf
      refine ⟨strOk_name q.1.1, fun s hs => ?_⟩
      obtain ⟨x, hx, rfl⟩ := List.mem_map.mp hs
      exact strOk_name (q.2.1.2 x hx).1
    refine ⟨_, rfl, ?_⟩
    intro a dxx ha hdx nda
    have s3 := same_new (o := .own a) hdx
    have ha2 : upd H2 dxx (.own a) a = none := by rw [upd_ne nda.symm]; exact ha
    have s4 := s3.trans (same_new (o := .ins C dxx []) ha2)
    refine ⟨a, dxx, v, t, rfl, upd_same, dv.same s4, tok, fun H3 pr b3 => ⟨rfl, ?_⟩⟩
    have s23 : Same H2 H3 := fun b o z => b3 _ _ (s4 _ _ z) (ne_of_none z ha)
    have P3 := P2.same s23
    have dv3 := dv.same s23
    have nap : a ≠ p := P2.ne1 ha
    have nac : a ≠ c := P2.ne2 ha
    clear b3 s23 s4 ha2 s3 ha hdx nda dv P2 b2 P1 np nc s1
    have dv' : Dp K H3 v (.tuple [nmD t.names, nmD t.kinds, .tuple (t.keeps.map exD), .tuple (t.fns.map fnD)]) := dv3
    obtain ⟨va, xs, rfl, hq, hd⟩ := dv'.tupInv
    obtain ⟨x0, x1, x2, x3, rfl, d0, d1, d2, d3⟩ := hd.four
    obtain ⟨fa, zs, rfl, hfa, hfd⟩ := d3.tupInv
    have pf := DpAll.map hfd
    have lz : zs.length = t.fns.length := Paired.length pf
    obtain ⟨na, gs, rfl, hna, hgd⟩ := d0.tupInv
    have egs : gs = t.names.map V.str := dp_strs hgd
    subst egs
    have lz3 : t.fns.length ≤ 3 := by
      obtain ⟨_, _, _, _, _, _, _, _, _, _, _, _, _, l, _⟩ := dr.ex
      exact l
    refine ⟨_, rfl, va, _, _, _, rfl, rfl, hq, rfl, fa, rfl, ⟨_, hfa⟩, ?_⟩
    refine for_tup (K := K) (a := fa) (xs := zs) (fun i σ H' => (∃ x4 x5 x6 x7 x8 x9 x11 x13 x14 x15 : Option V, σ = [some (.ref sc), some (.ref p), some (.ref va), some (.ref a), x4, x5, x6, x7, x8, x9, none, x11, none, x13, x14, x15, none]) ∧ PoolAt H' p c (Lim bu) (ct + 10 * i) ∧ But p c H3 H') ⟨⟨_, _, _, _, _, _, _, _, _, _, rfl⟩, P3.mono (by omega), But.refl⟩ (fun i σ H' _ h' => (h'.2.2.tps P3).sqt hfa) ?_ ?_
    · rintro i x σ H4 hx ⟨⟨x4, x5, x6, x7, x8, x9, x11, x13, x14, x15, rfl⟩, P4, b34⟩
      have hi : i < 3 := by have := (List.getElem?_eq_some_iff.mp hx).1; omega
      have t4 := b34.tps P3
      obtain ⟨g, hg, hgd⟩ := Paired.at pf hx
      have mf := List.mem_of_getElem? hg
      have hgd4 : Dp K H4 x (.tuple [.str g.name, .tuple (g.ps.map prD), blD g.b]) := Dp.tps t4 hgd (noL_fn g)
      obtain ⟨ga, gs, rfl, hga, hgdd⟩ := hgd4.tupInv
      obtain ⟨u1, u2, u3, rfl, g1, g2, _⟩ := hgdd.three
      rw [g1.strInv] at hga
      obtain ⟨pa0, ps, rfl, hp, hpd⟩ := g2.tupInv
      have pp := DpAll.map hpd
      have lp : ps.length = g.ps.length := Paired.length pp
      have pr4 : PrgAt K C H4 a t := by
        obtain ⟨dx, v, gl, e1, e2, e3⟩ := id pr
        exact pr.tps (by rw [e1]; exact b34 _ _ e1 nap nac) t4
      have dv4 := Dp.tps t4 dv3 (noL_tr t)
      have hq4 := t4.sqt hq
      have hna4 := t4.sqt hna
      have lP := lps g mf
      have lpl : (plF g).length ≤ 2 := by
        unfold plF
        rw [List.length_map]
        exact Nat.le_trans (List.length_filter_le _ _) lP
      obtain ⟨okg, okp⟩ := okF g mf
      have okpl : ∀ s ∈ plF g, PyData.strOk s = true := fun s hs => by
        obtain ⟨x, hx, rfl⟩ := List.mem_map.mp hs
        exact okp _ (List.mem_map.mpr ⟨x, (List.mem_filter.mp hx).1, rfl⟩)
      have okcs : ∀ cs ∈ csT t.names (plF g) (plF g).length, ∀ s ∈ cs, PyData.strOk s = true := fun cs hc s hs => (csT_str (Nat.le_refl _) hc s hs).elim (okN s) (okpl s)
      have csz := csT_sz (pl := plF g) lN lpl
      have gdl : Gd (.list ((csT t.names (plF g) (plF g).length).map csD)) 2 := Gd.lst (k := 1) (fun e he => by
        obtain ⟨cs, hc, rfl⟩ := List.mem_map.mp he
        exact gd_cs (okcs cs hc) (by rw [csT_mem hc]; omega)) (by rw [List.length_map]; omega)
      refine ⟨_, rfl, ga, _, _, _, rfl, rfl, hga, rfl, ?_⟩
      -- due
      refine ⟨_, rfl, _, rfl, .ref va, t, g, rfl, dv4, nd, mf, by omega, by omega, lN, lpl, fun qd xd H5 s45 nqd eqd pxd => ?_⟩
      obtain ⟨dx, pv0, gl, e1, e2, e3⟩ := id pr4
      -- told
      refine ⟨_, rfl, a, dx, _, rfl, s45 _ _ e1, rfl, _, rfl, a, t, g, rfl, pr4.same s45, nd, mf, by omega, lN, lpl, fun qt xt H6 s56 nqt eqt pxt => ?_⟩
      have eqd6 := s56 _ _ eqd
      have pxd6 := Paired.mapP pxd fun _ _ z => CsAt.tps (Tps.of s56) z
      have sam : ∀ {H' : Hp} {q : Addr} {xs : List V}, H' q = some (.lst xs) → Paired (CsAt K H') xs (csT t.names (plF g) (plF g).length) → Dq K H' (.ref q) (.list ((csT t.names (plF g) (plF g).length).map csD)) := fun e h => .lst e (cs_dqs h)
      refine ⟨_, rfl, _, rfl, .ref qt, .ref qd, _, _, rfl, sam eqt pxt, sam eqd6 pxd6, by have := gdl.dep; omega, gdl.cmp (by decide), gdl.cmp (by decide), fun b H7 hb s67 => ?_⟩
      obtain rfl := hb rfl
      refine ⟨true, rfl, iteF ?_⟩
      have P7 := ((P4.same s45).same s56).same s67
      have eqt7 := s67 _ _ eqt
      have lxt : xt.length ≤ 12 := by rw [Paired.length pxt]; exact csz
      have qdt : qd ≠ qt := ne_of_none eqd nqt
      have s47 := (s45.trans s56).trans s67
      have nqt4 := none_same s45 nqt
      refine ⟨_, rfl, .inl ⟨rfl, _, .inl (.inl eqt7)⟩, (by show 0 ≤ sizeLine; decide), fun z hz => ?_⟩
      have sz := same_new (o := .tup []) hz
      refine ⟨qt, _, _, rfl, rfl, sz _ _ eqt7, small1000 (by omega), ?_⟩
      have tqt := Tps.lst (q := qt) (o := .lst (xt ++ [V.ref z])) (sz _ _ eqt7)
      have b48 : But p c H4 (upd (upd H7 z (.tup [])) qt (.lst (xt ++ [V.ref z]))) := fun b o e _ _ => by
        rw [upd_ne (ne_of_none e nqt4)]
        exact sz _ _ (s47 _ _ e)
      have P8 : PoolAt (upd (upd H7 z (.tup [])) qt (.lst (xt ++ [V.ref z]))) p c (Lim bu) (ct + 10 * i) := (P7.same sz).upd (P4.ne1 nqt4) (P4.ne2 nqt4)
      have lq8 : LsAt (upd (upd H7 z (.tup [])) qt (.lst (xt ++ [V.ref z]))) p c qd xd := ⟨by rw [upd_ne qdt]; exact sz _ _ (s67 _ _ eqd6), P4.ne1 nqd, P4.ne2 nqd⟩
      have pxd8 : Paired (CsAt K (upd (upd H7 z (.tup [])) qt (.lst (xt ++ [V.ref z])))) xd (csT t.names (plF g) (plF g).length) := Paired.mapP pxd6 fun _ _ y => CsAt.tps ((Tps.of (s67.trans sz)).trans tqt) y
      generalize upd (upd H7 z (.tup [])) qt (.lst (xt ++ [V.ref z])) = H8 at *
      have b38 := b34.trans b48
      clear tqt sz hz s47 s67 s56 s45 eqt7 eqt pxt pxd6 pxd eqd6 eqd P7 hb nqt nqt4 nqd qdt lxt
      clear H5 H6 H7
      -- case
      have cpos := csT_pos (gl := t.names) (pl := plF g) (plF g).length
      have lxd := Paired.length pxd8
      refine ⟨_, rfl, _, rfl, _, rfl, qd, _, rfl, .inl (SqL.of lq8.e), p, c, Lim bu, _, _, rfl, P8, by omega, by omega, by omega, fun r H9 r0 r1 P9 b89 => ?_⟩
      have lq9 := lq8.but b89
      have pxd9 := Paired.mapP pxd8 fun _ _ y => CsAt.tps (b89.tps P8) y
      obtain ⟨y, hy, my⟩ := atI_in r0 r1
      obtain ⟨cs, hcs, b0, rfl, hb0⟩ := paired_mem pxd9 my
      have lcs := csT_mem hcs
      refine ⟨qd, _, _, _, rfl, rfl, SqL.of lq9.e, hy, ?_⟩
      have b39 := b38.trans b89
      have b49 := b48.trans b89
      clear lq8 pxd8 b38 b48 b89 my hy r0 r1 P8
      have t9 := b39.tps P3
      have t49 : Tps H4 H9 := b49.tps P4
      have hga9 := t49.sqt hga
      have hp9 := t49.sqt hp
      have pp9 : Paired (fun v x => Dp K H9 v (prD x)) ps g.ps := Paired.mapP pp fun _ x y => Dp.tps t49 y (noL_pr x)
      have hq9 := t9.sqt hq
      have hna9 := t9.sqt hna
      have dv9 := Dp.tps t9 dv3 (noL_tr t)
      have pr9 : PrgAt K C H9 a t := by
        obtain ⟨dx, v, gl, e1, e2, e3⟩ := id pr
        exact pr.tps (by rw [e1]; exact b39 _ _ e1 nap nac) t9
      have fn9 : Dp K H9 (.ref ga) (fnD g) := Dp.tps t9 hgd (noL_fn g)
      clear t49 b49 hga hp pp hpd hgdd g1 g2 hgd4 dv4 hq4 hna4 pr4 b34 P4 t4 e1 e2 e3
      -- places
      refine ⟨_, rfl, ga, _, _, _, rfl, rfl, hga9, rfl, pa0, rfl, ⟨_, hp9⟩, fun D hD => ?_⟩
      refine lc_tup (K := K) (a := pa0) (xs := ps) (fun i H' => Same H9 H' ∧ H' D = some (.lst ((plJ g i).map V.str))) ⟨same_new hD, upd_same⟩ (fun i H' _ h' => SqT.same h'.1 hp9) ?_ ?_
      · rintro i2 z H2' hz ⟨s2, eD⟩
        obtain ⟨q, ht, htd⟩ := Paired.at pp9 hz
        have htd : Dp K H9 z (.tuple [.str q.1, .bool q.2]) := htd
        obtain ⟨cc, zs2, rfl, hcc, hccd⟩ := htd.tupInv
        obtain ⟨u, w, rfl, hu, hw⟩ := hccd.two
        rw [hu.strInv, Dp.blInv hw] at hcc
        have nx := plJ_next ht
        have lJ := plJ_len g i2
        refine ⟨wipe1 (by decide), V.ref cc, by kernel_rfl, cc, _, _, _, rfl, rfl, SqT.same s2 hcc, rfl, q.2, rfl, ?_⟩
        cases hb : q.2 with
        | true =>
          rw [hb, if_pos rfl] at nx
          refine iteT ⟨V.ref cc, by kernel_rfl, cc, _, _, _, rfl, rfl, SqT.same s2 hcc, rfl, _, eD, small1000 (by rw [List.length_map]; omega), fun c o z => ?_, ?_⟩
          · rw [upd_ne (ne_of_none z hD)]
            exact s2 _ _ z
          · rw [upd_same, nx, List.map_append]
            rfl
        | false =>
          rw [hb, if_neg (by decide), List.append_nil] at nx
          exact iteF ⟨s2, by rw [nx]; exact eD⟩
      rintro H10 ⟨s10, eD⟩
      rw [lp, plJ_all] at eD
      -- own
      have hb10 := SqT.same s10 hb0
      have e62 : (2 : Int) ^ 62 = 4611686018427387904 := by decide
      refine ⟨_, rfl, D, _, rfl, .inl (SqL.of eD), (((plF g).map V.str).length : Int), rfl, by omega, by rw [List.length_map]; omega, fun D2 hD2 => ?_⟩
      refine lc_range (lo := 0) (n := (((plF g).map V.str).length : Int).toNat) (fun i H' => Same H10 H' ∧ H' D2 = some (.lst ((erN (plF g) cs i).map V.str))) ⟨same_new hD2, upd_same⟩ ?_ ?_
      · rintro i2 H7 hi2 ⟨s7, eD2⟩
        have hi2 : i2 < (plF g).length := by rw [List.length_map] at hi2; omega
        obtain ⟨w2, hw2⟩ : ∃ w2, (plF g)[i2]? = some w2 := ⟨_, List.getElem?_eq_getElem (by omega)⟩
        obtain ⟨c2, hc2⟩ : ∃ c2, cs[i2]? = some c2 := ⟨_, List.getElem?_eq_getElem (by omega)⟩
        have st : erN (plF g) cs (i2 + 1) = erN (plF g) cs i2 ++ if c2 = w2 then [w2] else [] := by
          show erN (plF g) cs i2 ++ (if cs.getD i2 "" = (plF g).getD i2 "" then [(plF g).getD i2 ""] else []) = _
          rw [getD_at hw2, getD_at hc2]
        have len2 := erN_len (pl := plF g) (cs := cs) i2
        have ac : atI (cs.map V.str) (0 + ((i2 : Nat) : Int)) = some (.str c2) := by rw [Int.zero_add]; exact atI_nat (by rw [List.getElem?_map, hc2]; rfl)
        have aw : atI ((plF g).map V.str) (0 + ((i2 : Nat) : Int)) = some (.str w2) := by rw [Int.zero_add]; exact atI_nat (by rw [List.getElem?_map, hw2]; rfl)
        refine ⟨wipe1 (by decide), V.ref b0, by kernel_rfl, V.int (0 + ((i2 : Nat) : Int)), by kernel_rfl, b0, _, _, _, rfl, rfl, SqT.same s7 hb10, ac, V.ref D, by kernel_rfl, V.int (0 + ((i2 : Nat) : Int)), by kernel_rfl, D, _, _, _, rfl, rfl, SqL.of (s7 _ _ eD), aw, rfl, _, rfl, ite2 (fun he => ?_) (fun he => ?_)⟩
        · have ew : c2 = w2 := by have := of_decide_eq_true he; injection this
          rw [if_pos ew] at st
          refine ⟨V.ref D, by kernel_rfl, V.int (0 + ((i2 : Nat) : Int)), by kernel_rfl, D, _, _, _, rfl, rfl, SqL.of (s7 _ _ eD), aw, _, eD2, small1000 (by rw [List.length_map]; omega), fun b o e => ?_, ?_⟩
          · rw [upd_ne (ne_of_none e hD2)]
            exact s7 b o e
          · rw [upd_same, st, List.map_append]
            rfl
        · have ew : c2 ≠ w2 := fun q => he (decide_eq_true (by rw [q]))
          rw [if_neg ew, List.append_nil] at st
          refine ⟨s7, ?_⟩
          rw [st]
          exact eD2
      rintro H11 ⟨s11, eD2⟩
      have eD2 : H11 D2 = some (.lst ((erN (plF g) cs (plF g).length).map V.str)) := by
        rw [List.length_map] at eD2
        exact eD2
      have s911 := s10.trans s11
      have len2 := erN_len (pl := plF g) (cs := cs) (plF g).length
      -- cells of the case
      obtain ⟨dx, pv0, gl, e1, e2, e3⟩ := id pr9
      have okall : ∀ s, s ∈ t.names ∨ s ∈ plF g → PyData.strOk s = true := fun s h => h.elim (okN s) (okpl s)
      have csA : ∀ {H' : Hp}, Same H9 H' → Dq K H' (.ref b0) (csD cs) := fun s => cs_dq ⟨b0, rfl, SqT.same s hb0⟩
      have gcs := gd_cs (okcs cs hcs) (by rw [lcs]; omega)
      refine ⟨_, rfl, a, dx, _, rfl, s911 _ _ e1, rfl, _, rfl, _, rfl, a, t, g, .ref b0, csD cs, rfl, pr9.same s911, nd, mf, by omega, lN, lpl, okall, csA s911, gcs.cmp (by decide), .inl ⟨cs, hcs, rfl, fun pc H12 s12 epc => ?_⟩⟩
      have s912 := s911.trans s12
      refine ⟨_, rfl, va, _, _, _, rfl, rfl, SqT.same s912 hq9, rfl, _, rfl, D2, _, rfl, .inl ⟨SqL.of (s12 _ _ eD2), fun tv htv => ?_⟩⟩
      have s13 := same_new (o := .tup ((erN (plF g) cs (plF g).length).map V.str)) htv
      have s913 := s912.trans s13
      refine ⟨na, tv, _, _, rfl, rfl, SqT.same s913 hna9, SqT.of upd_same, Nat.le_of_lt (small1000 (by rw [List.length_map, List.length_map]; omega)), fun pt H14 s14 qpt => ?_⟩
      rw [← List.map_append] at qpt
      have s914 := s913.trans s14
      have gc2 : Gd (csD (t.names ++ erN (plF g) cs (plF g).length)) 1 := gd_cs (fun s hs => by
        rcases List.mem_append.mp hs with h | h
        · exact okN s h
        · obtain ⟨k, hk, e⟩ := erN_mem h
          rw [e]
          exact okpl _ (getD_mem hk)) (by rw [List.length_append]; omega)
      refine ⟨.ref pc, .ref pt, csD _, csD _, rfl, cs_dq ⟨pc, rfl, SqT.of (s14 _ _ (s13 _ _ epc))⟩, cs_dq ⟨pt, rfl, qpt⟩, by have := gc2.dep; omega, gc2.cmp (by decide), gc2.cmp (by decide), fun b H15 hb s15 => ?_⟩
      obtain rfl := hb rfl
      have s915 := s914.trans s15
      refine ⟨true, rfl, iteF ?_⟩
      have pxd15 := Paired.mapP pxd9 fun _ _ y => CsAt.tps (Tps.of s915) y
      have P15 := P9.same s915
      have lq15 := lq9.same s915
      refine ⟨_, rfl, a, dx, _, rfl, s915 _ _ e1, rfl, _, rfl, a, t, g, rfl, pr9.same s915, nd, mf, by omega, lN, lpl, fun qt2 xt2 H16 s16 nqt2 eqt2 pxt2 => ?_⟩
      have pxd16 := Paired.mapP pxd15 fun _ _ y => CsAt.tps (Tps.of s16) y
      have lq16 := lq15.same s16
      refine ⟨_, rfl, .ref qt2, .ref qd, _, _, rfl, sam eqt2 pxt2, sam lq16.e pxd16, by have := gdl.dep; omega, gdl.cmp (by decide), gdl.cmp (by decide), fun b H17 hb s17 => ?_⟩
      obtain rfl := hb rfl
      refine ⟨true, rfl, iteF ?_⟩
      have s917 := (s915.trans s16).trans s17
      have lq17 := lq16.same s17
      have pxd17 := Paired.mapP pxd16 fun _ _ y => CsAt.tps (Tps.of s17) y
      have P17 := P9.same s917
      have b317 : But p c H3 H17 := fun b o z h1 h2 => s917 _ _ (b39 _ _ z h1 h2)
      have dv17 := dv9.same s917
      have pr17 := pr9.same s917
      have fn17 := fn9.same s917
      have hb17 := SqT.same s917 hb0
      clear lq16 pxd16 lq15 pxd15 P15 eqt2 pxt2 nqt2 s16 s17 s915 s14 s15 qpt gc2 s914 s913 s13 htv s912 s12 epc s911 s11 eD2 s10 eD hb10 hD hD2 e1 e2 e3 hb dv9 pr9 fn9 s917 b39 P9 lq9 pxd9 t9 hga9 hp9 pp9 hq9 hna9
      refine ⟨_, rfl, _, rfl, _, rfl, _, rfl, p, c, Lim bu, _, .ref va, .ref ga, t, g, b0, cs, rfl, P17, by omega, dv17, fn17, hb17, lN, lK, by omega, by omega, fun s hs => ?_, fun bw db H18 P18 b1718 qb gdb => ?_⟩
      · rcases hs with h | h | h | h | h
        · exact okN s h
        · exact okK s h
        · exact okp s h
        · rw [h]; exact okg
        · exact okcs cs hcs s h
      have lq18 := lq17.but b1718
      have pxd18 := Paired.mapP pxd17 fun _ _ y => CsAt.tps (b1718.tps P17) y
      have b318 := b317.trans b1718
      have pr18 : PrgAt K C H18 a t := by
        obtain ⟨dx, v, gl, e1, e2, e3⟩ := id pr
        exact pr.tps (by rw [e1]; exact b318 _ _ e1 nap nac) (b318.tps P3)
      have P18 : PoolAt H18 p c (Lim bu) (ct + 10 * (i + 1)) := P18.mono (by omega)
      have cdb := gdb.cmp (by decide)
      clear b1718 P17 lq17 pxd17 b317 dv17 pr17 fn17 hb17
      refine (fun (key : ∀ isC : Bool, (isC = true ↔ ∃ cs' ∈ csT t.names (plF g) (plF g).length, db = csD cs') → tSeq _ _ _ [some (.ref sc), some (.ref p), some (.ref va), some (.ref a), some (.ref ga), some (.str g.name), some (.ref qd), some (.ref qt), some (.ref b0), some (.ref D), none, some (.ref D2), none, some bw, some (.bl isC), x15, none] H18) => ⟨_, rfl, _, _, _, _, _, rfl, .ty _, dq_ty qb, dq_tu qb, _, rfl, ite2 (fun ht => ⟨_, rfl, _, rfl, db, _, qb.dp, (sam lq18.e pxd18).dp, cdb.shaped, (gdl.cmp (by decide)).shaped, key _ (any_csD _ _)⟩) (fun ht => key false ⟨(fun z => Bool.noConfusion z), fun ⟨cs', _, e⟩ => absurd (by rw [e]; rfl) ht⟩)⟩) ?_
      intro isC hC
      obtain ⟨dx, pv0, gl, e1, e2, e3⟩ := id pr18
      have okall : ∀ s, s ∈ t.names ∨ s ∈ plF g → PyData.strOk s = true := fun s h => h.elim (okN s) (okpl s)
      refine ⟨_, rfl, a, dx, _, rfl, e1, rfl, _, rfl, _, rfl, a, t, g, bw, db, rfl, pr18, nd, mf, by omega, lN, lpl, okall, qb, cdb, ?_⟩
      have fin : ∀ H' : Hp, Same H18 H' → PoolAt H' p c (Lim bu) (ct + 10 * (i + 1)) ∧ But p c H3 H' := fun H' s => ⟨P18.same s, fun b o z h1 h2 => s _ _ (b318 _ _ z h1 h2)⟩
      cases isC with
      | true =>
        obtain ⟨cs', hc', e⟩ := hC.mp rfl
        refine .inl ⟨cs', hc', e, fun pc H19 s19 epc => ?_⟩
        refine ⟨_, rfl, _, rfl, rfl, _, rfl, iteE (by decide) ?_⟩
        exact ⟨⟨_, _, _, _, _, _, _, _, _, _, rfl⟩, fin H19 s19⟩
      | false =>
        refine .inr ⟨fun cs' hc' e => Bool.noConfusion (hC.mpr ⟨cs', hc', e⟩), fun d' H19 s19 hd' => ?_⟩
        have look : ∀ v : V, ([(("value" : Str), v)] : List (Str × V)).lookup ("value" : Str) = some v := fun v => by simp [List.lookup]
        have s20 := s19.trans (same_new (o := .xd [("value", bw)]) hd')
        refine ⟨false, exm_one M.iu, (fun z => nomatch z), fun _ => ⟨true, exm_one M.ii, fun _ a' na => ?_, fun z => nomatch z⟩⟩
        have gd3 := gdb.dep
        refine ⟨_, rfl, rfl, _, d', _, bw, rfl, M.xf, M.no, rfl, upd_same, look _, _, rfl, fun oe hz hf => ⟨bw, bw, db, db, rfl, qb.same s20, qb.same s20, by omega, cdb, cdb, fun b H21 hb s21 => ?_⟩⟩
        obtain rfl := hb rfl
        have ed := s21 _ _ (upd_same (H := H19) (a := d') (o := .xd [("value", bw)]))
        refine ⟨_, rfl, iteS rfl ⟨_, rfl, _, d', rfl, rfl, M.ex, _, _, _, _, rfl, fun u r => r, M.kP, ed, _, rfl, iteS rfl ⟨_, rfl, _, d', rfl, rfl, M.ex, _, _, _, _, rfl, fun u r => r, M.kV, ed, ?_⟩⟩⟩
        refine ⟨_, rfl, _, rfl, rfl, _, rfl, iteE (by decide) ?_⟩
        exact ⟨⟨_, _, _, _, _, _, _, _, _, _, rfl⟩, fin H21 (s20.trans s21)⟩
    · rintro σ H4 ⟨⟨x4, x5, x6, x7, x8, x9, x11, x13, x14, x15, rfl⟩, P4, b34⟩
      exact k _
end

/-! ### the head by kernel runs: the top is run once for each look at what it leaves; no state is written out -/
section
open PySem.W
theorem split3 {S A B : Type} {o : Option S} {f : S → Bool} {g : S → A} {h : S → B} {a : A} {b : B} (h1 : o.map f = some true) (h2 : o.map g = some a) (h3 : o.map h = some b) : o.map (fun s => (f s, g s, h s)) = some (true, a, b) := by
  cases o with
  | none => cases h1
  | some s =>
    have e1 : f s = true := Option.some.inj h1
    have e2 : g s = a := Option.some.inj h2
    have e3 : h s = b := Option.some.inj h3
    show some (f s, g s, h s) = _
    rw [e1, e2, e3]
theorem split2 {S A B : Type} {o : Option S} {g : S → A} {h : S → B} {a : A} {b : B} (h2 : o.map g = some a) (h3 : o.map h = some b) : o.map (fun s => (g s, h s)) = some (a, b) := by
  cases o with
  | none => cases h2
  | some s =>
    have e2 : g s = a := Option.some.inj h2
    have e3 : h s = b := Option.some.inj h3
    show some (g s, h s) = _
    rw [e2, e3]
/-- the addresses that the module's names reach: functions, classes, their codes and methods -/
def refA : Value → List Addr
  | .ref a => [a]
  | _ => []
def refsA : Option Obj → List Addr
  | some ⟨_, _, .dict es _, _⟩ => es.toList.flatMap fun e => refA e.val
  | some ⟨_, _, .func fd, _⟩ => refA fd.code
  | some ⟨_, _, .cls cd, _⟩ => [cd.ns]
  | _ => []
def nextA (g : Addr → Option Obj) (as : List Addr) : List Addr := as.flatMap fun a => refsA (g a)
def forceA {α : Type} : List Addr → (List Addr → α) → α
  | [], k => k []
  | a :: r, k => HandSHeadRun.frNat a fun a => forceA r fun r => k (a :: r)
theorem forceA_eq {α : Type} : ∀ (l : List Addr) (k : List Addr → α), forceA l k = k l
  | [], k => rfl
  | a :: r, k => by
    show HandSHeadRun.frNat a (fun a => forceA r fun r => k (a :: r)) = _
    rw [HandSHeadRun.frNat_eq, forceA_eq r]
def withA {α : Type} (g : Addr → Option Obj) (k : Frag → α) : α :=
  forceA (nextA g [mainGlobals]) fun f1 => forceA (nextA g f1) fun f2 => forceA (nextA g f2) fun f3 => forceA (nextA g f3) fun f4 => k (He.frG g (mainGlobals :: (f1 ++ (f2 ++ (f3 ++ f4)))))
theorem withA_eq {α : Type} (g : Addr → Option Obj) (k : Frag → α) : ∃ as, withA g k = k (He.frG g as) := by
  unfold withA
  simp only [forceA_eq]
  exact ⟨_, rfl⟩
abbrev AlA : Type := Bool × He.Al
def obsA (fx : List (Frag → Bool)) (fa : List He.Fa) (fn : List He.FnD) (K : Frag) : AlA := (fx.all fun f => f K, He.obsE fa fn K)
def valA (fn : List He.FnD) : AlA := (true, He.valE fn)
def SaysA (fx : List (Frag → Bool)) (fa : List He.Fa) (fn : List He.FnD) (K : Frag) : Prop := obsA fx fa fn K = valA fn
def obsAG (fx : List (Frag → Bool)) (fa : List He.Fa) (fn : List He.FnD) (g : Addr → Option Obj) : AlA := withA g (obsA fx fa fn)
def hookA (fx : List (Frag → Bool)) (fa : List He.Fa) (fn : List He.FnD) : Hook where
  α := AlA
  obs := fun s => obsAG fx fa fn s.heap.get?
  val := fun _ => valA fn
  says := fun _ h => ∃ K : Frag, K.In h ∧ SaysA fx fa fn K
  of := fun _ s e => by
    obtain ⟨as, q⟩ := withA_eq s.heap.get? (obsA fx fa fn)
    exact ⟨_, He.frG_in, q.symm.trans e⟩
  keeps := fun _ _ _ ⟨K, hK, c⟩ k => ⟨K, Frag.In.keeps hK k, c⟩
theorem obsAG_eq {fx : List (Frag → Bool)} {fa : List He.Fa} {fn : List He.FnD} {g : Addr → Option Obj} {s : Shared} (h : ∀ a, g a = s.heap.get? a) : obsAG fx fa fn g = (hookA fx fa fn).obs s := by
  have e : g = s.heap.get? := funext h
  rw [e] <;> rfl
/-- a def as a datum -/
def khDef (at_ : Str × Option Str) (name qual : Str) (st : Stmt) : He.FnD := ⟨at_, name, qual, defArgs st, defBody st, defScope st⟩
section
variable {fx : List (Frag → Bool)} {fa : List He.Fa} {fn : List He.FnD} {K : Frag}
theorem SaysA.x (c : SaysA fx fa fn K) (i : Nat) {f : Frag → Bool} (h : fx[i]? = some f) : f K = true :=
  List.all_eq_true.mp (show (fx.all fun f => f K) = true from congrArg (fun z : AlA => z.1) c) f (List.mem_of_getElem? h)
theorem SaysA.says (c : SaysA fx fa fn K) : He.SaysE fa fn K := congrArg (fun z : AlA => z.2) c
theorem SaysA.fact (c : SaysA fx fa fn K) (i : Nat) {f : He.Fa} (h : fa[i]? = some f) : f.ok K = true := c.says.fact i h
theorem SaysA.def_ (c : SaysA fx fa fn K) (i : Nat) {a : Str × Option Str} {x q : Str} {st : Stmt} (h : fn[i]? = some (khDef a x q st)) : ∃ fd, Fun K x q st (He.fAd K a) fd := by
  obtain ⟨oc, od, osl, kV, doc, pm, an, cdv, ct, l, cd⟩ := c.says.def_ i h
  exact ⟨_, fun_mk (st := st) l cd (by
    show (match K.lookup (He.fAd K a) with
      | some ⟨_, _, .func _, _⟩ => true
      | some ⟨_, _, .cls _, _⟩ => PySem.W.specialIn K (.ref (He.fAd K a)) "__call__" == some (some (.builtin "type.__call__"))
      | _ => false) = true
    rw [show K.lookup (He.fAd K a) = _ from l])⟩
end
end

/-- an own error's class, looked at -/
def xcB (K : PySem.W.Frag) (x : Str) (bm : List Value) (newId : String) (f : Str) : Bool := (match K.lookup (He.ga K x) with
    | some ⟨cl, _, .cls cd, sl⟩ => decide (cl = .type "type") && (decide (cd.mro = .ref (He.ga K x) :: bm) && (cd.hasDict && (!cd.hasDel && (match sl.toList with
      | [_, _, _, _, some n, _] => decide (n = .builtin newId)
      | _ => false))))
    | _ => false) && (He.eqO (PySem.W.findIn K (.ref (He.ga K x)) "__setattr__") (some (some (.builtin "object.__setattr__"))) && (PySem.W.keepIn K (.ref (He.ga K x)) && (He.eqO (PySem.W.findIn K (.ref (He.ga K x)) f) (some none) &&
    (He.eqO (PySem.W.findIn K (.ref (He.ga K x)) "__getattribute__") (some (some (.builtin "BaseException.__getattribute__"))) && (He.eqO (PySem.W.findIn K (.ref (He.ga K x)) "__getattr__") (some none) && He.eqO (PySem.W.findIn K (.ref (He.ga K x)) "__class__") (some (some (.builtin "object.__class__"))))))))
theorem xcB_ok {K : PySem.W.Frag} {x : Str} {bm : List Value} {newId : String} {f : Str} (h : xcB K x bm newId f = true) : XcK K (He.ga K x) bm newId f := by
  obtain ⟨h1, h⟩ := He.ba h
  obtain ⟨h2, h⟩ := He.ba h
  obtain ⟨h3, h⟩ := He.ba h
  obtain ⟨h4, h⟩ := He.ba h
  obtain ⟨h5, h⟩ := He.ba h
  obtain ⟨h6, h7⟩ := He.ba h
  refine ⟨?_, He.eqO_ok h2, h3, He.eqO_ok h4, He.eqO_ok h5, He.eqO_ok h6, He.eqO_ok h7⟩
  cases e : K.lookup (He.ga K x) with
  | none =>
    rw [e] at h1
    cases h1
  | some o =>
    rw [e] at h1
    obtain ⟨cl, dd, dt, sl⟩ := o
    cases dt with
    | cls cd =>
      obtain ⟨nm, bs, mro, N, q, hd, sn, sub, ab, col, del⟩ := cd
      obtain ⟨a1, b1⟩ := He.ba (show (decide (cl = .type "type") && (decide (mro = .ref (He.ga K x) :: bm) && (hd && (!del && (match sl.toList with
        | [_, _, _, _, some n, _] => decide (n = .builtin newId)
        | _ => false))))) = true from h1)
      obtain ⟨a2, b2⟩ := He.ba b1
      obtain ⟨a3, b3⟩ := He.ba b2
      obtain ⟨a4, b4⟩ := He.ba b3
      split at b4
      · rename_i k0 k1 k2 k3 n k5 hs
        obtain ⟨sl⟩ := sl
        have hs2 : sl = [k0, k1, k2, k3, some n, k5] := hs
        cases hs2
        cases of_decide_eq_true b4
        cases of_decide_eq_true a1
        cases of_decide_eq_true a2
        cases a3
        cases del with
        | true => cases a4
        | false => exact ⟨_, _, _, _, _, _, _, _, _, _, _, _, _, _, rfl⟩
      · cases b4
    | _ => cases h1

/-! ### the end -/
abbrev khR : PySem.W.OpenRow := PySem.W.OpenLaw.row PySem.Challenge.rw_allornothing_k07_cases_and_cells
abbrev khQ : Program := PySem.W.view khR.prog [79]
def khN0 : List PySem.Str := ["_wall", "__name__", "ProgramError", "InvalidText", "InvalidSyntax", "InvalidTree", "DuplicateName", "UnknownName", "WrongArguments", "InvalidFinally", "TooLarge", "InvalidCase", "UnknownFunction", "parts_of", "size_of", "numbered", "numbered_parts", "all_numbered", "assigned_names", "is_integer", "LETTERS", "DIGITS", "SIGNS", "KEYWORDS", "LONGEST", "DEEPEST", "is_name", "kind_of", "end_of_run", "tokens_of"]
def khN1 : List PySem.Str := ["expression_of", "Reader", "parse", "LIMIT", "is_row_of_names", "is_pair", "is_expression", "is_arg", "is_call", "is_block", "is_handler", "is_simple", "is_statement", "is_param", "is_function", "is_tree", "own_names", "depth_of", "expressions_of", "has_great_number", "check_sizes", "check_unlike", "names_of_args", "named_in", "fits", "check_statement", "check_names", "Program", "_law_pool", "_law_mixed"]
def khN2 : List PySem.Str := ["_law_draw", "_law_names", "_law_expression", "_law_args", "_law_call", "_law_piece", "_law_block", "_law_tree", "_law_cases", "_law_entry", "_law_same", "_law_bent"]
def khN : List PySem.Str := khN0 ++ khN1 ++ khN2
def khX0 : List (PySem.W.Frag → Bool) := [fun K => xcB K "InvalidCase" (.ref (He.ga K "ProgramError") :: XC.tlV) "ValueError.__new__" "value",
    fun K => xcB K "UnknownFunction" (XC.tlK) "LookupError.__new__" "name",
    fun K => He.tupB K "KEYWORDS" [.str "globals", .str "kinds", .str "keep", .str "def", .str "if", .str "else", .str "while", .str "risk", .str "raise", .str "try", .str "except", .str "finally", .str "undo", .str "with", .str "swallow", .str "return"],
    fun K => decide (PySem.W.exmOne K (.ref (He.ga K "InvalidCase")) (.ref (He.ga K "InvalidCase")) = some true),
    fun K => decide (PySem.W.exmOne K (.ref (He.ga K "InvalidCase")) (.ref (He.ga K "UnknownFunction")) = some false),
    fun K => decide (PySem.W.kitOne K (.ref (He.ga K "InvalidCase")) (.ref (He.ga K "ProgramError")) = some true),
    fun K => decide (PySem.W.kitOne K (.ref (He.ga K "InvalidCase")) (.type "ValueError") = some true),
    fun K => decide (PySem.W.specialIn K (.builtin "object.__class__") "__get__" = some (some (.builtin "getset_descriptor.__get__"))),
    fun K => decide (PySem.W.takesIn K (.builtin "object.__class__") = some true)]
def khX : List (PySem.W.Frag → Bool) := khX0
def khF0 : List He.Fa := [.glo "_law_mixed",
    .glo "_law_draw",
    .glo "_law_pool",
    .glo "is_name",
    .glo "parts_of",
    .glo "size_of",
    .glo "numbered",
    .glo "numbered_parts",
    .glo "all_numbered",
    .glo "is_pair",
    .glo "is_row_of_names",
    .glo "is_integer",
    .glo "is_expression",
    .glo "is_arg",
    .glo "is_call",
    .glo "is_simple",
    .glo "is_block",
    .glo "is_handler",
    .glo "is_statement",
    .glo "is_param",
    .glo "is_function",
    .glo "is_tree",
    .glo "assigned_names",
    .glo "own_names",
    .glo "check_unlike"]
def khF1 : List He.Fa := [.glo "names_of_args",
    .glo "expressions_of",
    .glo "fits",
    .glo "named_in",
    .glo "has_great_number",
    .glo "depth_of",
    .glo "check_sizes",
    .glo "check_statement",
    .glo "check_names",
    .glo "_law_expression",
    .glo "_law_args",
    .glo "_law_call",
    .glo "_law_piece",
    .glo "_law_block",
    .glo "_law_names",
    .glo "_law_tree",
    .glo "_law_same",
    .glo "_law_cases",
    .glo "_law_bent",
    .glo "law",
    .glo "Program",
    .cls "Program",
    .mkr "Program",
    .noat "Program" "content",
    .noat "Program" "globals"]
def khF2 : List He.Fa := [.meth "Program" "__init__",
    .meth "Program" "__getitem__",
    .meth "Program" "places",
    .meth "Program" "cases",
    .meth "Program" "cells",
    .glo "ProgramError",
    .glo "InvalidCase",
    .meth "InvalidCase" "__init__",
    .glo "UnknownFunction",
    .meth "UnknownFunction" "__init__",
    .free "int",
    .free "len",
    .free "isinstance",
    .free "str",
    .free "sum",
    .free "tuple",
    .free "bool",
    .free "all",
    .free "zip",
    .free "enumerate",
    .free "max",
    .free "any",
    .free "list",
    .free "abs",
    .free "range"]
def khF3 : List He.Fa := [.free "sorted",
    .free "ValueError",
    .str "LETTERS" LET,
    .str "DIGITS" DIG,
    .int "DEEPEST" 30,
    .int "LIMIT" 1000000000000,
    .glo "KEYWORDS"]
def khF : List He.Fa := khF0 ++ khF1 ++ khF2 ++ khF3
def khD0 : List He.FnD := [khDef ("_law_mixed", none) "_law_mixed" "_law_mixed" sMixed,
    khDef ("_law_draw", none) "_law_draw" "_law_draw" sDraw,
    khDef ("_law_pool", none) "_law_pool" "_law_pool" sPool,
    khDef ("is_name", none) "is_name" "is_name" sIsName,
    khDef ("parts_of", none) "parts_of" "parts_of" sParts,
    khDef ("size_of", none) "size_of" "size_of" sSize,
    khDef ("numbered", none) "numbered" "numbered" sNumb,
    khDef ("numbered_parts", none) "numbered_parts" "numbered_parts" sNPar,
    khDef ("all_numbered", none) "all_numbered" "all_numbered" sAllN,
    khDef ("is_pair", none) "is_pair" "is_pair" sIsPair,
    khDef ("is_row_of_names", none) "is_row_of_names" "is_row_of_names" sRowN,
    khDef ("is_integer", none) "is_integer" "is_integer" sIsInt,
    khDef ("is_expression", none) "is_expression" "is_expression" sIsExp,
    khDef ("is_arg", none) "is_arg" "is_arg" sIsArg,
    khDef ("is_call", none) "is_call" "is_call" sIsCal,
    khDef ("is_simple", none) "is_simple" "is_simple" sIsSim,
    khDef ("is_block", none) "is_block" "is_block" sIsBlk,
    khDef ("is_handler", none) "is_handler" "is_handler" sIsHnd,
    khDef ("is_statement", none) "is_statement" "is_statement" sIsSta,
    khDef ("is_param", none) "is_param" "is_param" sIsPar,
    khDef ("is_function", none) "is_function" "is_function" sIsFun,
    khDef ("is_tree", none) "is_tree" "is_tree" sIsTree,
    khDef ("assigned_names", none) "assigned_names" "assigned_names" sAsg,
    khDef ("own_names", none) "own_names" "own_names" sOwn,
    khDef ("check_unlike", none) "check_unlike" "check_unlike" sUnl]
def khD1 : List He.FnD := [khDef ("names_of_args", none) "names_of_args" "names_of_args" sNoA,
    khDef ("expressions_of", none) "expressions_of" "expressions_of" sExs,
    khDef ("fits", none) "fits" "fits" sFits,
    khDef ("named_in", none) "named_in" "named_in" sNmI,
    khDef ("has_great_number", none) "has_great_number" "has_great_number" sGrt,
    khDef ("depth_of", none) "depth_of" "depth_of" sDep,
    khDef ("check_sizes", none) "check_sizes" "check_sizes" sChS,
    khDef ("check_statement", none) "check_statement" "check_statement" sChT,
    khDef ("check_names", none) "check_names" "check_names" sChN,
    khDef ("_law_expression", none) "_law_expression" "_law_expression" sLEx,
    khDef ("_law_args", none) "_law_args" "_law_args" sLAr,
    khDef ("_law_call", none) "_law_call" "_law_call" sLCa,
    khDef ("_law_piece", none) "_law_piece" "_law_piece" sLPi,
    khDef ("_law_block", none) "_law_block" "_law_block" sLBk,
    khDef ("_law_names", none) "_law_names" "_law_names" sNames,
    khDef ("_law_tree", none) "_law_tree" "_law_tree" sLTr,
    khDef ("_law_same", none) "_law_same" "_law_same" sSame,
    khDef ("_law_cases", none) "_law_cases" "_law_cases" sLCs,
    khDef ("_law_bent", none) "_law_bent" "_law_bent" sLBt,
    khDef ("law", none) "law" "law" sLaw,
    khDef ("Program", some "__init__") "__init__" "Program.__init__" sPIni,
    khDef ("Program", some "__getitem__") "__getitem__" "Program.__getitem__" sPGet,
    khDef ("Program", some "places") "places" "Program.places" sPPla,
    khDef ("Program", some "cases") "cases" "Program.cases" sPCas,
    khDef ("Program", some "cells") "cells" "Program.cells" sPCel]
def khD2 : List He.FnD := [khDef ("InvalidCase", some "__init__") "__init__" "InvalidCase.__init__" sXI8,
    khDef ("UnknownFunction", some "__init__") "__init__" "UnknownFunction.__init__" sXI9]
def khD : List He.FnD := khD0 ++ khD1 ++ khD2
abbrev khH : PySem.W.Hook := hookA khX khF khD
def khO (s : PySem.W.SharedT) : AlA := obsAG khX khF khD (HandSHeadRun.getT s)
theorem khO_eq (s : PySem.W.SharedT) : khO s = khH.obs s.abs := obsAG_eq (HandSHeadRun.getT_eq s)
section
open PySem.W PySem.Calls PyProof.Rows HandSHeadRun
theorem khRun1 (w : World) (os : OsState) : (endF (stepQ (denQ tabQ) khR.prog w) 60000 khR.prog w os).map (fun s => looksF khR.prog (boot_heap w.params) s.abs) = some true := by kernel_rfl
theorem khRun2 (w : World) (os : OsState) : (endF (stepQ (denQ tabQ) khR.prog w) 60000 khR.prog w os).map (fun s => seenQ khQ khN (importedModules khR.prog.main.body) (fun s => xlAt khQ [] s && recOk khR.toRowW.records s) s.abs) = some (openGood khQ khN) := by kernel_rfl
theorem khRun3 (w : World) (os : OsState) : (endF (stepQ (denQ tabQ) khR.prog w) 60000 khR.prog w os).map khO = some (valA khD) := by kernel_rfl
theorem khRun (w : World) : RunEq khR khQ khH khO 60000 khN w := fun os => split3 (khRun1 w os) (khRun2 w os) (khRun3 w os)
end
theorem khFacts {l : PySem.W.OpenLaw} {w : World} {K : PySem.W.Frag} {h : Heap} {mg : Str → Option Value} {fa : Addr} (X : K.In h) (G : h.Ns mainGlobals mg) (hfa : mg "law" = some (.ref fa)) (c : SaysA khX khF khD K) :
    ∃ fd : FuncData, (∀ (s : Shared) (v : Value), BindsTo s fd ⟨[v], []⟩ [("_law_script", v)]) ∧ ∀ base : Heap, K.In base → base.Ns mainGlobals mg → FnOk l.prog w K mg base CX0 41 fa fd PLaw (spLaw K) := by
  have gMixed := He.glo_ok X G (x := "_law_mixed") (c.fact 0 (by kernel_rfl))
  obtain ⟨fdMixed, FMixed⟩ := c.def_ 0 (a := ("_law_mixed", none)) (x := "_law_mixed") (q := "_law_mixed") (st := sMixed) (by kernel_rfl)
  have bMixed := FMixed.binds (ps := PMixed) fun _ _ _ _ _ _ us hl => match us, hl with | [_, _, _], _ => rfl
  have kMixed := FMixed.kp
  have gDraw := He.glo_ok X G (x := "_law_draw") (c.fact 1 (by kernel_rfl))
  obtain ⟨fdDraw, FDraw⟩ := c.def_ 1 (a := ("_law_draw", none)) (x := "_law_draw") (q := "_law_draw") (st := sDraw) (by kernel_rfl)
  have bDraw := FDraw.binds (ps := PDraw) fun _ _ _ _ _ _ us hl => match us, hl with | [_, _], _ => rfl
  have kDraw := FDraw.kp
  have gPool := He.glo_ok X G (x := "_law_pool") (c.fact 2 (by kernel_rfl))
  obtain ⟨fdPool, FPool⟩ := c.def_ 2 (a := ("_law_pool", none)) (x := "_law_pool") (q := "_law_pool") (st := sPool) (by kernel_rfl)
  have bPool := FPool.binds (ps := PPool) fun _ _ _ _ _ _ us hl => match us, hl with | [_], _ => rfl
  have kPool := FPool.kp
  have gIsName := He.glo_ok X G (x := "is_name") (c.fact 3 (by kernel_rfl))
  obtain ⟨fdIsName, FIsName⟩ := c.def_ 3 (a := ("is_name", none)) (x := "is_name") (q := "is_name") (st := sIsName) (by kernel_rfl)
  have bIsName := FIsName.binds (ps := PIsName) fun _ _ _ _ _ _ us hl => match us, hl with | [_], _ => rfl
  have kIsName := FIsName.kp
  have gParts := He.glo_ok X G (x := "parts_of") (c.fact 4 (by kernel_rfl))
  obtain ⟨fdParts, FParts⟩ := c.def_ 4 (a := ("parts_of", none)) (x := "parts_of") (q := "parts_of") (st := sParts) (by kernel_rfl)
  have bParts := FParts.binds (ps := PParts) fun _ _ _ _ _ _ us hl => match us, hl with | [_], _ => rfl
  have kParts := FParts.kp
  have gSize := He.glo_ok X G (x := "size_of") (c.fact 5 (by kernel_rfl))
  obtain ⟨fdSize, FSize⟩ := c.def_ 5 (a := ("size_of", none)) (x := "size_of") (q := "size_of") (st := sSize) (by kernel_rfl)
  have bSize := FSize.binds (ps := PSize) fun _ _ _ _ _ _ us hl => match us, hl with | [_], _ => rfl
  have kSize := FSize.kp
  have gNumb := He.glo_ok X G (x := "numbered") (c.fact 6 (by kernel_rfl))
  obtain ⟨fdNumb, FNumb⟩ := c.def_ 6 (a := ("numbered", none)) (x := "numbered") (q := "numbered") (st := sNumb) (by kernel_rfl)
  have bNumb := FNumb.binds (ps := PNumb) fun _ _ _ _ _ _ us hl => match us, hl with | [_, _], _ => rfl
  have kNumb := FNumb.kp
  have gNPar := He.glo_ok X G (x := "numbered_parts") (c.fact 7 (by kernel_rfl))
  obtain ⟨fdNPar, FNPar⟩ := c.def_ 7 (a := ("numbered_parts", none)) (x := "numbered_parts") (q := "numbered_parts") (st := sNPar) (by kernel_rfl)
  have bNPar := FNPar.binds (ps := PNPar) fun _ _ _ _ _ _ us hl => match us, hl with | [_, _], _ => rfl
  have kNPar := FNPar.kp
  have gAllN := He.glo_ok X G (x := "all_numbered") (c.fact 8 (by kernel_rfl))
  obtain ⟨fdAllN, FAllN⟩ := c.def_ 8 (a := ("all_numbered", none)) (x := "all_numbered") (q := "all_numbered") (st := sAllN) (by kernel_rfl)
  have bAllN := FAllN.binds (ps := PAllN) fun _ _ _ _ _ _ us hl => match us, hl with | [_, _], _ => rfl
  have kAllN := FAllN.kp
  have gIsPair := He.glo_ok X G (x := "is_pair") (c.fact 9 (by kernel_rfl))
  obtain ⟨fdIsPair, FIsPair⟩ := c.def_ 9 (a := ("is_pair", none)) (x := "is_pair") (q := "is_pair") (st := sIsPair) (by kernel_rfl)
  have bIsPair := FIsPair.binds (ps := PIsPair) fun _ _ _ _ _ _ us hl => match us, hl with | [_], _ => rfl
  have kIsPair := FIsPair.kp
  have gRowN := He.glo_ok X G (x := "is_row_of_names") (c.fact 10 (by kernel_rfl))
  obtain ⟨fdRowN, FRowN⟩ := c.def_ 10 (a := ("is_row_of_names", none)) (x := "is_row_of_names") (q := "is_row_of_names") (st := sRowN) (by kernel_rfl)
  have bRowN := FRowN.binds (ps := PRowN) fun _ _ _ _ _ _ us hl => match us, hl with | [_], _ => rfl
  have kRowN := FRowN.kp
  have gIsInt := He.glo_ok X G (x := "is_integer") (c.fact 11 (by kernel_rfl))
  obtain ⟨fdIsInt, FIsInt⟩ := c.def_ 11 (a := ("is_integer", none)) (x := "is_integer") (q := "is_integer") (st := sIsInt) (by kernel_rfl)
  have bIsInt := FIsInt.binds (ps := PIsInt) fun _ _ _ _ _ _ us hl => match us, hl with | [_], _ => rfl
  have kIsInt := FIsInt.kp
  have gIsExp := He.glo_ok X G (x := "is_expression") (c.fact 12 (by kernel_rfl))
  obtain ⟨fdIsExp, FIsExp⟩ := c.def_ 12 (a := ("is_expression", none)) (x := "is_expression") (q := "is_expression") (st := sIsExp) (by kernel_rfl)
  have bIsExp := FIsExp.binds (ps := PIsExp) fun _ _ _ _ _ _ us hl => match us, hl with | [_], _ => rfl
  have kIsExp := FIsExp.kp
  have gIsArg := He.glo_ok X G (x := "is_arg") (c.fact 13 (by kernel_rfl))
  obtain ⟨fdIsArg, FIsArg⟩ := c.def_ 13 (a := ("is_arg", none)) (x := "is_arg") (q := "is_arg") (st := sIsArg) (by kernel_rfl)
  have bIsArg := FIsArg.binds (ps := PIsArg) fun _ _ _ _ _ _ us hl => match us, hl with | [_], _ => rfl
  have kIsArg := FIsArg.kp
  have gIsCal := He.glo_ok X G (x := "is_call") (c.fact 14 (by kernel_rfl))
  obtain ⟨fdIsCal, FIsCal⟩ := c.def_ 14 (a := ("is_call", none)) (x := "is_call") (q := "is_call") (st := sIsCal) (by kernel_rfl)
  have bIsCal := FIsCal.binds (ps := PIsCal) fun _ _ _ _ _ _ us hl => match us, hl with | [_], _ => rfl
  have kIsCal := FIsCal.kp
  have gIsSim := He.glo_ok X G (x := "is_simple") (c.fact 15 (by kernel_rfl))
  obtain ⟨fdIsSim, FIsSim⟩ := c.def_ 15 (a := ("is_simple", none)) (x := "is_simple") (q := "is_simple") (st := sIsSim) (by kernel_rfl)
  have bIsSim := FIsSim.binds (ps := PIsSim) fun _ _ _ _ _ _ us hl => match us, hl with | [_], _ => rfl
  have kIsSim := FIsSim.kp
  have gIsBlk := He.glo_ok X G (x := "is_block") (c.fact 16 (by kernel_rfl))
  obtain ⟨fdIsBlk, FIsBlk⟩ := c.def_ 16 (a := ("is_block", none)) (x := "is_block") (q := "is_block") (st := sIsBlk) (by kernel_rfl)
  have bIsBlk := FIsBlk.binds (ps := PIsBlk) fun _ _ _ _ _ _ us hl => match us, hl with | [_, _], _ => rfl
  have kIsBlk := FIsBlk.kp
  have gIsHnd := He.glo_ok X G (x := "is_handler") (c.fact 17 (by kernel_rfl))
  obtain ⟨fdIsHnd, FIsHnd⟩ := c.def_ 17 (a := ("is_handler", none)) (x := "is_handler") (q := "is_handler") (st := sIsHnd) (by kernel_rfl)
  have bIsHnd := FIsHnd.binds (ps := PIsHnd) fun _ _ _ _ _ _ us hl => match us, hl with | [_, _], _ => rfl
  have kIsHnd := FIsHnd.kp
  have gIsSta := He.glo_ok X G (x := "is_statement") (c.fact 18 (by kernel_rfl))
  obtain ⟨fdIsSta, FIsSta⟩ := c.def_ 18 (a := ("is_statement", none)) (x := "is_statement") (q := "is_statement") (st := sIsSta) (by kernel_rfl)
  have bIsSta := FIsSta.binds (ps := PIsSta) fun _ _ _ _ _ _ us hl => match us, hl with | [_, _], _ => rfl
  have kIsSta := FIsSta.kp
  have gIsPar := He.glo_ok X G (x := "is_param") (c.fact 19 (by kernel_rfl))
  obtain ⟨fdIsPar, FIsPar⟩ := c.def_ 19 (a := ("is_param", none)) (x := "is_param") (q := "is_param") (st := sIsPar) (by kernel_rfl)
  have bIsPar := FIsPar.binds (ps := PIsPar) fun _ _ _ _ _ _ us hl => match us, hl with | [_], _ => rfl
  have kIsPar := FIsPar.kp
  have gIsFun := He.glo_ok X G (x := "is_function") (c.fact 20 (by kernel_rfl))
  obtain ⟨fdIsFun, FIsFun⟩ := c.def_ 20 (a := ("is_function", none)) (x := "is_function") (q := "is_function") (st := sIsFun) (by kernel_rfl)
  have bIsFun := FIsFun.binds (ps := PIsFun) fun _ _ _ _ _ _ us hl => match us, hl with | [_], _ => rfl
  have kIsFun := FIsFun.kp
  have gIsTree := He.glo_ok X G (x := "is_tree") (c.fact 21 (by kernel_rfl))
  obtain ⟨fdIsTree, FIsTree⟩ := c.def_ 21 (a := ("is_tree", none)) (x := "is_tree") (q := "is_tree") (st := sIsTree) (by kernel_rfl)
  have bIsTree := FIsTree.binds (ps := PIsTree) fun _ _ _ _ _ _ us hl => match us, hl with | [_], _ => rfl
  have kIsTree := FIsTree.kp
  have gAsg := He.glo_ok X G (x := "assigned_names") (c.fact 22 (by kernel_rfl))
  obtain ⟨fdAsg, FAsg⟩ := c.def_ 22 (a := ("assigned_names", none)) (x := "assigned_names") (q := "assigned_names") (st := sAsg) (by kernel_rfl)
  have bAsg := FAsg.binds (ps := PAsg) fun _ _ _ _ _ _ us hl => match us, hl with | [_], _ => rfl
  have kAsg := FAsg.kp
  have gOwn := He.glo_ok X G (x := "own_names") (c.fact 23 (by kernel_rfl))
  obtain ⟨fdOwn, FOwn⟩ := c.def_ 23 (a := ("own_names", none)) (x := "own_names") (q := "own_names") (st := sOwn) (by kernel_rfl)
  have bOwn := FOwn.binds (ps := POwn) fun _ _ _ _ _ _ us hl => match us, hl with | [_, _], _ => rfl
  have kOwn := FOwn.kp
  have gUnl := He.glo_ok X G (x := "check_unlike") (c.fact 24 (by kernel_rfl))
  obtain ⟨fdUnl, FUnl⟩ := c.def_ 24 (a := ("check_unlike", none)) (x := "check_unlike") (q := "check_unlike") (st := sUnl) (by kernel_rfl)
  have bUnl := FUnl.binds (ps := PUnl) fun _ _ _ _ _ _ us hl => match us, hl with | [_], _ => rfl
  have kUnl := FUnl.kp
  have gNoA := He.glo_ok X G (x := "names_of_args") (c.fact 25 (by kernel_rfl))
  obtain ⟨fdNoA, FNoA⟩ := c.def_ 25 (a := ("names_of_args", none)) (x := "names_of_args") (q := "names_of_args") (st := sNoA) (by kernel_rfl)
  have bNoA := FNoA.binds (ps := PNoA) fun _ _ _ _ _ _ us hl => match us, hl with | [_], _ => rfl
  have kNoA := FNoA.kp
  have gExs := He.glo_ok X G (x := "expressions_of") (c.fact 26 (by kernel_rfl))
  obtain ⟨fdExs, FExs⟩ := c.def_ 26 (a := ("expressions_of", none)) (x := "expressions_of") (q := "expressions_of") (st := sExs) (by kernel_rfl)
  have bExs := FExs.binds (ps := PExs) fun _ _ _ _ _ _ us hl => match us, hl with | [_], _ => rfl
  have kExs := FExs.kp
  have gFits := He.glo_ok X G (x := "fits") (c.fact 27 (by kernel_rfl))
  obtain ⟨fdFits, FFits⟩ := c.def_ 27 (a := ("fits", none)) (x := "fits") (q := "fits") (st := sFits) (by kernel_rfl)
  have bFits := FFits.binds (ps := PFits) fun _ _ _ _ _ _ us hl => match us, hl with | [_, _, _], _ => rfl
  have kFits := FFits.kp
  have gNmI := He.glo_ok X G (x := "named_in") (c.fact 28 (by kernel_rfl))
  obtain ⟨fdNmI, FNmI⟩ := c.def_ 28 (a := ("named_in", none)) (x := "named_in") (q := "named_in") (st := sNmI) (by kernel_rfl)
  have bNmI := FNmI.binds (ps := PNmI) fun _ _ _ _ _ _ us hl => match us, hl with | [_], _ => rfl
  have kNmI := FNmI.kp
  have gGrt := He.glo_ok X G (x := "has_great_number") (c.fact 29 (by kernel_rfl))
  obtain ⟨fdGrt, FGrt⟩ := c.def_ 29 (a := ("has_great_number", none)) (x := "has_great_number") (q := "has_great_number") (st := sGrt) (by kernel_rfl)
  have bGrt := FGrt.binds (ps := PGrt) fun _ _ _ _ _ _ us hl => match us, hl with | [_], _ => rfl
  have kGrt := FGrt.kp
  have gDep := He.glo_ok X G (x := "depth_of") (c.fact 30 (by kernel_rfl))
  obtain ⟨fdDep, FDep⟩ := c.def_ 30 (a := ("depth_of", none)) (x := "depth_of") (q := "depth_of") (st := sDep) (by kernel_rfl)
  have bDep := FDep.binds (ps := PDep) fun _ _ _ _ _ _ us hl => match us, hl with | [_], _ => rfl
  have kDep := FDep.kp
  have gChS := He.glo_ok X G (x := "check_sizes") (c.fact 31 (by kernel_rfl))
  obtain ⟨fdChS, FChS⟩ := c.def_ 31 (a := ("check_sizes", none)) (x := "check_sizes") (q := "check_sizes") (st := sChS) (by kernel_rfl)
  have bChS := FChS.binds (ps := PChS) fun _ _ _ _ _ _ us hl => match us, hl with | [_], _ => rfl
  have kChS := FChS.kp
  have gChT := He.glo_ok X G (x := "check_statement") (c.fact 32 (by kernel_rfl))
  obtain ⟨fdChT, FChT⟩ := c.def_ 32 (a := ("check_statement", none)) (x := "check_statement") (q := "check_statement") (st := sChT) (by kernel_rfl)
  have bChT := FChT.binds (ps := PChT) fun _ _ _ _ _ _ us hl => match us, hl with | [_, _, _, _], _ => rfl
  have kChT := FChT.kp
  have gChN := He.glo_ok X G (x := "check_names") (c.fact 33 (by kernel_rfl))
  obtain ⟨fdChN, FChN⟩ := c.def_ 33 (a := ("check_names", none)) (x := "check_names") (q := "check_names") (st := sChN) (by kernel_rfl)
  have bChN := FChN.binds (ps := PChN) fun _ _ _ _ _ _ us hl => match us, hl with | [_], _ => rfl
  have kChN := FChN.kp
  have gLEx := He.glo_ok X G (x := "_law_expression") (c.fact 34 (by kernel_rfl))
  obtain ⟨fdLEx, FLEx⟩ := c.def_ 34 (a := ("_law_expression", none)) (x := "_law_expression") (q := "_law_expression") (st := sLEx) (by kernel_rfl)
  have bLEx := FLEx.binds (ps := PLEx) fun _ _ _ _ _ _ us hl => match us, hl with | [_, _, _], _ => rfl
  have kLEx := FLEx.kp
  have gLAr := He.glo_ok X G (x := "_law_args") (c.fact 35 (by kernel_rfl))
  obtain ⟨fdLAr, FLAr⟩ := c.def_ 35 (a := ("_law_args", none)) (x := "_law_args") (q := "_law_args") (st := sLAr) (by kernel_rfl)
  have bLAr := FLAr.binds (ps := PLAr) fun _ _ _ _ _ _ us hl => match us, hl with | [_, _, _], _ => rfl
  have kLAr := FLAr.kp
  have gLCa := He.glo_ok X G (x := "_law_call") (c.fact 36 (by kernel_rfl))
  obtain ⟨fdLCa, FLCa⟩ := c.def_ 36 (a := ("_law_call", none)) (x := "_law_call") (q := "_law_call") (st := sLCa) (by kernel_rfl)
  have bLCa := FLCa.binds (ps := PLCa) fun _ _ _ _ _ _ us hl => match us, hl with | [_, _], _ => rfl
  have kLCa := FLCa.kp
  have gLPi := He.glo_ok X G (x := "_law_piece") (c.fact 37 (by kernel_rfl))
  obtain ⟨fdLPi, FLPi⟩ := c.def_ 37 (a := ("_law_piece", none)) (x := "_law_piece") (q := "_law_piece") (st := sLPi) (by kernel_rfl)
  have bLPi := FLPi.binds (ps := PLPi) fun _ _ _ _ _ _ us hl => match us, hl with | [_, _, _, _], _ => rfl
  have kLPi := FLPi.kp
  have gLBk := He.glo_ok X G (x := "_law_block") (c.fact 38 (by kernel_rfl))
  obtain ⟨fdLBk, FLBk⟩ := c.def_ 38 (a := ("_law_block", none)) (x := "_law_block") (q := "_law_block") (st := sLBk) (by kernel_rfl)
  have bLBk := FLBk.binds (ps := PLBk) fun _ _ _ _ _ _ us hl => match us, hl with | [_, _, _, _], _ => rfl
  have kLBk := FLBk.kp
  have gNames := He.glo_ok X G (x := "_law_names") (c.fact 39 (by kernel_rfl))
  obtain ⟨fdNames, FNames⟩ := c.def_ 39 (a := ("_law_names", none)) (x := "_law_names") (q := "_law_names") (st := sNames) (by kernel_rfl)
  have bNames := FNames.binds (ps := PNames) fun _ _ _ _ _ _ us hl => match us, hl with | [_], _ => rfl
  have kNames := FNames.kp
  have gLTr := He.glo_ok X G (x := "_law_tree") (c.fact 40 (by kernel_rfl))
  obtain ⟨fdLTr, FLTr⟩ := c.def_ 40 (a := ("_law_tree", none)) (x := "_law_tree") (q := "_law_tree") (st := sLTr) (by kernel_rfl)
  have bLTr := FLTr.binds (ps := PLTr) fun _ _ _ _ _ _ us hl => match us, hl with | [_], _ => rfl
  have kLTr := FLTr.kp
  have gSame := He.glo_ok X G (x := "_law_same") (c.fact 41 (by kernel_rfl))
  obtain ⟨fdSame, FSame⟩ := c.def_ 41 (a := ("_law_same", none)) (x := "_law_same") (q := "_law_same") (st := sSame) (by kernel_rfl)
  have bSame := FSame.binds (ps := PSame) fun _ _ _ _ _ _ us hl => match us, hl with | [_, _], _ => rfl
  have kSame := FSame.kp
  have gLCs := He.glo_ok X G (x := "_law_cases") (c.fact 42 (by kernel_rfl))
  obtain ⟨fdLCs, FLCs⟩ := c.def_ 42 (a := ("_law_cases", none)) (x := "_law_cases") (q := "_law_cases") (st := sLCs) (by kernel_rfl)
  have bLCs := FLCs.binds (ps := PLCs) fun _ _ _ _ _ _ us hl => match us, hl with | [_, _], _ => rfl
  have kLCs := FLCs.kp
  have gLBt := He.glo_ok X G (x := "_law_bent") (c.fact 43 (by kernel_rfl))
  obtain ⟨fdLBt, FLBt⟩ := c.def_ 43 (a := ("_law_bent", none)) (x := "_law_bent") (q := "_law_bent") (st := sLBt) (by kernel_rfl)
  have bLBt := FLBt.binds (ps := PLBt) fun _ _ _ _ _ _ us hl => match us, hl with | [_, _, _, _], _ => rfl
  have kLBt := FLBt.kp
  have gLaw := He.glo_ok X G (x := "law") (c.fact 44 (by kernel_rfl))
  obtain ⟨fdLaw, FLaw⟩ := c.def_ 44 (a := ("law", none)) (x := "law") (q := "law") (st := sLaw) (by kernel_rfl)
  have bLaw := FLaw.binds (ps := PLaw) fun _ _ _ _ _ _ us hl => match us, hl with | [_], _ => rfl
  have kLaw := FLaw.kp
  have gProgram := He.glo_ok X G (x := "Program") (c.fact 45 (by kernel_rfl))
  have clProgram := He.cls_ok (x := "Program") (c.fact 46 (by kernel_rfl))
  have mkProgram := He.mkr_ok (x := "Program") (c.fact 47 (by kernel_rfl))
  have noProgram_content := He.noat_ok (x := "Program") (f := "content") (c.fact 48 (by kernel_rfl))
  have noProgram_globals := He.noat_ok (x := "Program") (f := "globals") (c.fact 49 (by kernel_rfl))
  have mePIni := He.meth_ok (x := "Program") (m := "__init__") (c.fact 50 (by kernel_rfl))
  obtain ⟨fdPIni, FPIni⟩ := c.def_ 45 (a := ("Program", some "__init__")) (x := "__init__") (q := "Program.__init__") (st := sPIni) (by kernel_rfl)
  have bPIni := FPIni.binds (ps := PPIni) fun _ _ _ _ _ _ us hl => match us, hl with | [_, _], _ => rfl
  have kPIni := FPIni.kp
  have mePGet := He.meth_ok (x := "Program") (m := "__getitem__") (c.fact 51 (by kernel_rfl))
  obtain ⟨fdPGet, FPGet⟩ := c.def_ 46 (a := ("Program", some "__getitem__")) (x := "__getitem__") (q := "Program.__getitem__") (st := sPGet) (by kernel_rfl)
  have bPGet := FPGet.binds (ps := PPGet) fun _ _ _ _ _ _ us hl => match us, hl with | [_, _], _ => rfl
  have kPGet := FPGet.kp
  have mePPla := He.meth_ok (x := "Program") (m := "places") (c.fact 52 (by kernel_rfl))
  obtain ⟨fdPPla, FPPla⟩ := c.def_ 47 (a := ("Program", some "places")) (x := "places") (q := "Program.places") (st := sPPla) (by kernel_rfl)
  have bPPla := FPPla.binds (ps := PPPla) fun _ _ _ _ _ _ us hl => match us, hl with | [_, _], _ => rfl
  have kPPla := FPPla.kp
  have mePCas := He.meth_ok (x := "Program") (m := "cases") (c.fact 53 (by kernel_rfl))
  obtain ⟨fdPCas, FPCas⟩ := c.def_ 48 (a := ("Program", some "cases")) (x := "cases") (q := "Program.cases") (st := sPCas) (by kernel_rfl)
  have bPCas := FPCas.binds (ps := PPCas) fun _ _ _ _ _ _ us hl => match us, hl with | [_, _], _ => rfl
  have kPCas := FPCas.kp
  have mePCel := He.meth_ok (x := "Program") (m := "cells") (c.fact 54 (by kernel_rfl))
  obtain ⟨fdPCel, FPCel⟩ := c.def_ 49 (a := ("Program", some "cells")) (x := "cells") (q := "Program.cells") (st := sPCel) (by kernel_rfl)
  have bPCel := FPCel.binds (ps := PPCel) fun _ _ _ _ _ _ us hl => match us, hl with | [_, _, _], _ => rfl
  have kPCel := FPCel.kp
  have gProgramError := He.glo_ok X G (x := "ProgramError") (c.fact 55 (by kernel_rfl))
  have x_8 : XcK K (He.ga K "InvalidCase") (.ref (He.ga K "ProgramError") :: XC.tlV) "ValueError.__new__" "value" := xcB_ok (c.x 0 (f := fun K => xcB K "InvalidCase" (.ref (He.ga K "ProgramError") :: XC.tlV) "ValueError.__new__" "value") (by kernel_rfl))
  have gInvalidCase := He.glo_ok X G (x := "InvalidCase") (c.fact 56 (by kernel_rfl))
  have meXI8 := He.meth_ok (x := "InvalidCase") (m := "__init__") (c.fact 57 (by kernel_rfl))
  obtain ⟨fdXI8, FXI8⟩ := c.def_ 50 (a := ("InvalidCase", some "__init__")) (x := "__init__") (q := "InvalidCase.__init__") (st := sXI8) (by kernel_rfl)
  have bXI8 := FXI8.binds (ps := PXI8) fun _ _ _ _ _ _ us hl => match us, hl with | [_, _], _ => rfl
  have kXI8 := FXI8.kp
  have x_9 : XcK K (He.ga K "UnknownFunction") (XC.tlK) "LookupError.__new__" "name" := xcB_ok (c.x 1 (f := fun K => xcB K "UnknownFunction" (XC.tlK) "LookupError.__new__" "name") (by kernel_rfl))
  have gUnknownFunction := He.glo_ok X G (x := "UnknownFunction") (c.fact 58 (by kernel_rfl))
  have meXI9 := He.meth_ok (x := "UnknownFunction") (m := "__init__") (c.fact 59 (by kernel_rfl))
  obtain ⟨fdXI9, FXI9⟩ := c.def_ 51 (a := ("UnknownFunction", some "__init__")) (x := "__init__") (q := "UnknownFunction.__init__") (st := sXI9) (by kernel_rfl)
  have bXI9 := FXI9.binds (ps := PXI9) fun _ _ _ _ _ _ us hl => match us, hl with | [_, _], _ => rfl
  have kXI9 := FXI9.kp
  have m_int := He.free_ok X G (x := "int") (c.fact 60 (by kernel_rfl))
  have m_len := He.free_ok X G (x := "len") (c.fact 61 (by kernel_rfl))
  have m_isinstance := He.free_ok X G (x := "isinstance") (c.fact 62 (by kernel_rfl))
  have m_str := He.free_ok X G (x := "str") (c.fact 63 (by kernel_rfl))
  have m_sum := He.free_ok X G (x := "sum") (c.fact 64 (by kernel_rfl))
  have m_tuple := He.free_ok X G (x := "tuple") (c.fact 65 (by kernel_rfl))
  have m_bool := He.free_ok X G (x := "bool") (c.fact 66 (by kernel_rfl))
  have m_all := He.free_ok X G (x := "all") (c.fact 67 (by kernel_rfl))
  have m_zip := He.free_ok X G (x := "zip") (c.fact 68 (by kernel_rfl))
  have m_enumerate := He.free_ok X G (x := "enumerate") (c.fact 69 (by kernel_rfl))
  have m_max := He.free_ok X G (x := "max") (c.fact 70 (by kernel_rfl))
  have m_any := He.free_ok X G (x := "any") (c.fact 71 (by kernel_rfl))
  have m_list := He.free_ok X G (x := "list") (c.fact 72 (by kernel_rfl))
  have m_abs := He.free_ok X G (x := "abs") (c.fact 73 (by kernel_rfl))
  have m_range := He.free_ok X G (x := "range") (c.fact 74 (by kernel_rfl))
  have m_sorted := He.free_ok X G (x := "sorted") (c.fact 75 (by kernel_rfl))
  have m_ValueError := He.free_ok X G (x := "ValueError") (c.fact 76 (by kernel_rfl))
  obtain ⟨t_LETTERS, m_LETTERS⟩ := He.str_ok X G (x := "LETTERS") (z := LET) (c.fact 77 (by kernel_rfl))
  obtain ⟨t_DIGITS, m_DIGITS⟩ := He.str_ok X G (x := "DIGITS") (z := DIG) (c.fact 78 (by kernel_rfl))
  obtain ⟨t_DEEPEST, m_DEEPEST⟩ := He.int_ok X G (x := "DEEPEST") (i := 30) (c.fact 79 (by kernel_rfl))
  obtain ⟨t_LIMIT, m_LIMIT⟩ := He.int_ok X G (x := "LIMIT") (i := 1000000000000) (c.fact 80 (by kernel_rfl))
  have m_KEYWORDS := He.glo_ok X G (x := "KEYWORDS") (c.fact 81 (by kernel_rfl))
  have l_KEYWORDS := fun H => He.tupB_ok (K := K) (x := "KEYWORDS") (vs := [.str "globals", .str "kinds", .str "keep", .str "def", .str "if", .str "else", .str "while", .str "risk", .str "raise", .str "try", .str "except", .str "finally", .str "undo", .str "with", .str "swallow", .str "return"]) (c.x 2 (f := fun K => He.tupB K "KEYWORDS" [.str "globals", .str "kinds", .str "keep", .str "def", .str "if", .str "else", .str "while", .str "risk", .str "raise", .str "try", .str "except", .str "finally", .str "undo", .str "with", .str "swallow", .str "return"]) (by kernel_rfl)) H
  have c_ii := c.x 3 (f := fun K => decide (PySem.W.exmOne K (.ref (He.ga K "InvalidCase")) (.ref (He.ga K "InvalidCase")) = some true)) (by kernel_rfl)
  have c_iu := c.x 4 (f := fun K => decide (PySem.W.exmOne K (.ref (He.ga K "InvalidCase")) (.ref (He.ga K "UnknownFunction")) = some false)) (by kernel_rfl)
  have c_kP := c.x 5 (f := fun K => decide (PySem.W.kitOne K (.ref (He.ga K "InvalidCase")) (.ref (He.ga K "ProgramError")) = some true)) (by kernel_rfl)
  have c_kV := c.x 6 (f := fun K => decide (PySem.W.kitOne K (.ref (He.ga K "InvalidCase")) (.type "ValueError") = some true)) (by kernel_rfl)
  have c_sp := c.x 7 (f := fun K => decide (PySem.W.specialIn K (.builtin "object.__class__") "__get__" = some (some (.builtin "getset_descriptor.__get__")))) (by kernel_rfl)
  have c_tk := c.x 8 (f := fun K => decide (PySem.W.takesIn K (.builtin "object.__class__") = some true)) (by kernel_rfl)
  have hE := hfa.symm.trans gLaw
  cases hE
  have T0 : TxPool mg := ⟨m_int, m_len⟩
  have TN : TxName K mg (He.ga K "KEYWORDS") := { n_isinstance := m_isinstance, n_str := m_str, c_LETTERS := ⟨_, m_LETTERS, _, rfl⟩, c_DIGITS := ⟨_, m_DIGITS, _, rfl⟩, c_KEYWORDS := ⟨_, m_KEYWORDS, rfl⟩, kws := l_KEYWORDS }
  have TI : TxInt mg := ⟨m_int, m_bool, m_isinstance⟩
  have TT : TxTree mg := ⟨m_sum, m_isinstance, m_len⟩
  have TS : TxShape mg := ⟨m_isinstance, m_tuple, m_str, m_bool, m_len, m_all, m_zip⟩
  have TK : TxChk mg := ⟨m_enumerate, m_sum, m_max, m_len, m_any, m_list, m_abs⟩
  have TG : TxGen mg := ⟨m_sorted, m_tuple, m_range, m_len⟩
  have TM : TxSam mg := ⟨m_bool, m_int, m_str, m_tuple, m_list, m_isinstance, m_len, m_all, m_range⟩
  have TCa : TxCas mg := ⟨m_enumerate, m_len⟩
  have TCe : TxCel mg := ⟨m_isinstance, m_tuple, m_str, m_all, m_zip⟩
  have TLC : TxLCs mg := ⟨m_range, m_len, m_list⟩
  have TLB : TxLBt mg := ⟨m_len, m_list⟩
  have TL : TxLw mg := ⟨m_tuple, m_isinstance, m_range, m_len, m_ValueError⟩
  have TC : TxPrg K (He.ga K "Program") := ⟨clProgram, noProgram_content, noProgram_globals⟩
  have eV : PySem.W.excTail XC.tlV (.ref (He.ga K "ProgramError") :: XC.tlV) = true := by
    show PySem.W.excTail XC.tlV XC.tlV = true
    decide +kernel
  have M : ErrI K (He.ga K "InvalidCase") (He.ga K "UnknownFunction") (He.ga K "ProgramError") := ⟨of_decide_eq_true c_ii, of_decide_eq_true c_iu, x_8.xf eV (by decide +kernel), x_8.no, x_8.ex eV (by decide +kernel) (by decide +kernel) (of_decide_eq_true c_sp) (of_decide_eq_true c_tk), of_decide_eq_true c_kP, of_decide_eq_true c_kV⟩
  refine ⟨fdLaw, ?_, fun base kB gB => ?_⟩
  · obtain ⟨_, _, _, _, _, _, _, _, _, rfl, _, _⟩ := FLaw.ex
    exact fun s v => .of_eq rfl
  have X : ErrH l.prog w K mg base (fun i => ([0, 0, 0, 0, 0, 0, 0, 0, (He.ga K "InvalidCase"), (He.ga K "UnknownFunction")] : List Addr).getD i 0) :=
    ⟨⟨_, _, _, oexV x_8, meXI8.at_, eq_of_beq meXI8.fn, ok_XI8 FXI8 (oexV x_8) x_8.no, gInvalidCase, bXI8⟩, ⟨_, _, _, oexK x_9, meXI9.at_, eq_of_beq meXI9.fn, ok_XI9 FXI9 (oexK x_9) x_9.no, gUnknownFunction, bXI9⟩⟩
  have GM : Has l.prog w K mg base CX0 1 "_law_mixed" PMixed spMixed := ⟨_, _, ok_Mixed FMixed T0, gMixed, kMixed, bMixed⟩
  have GD : Has l.prog w K mg base CX0 2 "_law_draw" PDraw spDraw := ⟨_, _, ok_Draw FDraw T0 GM, gDraw, kDraw, bDraw⟩
  have GP : Has l.prog w K mg base CX0 1 "_law_pool" PPool (spPool K) := ⟨_, _, ok_Pool FPool T0, gPool, kPool, bPool⟩
  have GN : Has l.prog w K mg base CX0 1 "is_name" PIsName (spName K) := ⟨_, _, ok_IsName FIsName TN, gIsName, kIsName, bIsName⟩
  have GPa : Has l.prog w K mg base CX0 1 "parts_of" PParts (spParts K) := ⟨_, _, ok_Parts FParts, gParts, kParts, bParts⟩
  have GSz : ∀ n, Has l.prog w K mg base CX0 (2 + n) "size_of" PSize (spSize K n) := fun n => ⟨_, _, ok_Size FSize TT GPa gSize kSize bSize n, gSize, kSize, bSize⟩
  have GNP : ∀ n, Has l.prog w K mg base CX0 (3 + n) "numbered_parts" PNPar (spNPar K n) := fun n => ⟨_, _, ok_NPar FNPar GPa (GSz n), gNPar, kNPar, bNPar⟩
  have GNu : ∀ n, Has l.prog w K mg base CX0 (3 + n) "numbered" PNumb (spNumb K n) := fun n => ⟨_, _, ok_Numb FNumb TT GPa (GSz n), gNumb, kNumb, bNumb⟩
  have GAl : Has l.prog w K mg base CX0 (4 + 6) "all_numbered" PAllN (spAllN K 6) := ⟨_, _, ok_AllN FAllN GNu GNP gAllN kAllN bAllN 6, gAllN, kAllN, bAllN⟩
  have GPr : Has l.prog w K mg base CX0 1 "is_pair" PIsPair (spIsPair K) := ⟨_, _, ok_IsPair FIsPair TS, gIsPair, kIsPair, bIsPair⟩
  have GRo : Has l.prog w K mg base CX0 2 "is_row_of_names" PRowN (spRowN K) := ⟨_, _, ok_RowN FRowN TS GN, gRowN, kRowN, bRowN⟩
  have GI : Has l.prog w K mg base CX0 1 "is_integer" PIsInt (spIsInt K) := ⟨_, _, ok_IsInt FIsInt TI, gIsInt, kIsInt, bIsInt⟩
  have GE : Has l.prog w K mg base CX0 2 "is_expression" PIsExp (spIsExp K) := ⟨_, _, ok_IsExp FIsExp TS GN GI GPr, gIsExp, kIsExp, bIsExp⟩
  have GAr : Has l.prog w K mg base CX0 3 "is_arg" PIsArg (spIsArg K) := ⟨_, _, ok_IsArg FIsArg TS GN GE GPr, gIsArg, kIsArg, bIsArg⟩
  have GCa : Has l.prog w K mg base CX0 4 "is_call" PIsCal (spIsCal K) := ⟨_, _, ok_IsCal FIsCal TS GN GAr GPr, gIsCal, kIsCal, bIsCal⟩
  have GSi : Has l.prog w K mg base CX0 5 "is_simple" PIsSim (spIsSim K) := ⟨_, _, ok_IsSim FIsSim GN GE GRo GCa, gIsSim, kIsSim, bIsSim⟩
  have GB : Has l.prog w K mg base CX0 (5 + 3 * 6) "is_block" PIsBlk (spIsBlk K 6) := ⟨_, _, ok_blocks FIsBlk FIsHnd FIsSta TS gIsBlk kIsBlk bIsBlk gIsHnd kIsHnd bIsHnd gIsSta kIsSta bIsSta GPr GSi GCa GRo 6, gIsBlk, kIsBlk, bIsBlk⟩
  have GPm : Has l.prog w K mg base CX0 2 "is_param" PIsPar (spIsPar K) := ⟨_, _, ok_IsPar FIsPar TS GN GPr, gIsPar, kIsPar, bIsPar⟩
  have GF : Has l.prog w K mg base CX0 (5 + 3 * 6 + 1) "is_function" PIsFun (spIsFun K 6) := ⟨_, _, ok_IsFun (n := 6) FIsFun TS ⟨_, m_DEEPEST, _, rfl⟩ GN GPm GB, gIsFun, kIsFun, bIsFun⟩
  have GTr : Has l.prog w K mg base CX0 (6 + 3 * 6 + 1) "is_tree" PIsTree (spIsTree K 6) := ⟨_, _, ok_IsTree (n := 6) FIsTree TS GRo GE GF, gIsTree, kIsTree, bIsTree⟩
  have GAs : Has l.prog w K mg base CX0 (4 + 6 + 1) "assigned_names" PAsg (spAsg K 6) := ⟨_, _, ok_Asg (n := 6) FAsg GAl, gAsg, kAsg, bAsg⟩
  have GOw : Has l.prog w K mg base CX0 (4 + 6 + 1 + 1) "own_names" POwn (spOwn K 6) := ⟨_, _, ok_Own (n := 6) FOwn TS GAs, gOwn, kOwn, bOwn⟩
  have GUn : Has l.prog w K mg base CX0 1 "check_unlike" PUnl (spUnl K) := ⟨_, _, ok_Unl FUnl TK, gUnl, kUnl, bUnl⟩
  have GNo : Has l.prog w K mg base CX0 1 "names_of_args" PNoA (spNoA K) := ⟨_, _, ok_NoA FNoA, gNoA, kNoA, bNoA⟩
  have GEx : Has l.prog w K mg base CX0 1 "expressions_of" PExs (spExs K) := ⟨_, _, ok_Exs FExs, gExs, kExs, bExs⟩
  have GFi : Has l.prog w K mg base CX0 1 "fits" PFits (spFits K) := ⟨_, _, ok_Fits FFits, gFits, kFits, bFits⟩
  have GNm : Has l.prog w K mg base CX0 3 "named_in" PNmI (spNmI K 2) := ⟨_, _, ok_NmI FNmI GNo gNmI kNmI bNmI 2, gNmI, kNmI, bNmI⟩
  have GGr : Has l.prog w K mg base CX0 (4 + 6 + 1) "has_great_number" PGrt (spGrt K 6) := ⟨_, _, ok_Grt (n := 6) FGrt TK ⟨_, m_LIMIT, _, rfl⟩ GAl GEx, gGrt, kGrt, bGrt⟩
  have GDe : Has l.prog w K mg base CX0 (2 + 6) "depth_of" PDep (spDep K 6) := ⟨_, _, ok_Dep FDep TK GPa gDep kDep bDep 6, gDep, kDep, bDep⟩
  have GCS : Has l.prog w K mg base CX0 (4 + 6 + 1 + 1 + 1) "check_sizes" PChS (spChS K 6) := ⟨_, _, ok_ChS (n := 6) FChS TK m_int GOw (GSz 6) GDe GGr, gChS, kChS, bChS⟩
  have GCT : Has l.prog w K mg base CX0 (4 + 6 + 1) "check_statement" PChT (spChT K 6) := ⟨_, _, ok_ChT (n := 6) FChT GNm GFi GAl, gChT, kChT, bChT⟩
  have GCN : Has l.prog w K mg base CX0 (4 + 6 + 1 + 1 + 1) "check_names" PChN (spChN K 6) := ⟨_, _, ok_ChN (n := 6) FChN TK GOw GUn GAl GCT, gChN, kChN, bChN⟩
  have HC : HasC l.prog w K mg base CX0 (6 + 3 * 6 + 1 + 1) "Program" (He.ga K "Program") PPIni (spPIni K (He.ga K "Program") 6) := ⟨_, _, mkProgram, ok_PIni (n := 6) FPIni TC GTr GCS GCN, gProgram, bPIni⟩
  have GLE : Has l.prog w K mg base CX0 3 "_law_expression" PLEx (spLEx K) := ⟨_, _, ok_LEx FLEx TG GD, gLEx, kLEx, bLEx⟩
  have GLA : Has l.prog w K mg base CX0 4 "_law_args" PLAr (spLAr K) := ⟨_, _, ok_LAr FLAr TG GD GLE, gLAr, kLAr, bLAr⟩
  have GLC : Has l.prog w K mg base CX0 5 "_law_call" PLCa (spLCa K) := ⟨_, _, ok_LCa FLCa TG GD GLA, gLCa, kLCa, bLCa⟩
  have GLB : Has l.prog w K mg base CX0 15 "_law_block" PLBk (spLBk K 5) := ⟨_, _, ok_pb FLPi FLBk TG gLPi kLPi bLPi gLBk kLBk bLBk GD GLE GLC 5, gLBk, kLBk, bLBk⟩
  have GLN : Has l.prog w K mg base CX0 3 "_law_names" PNames spNames := ⟨_, _, ok_Names FNames ⟨m_str, m_range⟩ GD, gNames, kNames, bNames⟩
  have GLT : Has l.prog w K mg base CX0 16 "_law_tree" PLTr (spLTr K) := ⟨_, _, ok_LTr FLTr TG GD GLN GLE GLB, gLTr, kLTr, bLTr⟩
  have SG : HasS l.prog w K mg base CX0 1 (He.ga K "Program") PPGet (spGetV K (He.ga K "Program")) := ⟨_, _, mePGet, fnIn_of FPGet, ok_PGet FPGet TC, bPGet⟩
  have MPl : HasM l.prog w K mg base CX0 3 (He.ga K "Program") "places" PPPla (spPla K (He.ga K "Program")) := ⟨_, _, mePPla, ok_PPla FPPla SG, bPPla⟩
  have MCa : HasM l.prog w K mg base CX0 4 (He.ga K "Program") "cases" PPCas (spCas K (He.ga K "Program")) := ⟨_, _, mePCas, ok_PCas FPCas TCa TC MPl, bPCas⟩
  have MCe : HasM l.prog w K mg base (L2N.CX l.prog w) 5 (He.ga K "Program") "cells" PPCel (spCel K (He.ga K "Program") (He.ga K "InvalidCase")) := ⟨_, _, mePCel, ok_PCel FPCel TCe TC X MPl MCa, bPCel⟩
  have GLCs : Has l.prog w K mg base CX0 1 "_law_cases" PLCs (spLCs K) := ⟨_, _, ok_LCs FLCs TLC, gLCs, kLCs, bLCs⟩
  have GLBt : Has l.prog w K mg base CX0 3 "_law_bent" PLBt (spLBt K) := ⟨_, _, ok_LBt FLBt TLB GD, gLBt, kLBt, bLBt⟩
  have GSm : Has l.prog w K mg base CX0 40 "_law_same" PSame (spSam K 40) := ⟨_, _, ok_Sam FSame TM gSame kSame bSame 40, gSame, kSame, bSame⟩
  have GSH : HasP l.prog w K mg base 40 "_law_same" PSame (fun _ => spSam K 40) := ⟨_, _, ok_SamH FSame TM gSame kSame bSame 40, gSame, kSame, bSame⟩
  exact ok_Law FLaw TL TC gProgramError X M GP GD GLT HC MCa MCe GLCs GLBt GSm GSH
end Aon
open PySem PySem.W PySem.Calls PyProof.Rows
set_option maxRecDepth 100000 in
set_option maxHeartbeats 0 in
theorem PySem.Challenge.cw_allornothing_k07_cases_and_cells_holds : PySem.Challenge.rw_allornothing_k07_cases_and_cells.Holds := by
  w_on; o_law
  refine HandSHeadRun.head_any (r := PySem.W.OpenLaw.row PySem.Challenge.rw_allornothing_k07_cases_and_cells) (q := Aon.khQ) (H := Aon.khH) (ob := Aon.khO) (M := 60000) (loose := Aon.khN) (d := HandSHeadRun.topDef (PySem.W.OpenLaw.row PySem.Challenge.rw_allornothing_k07_cases_and_cells).prog 79) (kwd := []) Aon.khO_eq
    (by kernel_rfl) (fun s => by kernel_rfl) Aon.khRun (by kernel_rfl) (by kernel_rfl) (by kernel_rfl) (by rfl) (by first | assumption | decide +kernel) (by decide +kernel) ⟨rfl, rfl, rfl, rfl, rfl, by decide +kernel⟩ ?hw ?hc
  case hw => w_witness2
  case hc =>
    refine L2.walk_ofE (l := PySem.Challenge.rw_allornothing_k07_cases_and_cells) (n := 63) (k := 41) (x := "_law_script") (CX := L2.CX0) rfl (by decide) (by kernel_rfl) ⟨rfl, by decide, by decide⟩ ?F (fun _ _ _ _ z => z)
    intro w mg fa h Y G hmg0
    obtain ⟨K, KX, c⟩ := Y
    have hmg : mg ("law" : PySem.Str) = some (.ref fa) := by
      have e : (HandSHeadRun.topDef (PySem.W.OpenLaw.row PySem.Challenge.rw_allornothing_k07_cases_and_cells).prog 79).name = ("law" : PySem.Str) := by kernel_rfl
      rw [← e]
      exact hmg0
    obtain ⟨fd, hb, hF⟩ := Aon.khFacts (l := PySem.Challenge.rw_allornothing_k07_cases_and_cells) (w := w) KX G hmg c
    exact ⟨K, fd, Aon.spLaw K, KX, hb, fun _ a ns hl _ hS => ⟨a, ns, rfl, hS, hl, fun _ => rfl⟩, hF⟩
#print axioms PySem.Challenge.cw_allornothing_k07_cases_and_cells_holds

