import PyProof.Rows.All
import Wide.All
import OpenK.AllK
import Wide.FinOn
import HandS.ForMost
import HandS.Wide
import HandS.IsInst
import HandS.Walk
import HandS.Flow
import HandS.Property
import HandS.Star
import HandS.DictComp
import HandS.Conv
import HandS.Zip
import HandS.SortKw
import HandS.MapSum
import HandS.Text
import HandS.TryOnly
import HandS.FStr
import HandS.TupAny
import HandS.Codes
import HandS.Replace
import HandS.ReplaceList
import HandS.ReplaceLit
import PyProof.StrBlock
import PyProof.RulesMatchSeq
import PyProof.Rows.MatchSeqLen
import KE.GoesEnumKw
import KE.KTurns
import KE.GoesMore
import PyProof.GenRules
import HandS.GenList
import HandS.OwnEq
import HandS.TupLe
import HandS.TryMany
import HandS.ExcInit
import HandS.ExcInitHot
import HandS.ExcIs
import HandS.ExcField
import HandS.WordsExc
import HandS.DeepEq
import HandS.Deep
import KE.KExcInit
import KE.KStateDown
import HandS.Defaults
import HandS.Head0
import HandS.Head1
import HandS.Head2
import HandS.HeadEnd
import HandS.HeadHook1
import HandS.HeadHook2
import PySem.Challenge.RW_allornothing_k04_positions_of_syntax_err
set_option Elab.async false
set_option linter.all false
set_option maxRecDepth 100000
set_option maxHeartbeats 4000000
namespace Aon
open PySem L2
def topS (i : Nat) : Stmt := PySem.Challenge.pw_allornothing_k04_positions_of_syntax_err.main.body.getD i (.Pass ⟨0, 0, 0, 0⟩)

/-! ### words of this text, over HandS -/
theorem bb_int : bootBuiltins "int" = some (.type "int") := by decide +kernel
theorem bb_str : bootBuiltins "str" = some (.type "str") := by decide +kernel
theorem bb_bool : bootBuiltins "bool" = some (.type "bool") := by decide +kernel
theorem bb_list : bootBuiltins "list" = some (.type "list") := by decide +kernel
theorem bb_tuple : bootBuiltins "tuple" = some (.type "tuple") := by decide +kernel
theorem bb_len : bootBuiltins "len" = some (.builtin "len") := by decide +kernel
theorem bb_all : bootBuiltins "all" = some (.builtin "all") := by decide +kernel
theorem bb_isinstance : bootBuiltins "isinstance" = some (.builtin "isinstance") := by decide +kernel
/-- a def that stands under its name: its promise, and how it is called -/
structure Has (P : Program) (w : World) (K : PySem.W.Frag) (mg : Str → Option Value) (base : Heap) (CX : CXT) (k : Nat) (x : Str) (ps : List Str) (sp : Sp) : Prop where
  ex : ∃ (f : Addr) (fd : FuncData), FnOk P w K mg base CX k f fd ps sp ∧ mg x = some (.ref f) ∧ PySem.W.keepIn K (.ref f) = true ∧ Binds K fd ps []
section
variable {X : Cx}
theorem pe_callH {CX : CXT} {k : Nat} {x : Str} {ps : List Str} {sp : Sp} {E : XK} {e : Expr} {es : List Expr} {t : TA} {p pos : Pos} (F : Has X.prog X.w X.K X.mg X.base CX k x ps sp) (hr : Room k X.A) (hg : Gl X x) (hx : Passes CX X E) (ha : PA X (e :: es) t)
    (hd : (x == ("__debug__" : Str)) = false := by decide) (he : starEach (e :: es) X.env = (false, eval e X.env) :: starEach es X.env := by rfl) (hpl : (backTo pos (starEach es X.env)).any (·.1) = false := by rfl) :
    PE X (.Call (.Name x p) (e :: es) [] pos) (tCall sp [] E t) := by
  obtain ⟨f, fd, F, m, kp, b⟩ := F.ex
  exact pe_call F hr hg m kp b .nil hx ha hd he hpl
theorem pe_callH0 {CX : CXT} {k : Nat} {x : Str} {ps : List Str} {sp : Sp} {E : XK} {p pos : Pos} (F : Has X.prog X.w X.K X.mg X.base CX k x ps sp) (hr : Room k X.A) (hg : Gl X x) (hx : Passes CX X E) (hd : (x == ("__debug__" : Str)) = false := by decide) :
    PE X (.Call (.Name x p) [] [] pos) (tCall sp [] E tNil) := by
  obtain ⟨f, fd, F, m, kp, b⟩ := F.ex
  exact pe_call0 F hr hg m kp b .nil hx hd
theorem pe_globE {x : Str} {v : V} {pos : Pos} (hg : Gl X x) (hm : ∃ u, X.mg x = some u ∧ RelV v u) (hd : (x == ("__debug__" : Str)) = false := by decide) : PE X (.Name x pos) (tC v) := by
  obtain ⟨u, m, r⟩ := hm
  exact pe_glob hg m r hd
end
/-- a method of the class at C; a class under its name -/
structure HasM (P : Program) (w : World) (K : PySem.W.Frag) (mg : Str → Option Value) (base : Heap) (CX : CXT) (k : Nat) (C : Addr) (m : Str) (ps : List Str) (sp : Sp) : Prop where
  ex : ∃ (f : Addr) (fd : FuncData), Meth K C m f ∧ FnOk P w K mg base CX k f fd ps sp ∧ Binds K fd ps []
structure HasC (P : Program) (w : World) (K : PySem.W.Frag) (mg : Str → Option Value) (base : Heap) (CX : CXT) (k : Nat) (x : Str) (C : Addr) (ps : List Str) (sp : Sp) : Prop where
  ex : ∃ (f : Addr) (fd : FuncData), Mk K C f ∧ FnOk P w K mg base CX k f fd ps sp ∧ mg x = some (.ref C) ∧ Binds K fd ps []
section
variable {X : Cx}
theorem pe_methH {CX : CXT} {k : Nat} {C : Addr} {m : Str} {ps : List Str} {sp : Sp} {E : XK} {o e : Expr} {es : List Expr} {ta : TE} {t : TA} {apos pos : Pos} {pl : Sem Bool} (he : PE X o ta) (c : Cls X.K C) (M : HasM X.prog X.w X.K X.mg X.base CX k C m ps sp) (hr : Room k X.A) (hx : Passes CX X E)
    (ha : PA X (e :: es) t) (hst : starEach (e :: es) X.env = (false, eval e X.env) :: starEach es X.env := by rfl) (hpl : (backTo pos (starEach es X.env)).any (·.1) = false := by rfl)
    (ht : eval (.Call (.Attribute o m apos) (e :: es) [] pos) X.env = (do
      let v ← eval o X.env
      standAt apos.atName
      let (g, r) ← holding [v] (getMethod v m pl)
      callWith pos g r (backTo pos (starEach (e :: es) X.env)) (backToKw pos (keywordEach [] X.env))) := by rfl) : PE X (.Call (.Attribute o m apos) (e :: es) [] pos) (tMeth C m sp [] E ta t) := by
  obtain ⟨f, fd, hm, F, b⟩ := M.ex
  exact pe_meth (pl := pl) he c hm F hr b .nil hx ha hst hpl ht
theorem pe_methH0 {CX : CXT} {k : Nat} {C : Addr} {m : Str} {ps : List Str} {sp : Sp} {E : XK} {o : Expr} {ta : TE} {apos pos : Pos} {pl : Sem Bool} (he : PE X o ta) (c : Cls X.K C) (M : HasM X.prog X.w X.K X.mg X.base CX k C m ps sp) (hr : Room k X.A) (hx : Passes CX X E)
    (ht : eval (.Call (.Attribute o m apos) [] [] pos) X.env = (do
      let v ← eval o X.env
      standAt apos.atName
      let (g, r) ← holding [v] (getMethod v m pl)
      callWith pos g r (backTo pos (starEach [] X.env)) (backToKw pos (keywordEach [] X.env))) := by rfl) : PE X (.Call (.Attribute o m apos) [] [] pos) (tMeth C m sp [] E ta tNil) := by
  obtain ⟨f, fd, hm, F, b⟩ := M.ex
  exact pe_meth0 (pl := pl) he c hm F hr b .nil hx ht
theorem pe_makeH {CX : CXT} {k : Nat} {x : Str} {C : Addr} {ps : List Str} {sp : Sp} {E : XK} {e : Expr} {es : List Expr} {t : TA} {p pos : Pos} (M : HasC X.prog X.w X.K X.mg X.base CX k x C ps sp) (hr : Room (k + 1) X.A) (hg : Gl X x) (hx : Passes CX X E) (ha : PA X (e :: es) t)
    (hd : (x == ("__debug__" : Str)) = false := by decide) (he : starEach (e :: es) X.env = (false, eval e X.env) :: starEach es X.env := by rfl) (hpl : (backTo pos (starEach es X.env)).any (·.1) = false := by rfl) :
    PE X (.Call (.Name x p) (e :: es) [] pos) (tMake C sp [] E t) := by
  obtain ⟨f, fd, mk, F, m, b⟩ := M.ex
  exact pe_make mk F hr hg m b .nil hx ha hd he hpl
theorem pe_propH {CX : CXT} {k : Nat} {C p : Addr} {f : Str} {ps : List Str} {sp : Sp} {E : XK} {e : Expr} {ta : TE} {pos : Pos} (he : PE X e ta) (c : Cls X.K C) (M : ∃ (g : Addr) (fd : FuncData), PropOf X.K C f p g ∧ FnOk X.prog X.w X.K X.mg X.base CX k g fd ps sp ∧ Binds X.K fd ps []) (hr : Room (k + 1) X.A) (hx : Passes CX X.nox E)
    (hab : attributeBase e f X.env (eval e X.env) = eval e X.env := by rfl) : PE X (.Attribute e f pos) (tProp C sp [] E ta) := by
  obtain ⟨g, fd, hp, F, b⟩ := M
  exact pe_prop he c hp F hr b .nil hx hab
end
/-- all but p and c stands -/
def But (p c : Addr) (H H' : Hp) : Prop := ∀ b o, H b = some o → b ≠ p → b ≠ c → H' b = some o
theorem But.refl {p c : Addr} {H : Hp} : But p c H H := fun _ _ e _ _ => e
theorem But.trans {p c : Addr} {H H1 H2 : Hp} (a : But p c H H1) (b : But p c H1 H2) : But p c H H2 := fun x o e h1 h2 => b x o (a x o e h1 h2) h1 h2
theorem iteE {c : Bool} {A B : Prop} (hc : c = false) (k : B) : if c = true then A else B := by
  rw [hc]
  exact iteF k
theorem iteS {c : Bool} {A B : Prop} (hc : c = true) (k : A) : if c = true then A else B := by
  rw [hc]
  exact iteT k

def dOf : V → PyData
  | .non => .none | .bl b => .bool b | .int i => .int i | .str z => .str z | _ => .none
theorem dp_flat {K : PySem.W.Frag} {H : Hp} {v : V} (h : flatV v = true) : Dp K H v (dOf v) := by
  cases v with
  | non => exact .non
  | bl b => exact .bl b
  | int i => exact .int i
  | str z => exact .str z
  | _ => cases h
theorem dpAll_flat {K : PySem.W.Frag} {H : Hp} : ∀ {xs : List V}, xs.all flatV = true → DpAll K H xs (xs.map dOf)
  | [], _ => .nil
  | x :: xs, h => by
    rw [List.all_cons, Bool.and_eq_true] at h
    exact .cons (dp_flat h.1) (dpAll_flat h.2)
/-! shapes -/
def okV : V → Bool
  | .str z => PyData.strOk z
  | _ => true
theorem lay_dOf {v : V} (h : okV v = true) : (dOf v).canLay0 = true := by
  cases v with
  | str z => simpa [dOf, PyData.canLay0, okV] using h
  | _ => simp [dOf, PyData.canLay0]
theorem layAll_dOf : ∀ {xs : List V}, xs.all okV = true → PyData.canLayAll0 (xs.map dOf) = true
  | [], _ => by simp [PyData.canLayAll0]
  | x :: xs, h => by
    rw [List.all_cons, Bool.and_eq_true] at h
    simp only [List.map_cons, PyData.canLayAll0, Bool.and_eq_true]
    exact ⟨lay_dOf h.1, layAll_dOf h.2⟩
theorem depth_dOf (v : V) : (dOf v).depth = 0 := by cases v <;> simp [dOf, PyData.depth]
theorem depthAll_dOf : ∀ xs : List V, PyData.depthAll (xs.map dOf) = 0
  | [] => by simp [PyData.depthAll]
  | x :: xs => by simp only [List.map_cons, PyData.depthAll, depth_dOf, depthAll_dOf xs]; rfl
theorem shaped_tup {xs : List V} (h : xs.all okV = true) : SeqAt.shaped (.tuple (xs.map dOf)) = true := by
  unfold SeqAt.shaped
  simp only [PyData.canLay0, PyData.depth, layAll_dOf h, depthAll_dOf, Bool.true_and]
  decide

/-! ### {**d, k: v}: the rule -/
section
variable {prog : Program} {w : World} {A : Around} {E : Value → Shared → Prop} {s : Shared}
theorem dput_ok {d : Addr} {kvs : List (Key × Value)} {k : Key} {key v : Value} {Q : Unit → Shared → Prop} (hkey : (mixKind prog w).is k key = true) (hm : s.heap.DictOf (mixKind prog w) d kvs) (hz : kvs.length ≤ sizeLine)
    (hQ : ∀ h', h'.DictOf (mixKind prog w) d (stored kvs k v) → Heap.SameBut d s.heap h' → Q () { s with heap := h' }) :
    wpAny (model prog w) A (dictPut d ((mixKind prog w).hash k) key v) Q E s := by
  obtain ⟨ob, es, ep, e1, e2, e3, e4, e5, e6⟩ := hm
  have z1 : es.size ≤ sizeLine := by
    have q1 := e5.length
    rw [Array.length_toList] at q1
    omega
  have fe : (es.findIdx? fun e => (mixKind prog w).is k e.key) = kvs.findIdx? fun kv => decide (kv.1 = k) := by
    rw [← e5.findIdx k]
    cases es with
    | mk l => simp
  unfold dictPut
  refine wpAny_bind (wpAny_dictFind_of hkey e1 e3 e4 ?_)
  cases fi : es.findIdx? fun e => (mixKind prog w).is k e.key with
  | some i =>
    have an : (kvs.any fun kv => decide (kv.1 = k)) = true := any_of_findIdx_some (fe ▸ fi)
    refine wpAny_updateDict e1 e3 (hQ _ ⟨_, _, ep, Heap.get?_update_self _ e1 (Obj.isFreed_of_dict (Obj.data_mapDict e3 _)), e2.mapDict _, Obj.data_mapDict e3 _, e4.modify _ _, ?_, ?_⟩ (Heap.SameBut.update ..))
    · unfold stored
      rw [if_pos an]
      have fl : (es.toList.findIdx? fun e => (mixKind prog w).is k e.key) = some i := by
        rw [← fi]
        cases es with
        | mk l => simp
      have r := e5.modify e6 fl v
      cases es with
      | mk l => simpa using r
    · unfold stored
      rw [if_pos an, keys_map_store]
      exact e6
  | none =>
    have nm : k ∉ kvs.map (·.1) := not_mem_of_findIdx_none (fe ▸ fi)
    have an : ¬ (kvs.any fun kv => decide (kv.1 = k)) = true := fun z => by
      obtain ⟨kv, m, q⟩ := List.any_eq_true.mp z
      exact nm (List.mem_map.mpr ⟨kv, m, of_decide_eq_true q⟩)
    refine wpAny_updateDictKeys (hz := z1) e1 e3 (hQ _ ⟨_, _, ep + 1, Heap.get?_update_self _ e1 (Obj.isFreed_of_dict (Obj.data_mapDictKeys e3 _)), e2.mapDictKeys _, Obj.data_mapDictKeys e3 _, e4.push hkey _, ?_, ?_⟩ (Heap.SameBut.update ..))
    · unfold stored
      rw [if_neg an]
      have r := e5.append hkey ((mixKind prog w).hash k) v
      cases es with
      | mk l => simpa using r
    · unfold stored
      rw [if_neg an, List.map_append, List.nodup_append]
      exact ⟨e6, by simp, fun a ha b hb z => nm (by
        have : b = k := by simpa using hb
        rw [← this, ← z]
        exact ha)⟩
theorem noref_loop {es : Array DictEntry} (hk : KeysOf (mixKind prog w) es) {f : DictEntry → PUnit → Sem (ForInStep PUnit)} (hf : ∀ e u, (∀ a, e.key ≠ .ref a) → f e u = pure (.yield PUnit.unit)) {Q : PUnit → Shared → Prop} (h : Q PUnit.unit s) :
    wpAny (model prog w) A (forIn es PUnit.unit f) Q E s := by
  rw [← Array.forIn_toList]
  have all : ∀ e ∈ es.toList, ∀ a, e.key ≠ Value.ref a := fun e he a z => by
    obtain ⟨k, q, _⟩ := hk e (by simpa using he)
    rcases keyIs_shape (k := k) (v := e.key) q with ⟨_, _, _, q⟩ | ⟨_, _, _, q⟩ <;> (rw [z] at q; cases q)
  refine wpAny_forIn_list f (fun rest _ s' => (∀ e ∈ rest, ∀ a, e.key ≠ Value.ref a) ∧ s' = s) Q ?_ ?_ es.toList PUnit.unit ⟨all, rfl⟩
  · rintro e rest b s' ⟨ha, rfl⟩
    rw [hf e b (ha e (List.mem_cons_self ..))]
    exact wpAny_pure ⟨fun x hx => ha x (List.mem_cons_of_mem _ hx), rfl⟩
  · rintro b s' ⟨_, rfl⟩
    exact h
theorem mergeMap_ok {d o : Addr} {kvs more : List (Key × Value)} {Q : Unit → Shared → Prop} (hdo : d ≠ o) (hoS : (o == sysModules) = false) (hd : s.heap.DictOf (mixKind prog w) d kvs) (ho : s.heap.DictOf (mixKind prog w) o more)
    (hz : kvs.length + more.length ≤ sizeLine) (hQ : ∀ h', h'.DictOf (mixKind prog w) d (merged kvs more) → Heap.SameBut d s.heap h' → Q () { s with heap := h' }) :
    wpAny (model prog w) A (mergeMapping d (.ref o) false) Q E s := by
  have ty := ho.typeIs
  obtain ⟨od, esd, epd, d1, d2, d3, d4, d5, d6⟩ := id hd
  obtain ⟨oo, es, ep, o1, o2, o3, o4, o5, o6⟩ := id ho
  have hlen : more.length = es.size := by rw [← o5.length]; simp
  unfold mergeMapping
  refine wpAny_bind (wpAny_isInstance ty isSubtype_dict_dict ?_)
  simp only [if_true]
  refine wpAny_bind (wpAny_specialOf ty F.slot_dict_iter.lookup ?_)
  simp only [beq_self_eq_true, Bool.false_eq_true, if_false]
  refine wpAny_bind (wpAny_pure ?_)
  dsimp only
  rw [if_neg (by rw [hoS]; exact Bool.false_ne_true)]
  refine wpAny_bind (wpAny_dictEntries d1 d3 ?_)
  have loop : wpAny (model prog w) A (do
      let l ← dictEntries o
      let epoch ← dictEpoch o
      forIn (List.range l.size) PUnit.unit fun i _ => (do
          let l' ← dictEntries o
          match l'[i]? with
            | some e => do
              holding [e.key, e.val] (dictPut d e.hash e.key e.val)
              let ep' ← dictEpoch o
              if (ep' != epoch) = true then do
                  (unsupported "dict.changed-during-merge" : Sem PUnit)
                  pure (ForInStep.yield PUnit.unit)
                else pure (ForInStep.yield PUnit.unit)
            | _ => do
              (unsupported "dict.changed-during-merge" : Sem PUnit)
              pure (ForInStep.yield PUnit.unit) : Sem (ForInStep PUnit))
      pure ()) Q E s := by
    refine wpAny_bind (wpAny_dictEntries o1 o3 (wpAny_bind (wpAny_dictEpoch o1 o3 (wpAny_bind ?_))))
    refine wpAny_forIn_list _ (fun rest _ s' => ∃ (h' : Heap) (i : Nat), s' = { s with heap := h' } ∧ rest = (List.range es.size).drop i ∧ i ≤ es.size ∧ h'.DictOf (mixKind prog w) d (merged kvs (more.take i)) ∧ h'.get? o = some oo ∧ Heap.SameBut d s.heap h') _ ?_ ?_ _ _
      ⟨s.heap, 0, rfl, rfl, Nat.zero_le _, by simpa [merged] using hd, o1, Heap.SameBut.refl _ _⟩
    · rintro x rest b s' ⟨h', i, rfl, hr, hi, hd', ho', hs'⟩
      have hlt : i < es.size := by
        rcases Nat.lt_or_ge i es.size with q | q
        · exact q
        · rw [List.drop_of_length_le (by simpa using q)] at hr
          cases hr
      rw [List.drop_eq_getElem_cons (by simpa using hlt), List.getElem_range] at hr
      injection hr with hx hr
      subst hx
      refine wpAny_bind (wpAny_dictEntries ho' o3 ?_)
      rw [Array.getElem?_eq_getElem hlt]
      obtain ⟨⟨k, v⟩, hkv⟩ : ∃ kv, more[x]? = some kv := ⟨more[x]'(by omega), by simp [hlen, hlt]⟩
      obtain ⟨hkey, hval⟩ := o5.get? (e := es[x]) (by simp [hlt]) hkv
      obtain ⟨k', hkey', hhash⟩ := o4 es[x] (Array.getElem_mem hlt)
      obtain rfl : k' = k := (mixKind prog w).inj _ _ _ hkey' hkey
      show wpAny _ _ (holding [es[x].key, es[x].val] (dictPut d es[x].hash es[x].key es[x].val) >>= _) _ _ _
      rw [hhash, hval]
      have q1 := merged_length_le kvs (more.take x)
      have q2 : (more.take x).length ≤ more.length := by rw [List.length_take]; omega
      refine wpAny_bind (wpAny_holding (dput_ok hkey hd' (by omega) fun h2 hd2 hs2 => ?_))
      have ho2 : h2.get? o = some oo := (hs2.2 o (Ne.symm hdo)).trans ho'
      refine wpAny_bind (wpAny_dictEpoch ho2 o3 ?_)
      rw [if_neg (by simp)]
      exact wpAny_pure ⟨h2, x + 1, rfl, hr, hlt, by rw [merged_take_succ kvs more x (k', v) hkv]; exact hd2, ho2, hs'.trans hs2⟩
    · rintro b s' ⟨h', i, rfl, hr, hi, hd', ho', hs'⟩
      have e : i = es.size := by
        rcases Nat.lt_or_ge i es.size with q | q
        · rw [List.drop_eq_getElem_cons (by simpa using q)] at hr
          cases hr
        · omega
      rw [e, ← hlen, List.take_length] at hd'
      exact wpAny_pure (hQ h' hd' hs')
  split
  · refine wpAny_bind (wpAny_dictEntries o1 o3 (wpAny_bind (noref_loop o4 (fun e u hne => ?_) loop)))
    split
    · rename_i a q
      exact absurd q (hne a)
    · rfl
  · exact loop
end
/-- what is asked of the mapping and the pair; the new dict stands at p -/
def tDstar (td tk tv : TE) : TE := fun σ H Q => ∀ p, H p = none → td σ (upd H p (.dK [])) fun x H1 => ∃ (a : Addr) (kvs : List (Key × V)), x = .ref a ∧ a ≠ p ∧ Rd H1 a (.dK kvs) ∧ H1 p = some (.dK []) ∧ kvs.length ≤ 1000 ∧
  ∀ q, H1 q = none → tk σ (upd (upd H1 p (.dK kvs)) q (.dK [])) fun y H2 => tv σ H2 fun z H3 => ∃ k : Key, y = kV k ∧ H3 p = some (.dK kvs) ∧ H3 q = some (.dK []) ∧ Q (.ref p) (upd (upd H3 q (.dK [(k, z)])) p (.dK (putK kvs k z)))
section
variable {X : Cx}
theorem dictDisplay_star (m k v : Sem Value) : dictDisplay [(none, m), (some k, v)] = (do
    let d ← alloc { cls := .type "dict", data := .dict #[] }
    let x ← holding [.ref d] m
    (((holding [.ref d, x] (mergeMapping d x false)).onRaise fun y => do let _ ← holding [.ref d, x, y] (runValue (.builtin "proto.let_go" {}))).tryCatch fun e => do
        if ← isInstance e (.type "AttributeError") then
          rule "dict.display.not-a-mapping"; raiseError "TypeError" s!"'{← typeNameOf x}' object is not a mapping"
        throw e).onRaise fun y => do let _ ← holding [.ref d, y] (runValue (.builtin "proto.let_go" {}))
    let sub ← holding [.ref d] (subDict [(k, v)])
    (holding [.ref d, .ref sub] (mergeMapping d (.ref sub) false)).onRaise fun y => do let _ ← holding [.ref d, y] (runValue (.builtin "proto.let_go" {}))
    pure (.ref d)) := by
  unfold dictDisplay
  simp [List.forIn_cons, List.forIn_nil]
theorem stored_nodup {kvs : List (Key × Value)} : (kvs.map (·.1)).Nodup → merged ([] : List (Key × Value)) kvs = kvs := merged_nil_of_nodup kvs
theorem kv_put {kvs : List (Key × V)} {vs : List (Key × Value)} (r : KV kvs vs) (k : Key) {z : V} {u : Value} (rz : RelV z u) : KV (putK kvs k z) (stored vs k u) := r.put k rz
theorem pe_dstar {d k v : Expr} {td tk tv : TE} {pos : Pos} (hd : PE X d td) (hk : PE X k tk) (hv : PE X v tv) : PE X (.Dict [none, some k] [d, v] pos) (tDstar td tk tv) := by
  refine ⟨fun pins s σ H Q I h => ?_⟩
  rw [arm_eval_Dict]
  refine wpAny_bind (wpAny_standAt ?_)
  show wpAny _ _ (dictDisplay [(none, do let x ← eval d X.env; standAt pos; pure x), (some (eval k X.env), do let x ← eval v X.env; standAt pos; pure x)]) _ _ _
  rw [dictDisplay_star]
  refine wpAny_bind (wpAny_alloc ?_)
  have hn := I.hok.fresh (Nat.le_refl s.heap.objs.size)
  have I1 := I.laid (a := s.heap.objs.size) (o := .dK []) (h' := s.heap.push { cls := .type "dict", data := .dict #[] }) (t' := s.toks) (fun _ _ q => Heap.get?_push_of_some _ q) (Nat.le_refl _) (dk_empty s.heap I.big)
  refine wpAny_bind (wpAny_holding (wpAny_bind (thn (hd.run pins _ σ _ _ I1 (h _ hn)) fun xv s1 hh => ?_)))
  obtain ⟨x, H1, J1, rx, a, kvs, ex, nap, ea, ep, hl, hq⟩ := hh
  subst ex
  obtain rfl : xv = Value.ref a := rx
  refine wpAny_bind (wpAny_standAt (wpAny_pure ?_))
  obtain ⟨_, ma, va, ra, da⟩ := dk_rd J1.hok ea
  obtain ⟨_, mp, vp, rp, dp⟩ := dk_of J1.hok ep
  cases rp
  have lva : va.length ≤ 1000 := by rw [← ra.length]; exact hl
  have ndv : (va.map (·.1)).Nodup := by
    obtain ⟨_, _, _, _, _, _, _, _, nd⟩ := da
    exact nd
  refine wpAny_bind (wpAny_onRaise (wpAny_tryCatch (wpAny_onRaise (wpAny_holding (mergeMap_ok (Ne.symm nap) ma dp da (by rw [sizeLine_eq, List.length_nil]; omega) fun h2 d2 s2 => ?_)))))
  rw [stored_nodup ndv] at d2
  have kz : kvs.length ≤ sizeLine := by rw [sizeLine_eq]; omega
  have J2 : Inv X pins σ (upd H1 s.heap.objs.size (.dK kvs)) { s1 with heap := h2, toks := s1.toks } :=
    d_write J1 (by rw [ep]; exact True.intro) s2 (let ⟨q, _, _, hq, _⟩ := d2; ⟨q, hq⟩) (dk_new kz mp ra d2)
  have hq2 : H1 h2.objs.size = none := by
    have f2 := J2.hok.fresh (Nat.le_refl h2.objs.size)
    have ne : h2.objs.size ≠ s.heap.objs.size := fun z => by
      rw [z, upd_same] at f2
      cases f2
    rw [upd_ne ne] at f2
    exact f2
  have J3 := J2.laid (a := h2.objs.size) (o := .dK []) (h' := h2.push { cls := .type "dict", data := .dict #[] }) (t' := s1.toks) (fun _ _ q => Heap.get?_push_of_some _ q) (Nat.le_refl _) (dk_empty h2 J2.big)
  refine wpAny_bind (wpAny_holding (wpAny_subDict (knd := mixKind X.prog X.w) (show 1 ≤ 15 by decide) ?_))
  unfold evalPairs
  refine wpAny_bind (thn (hk.run pins _ σ _ _ J3 (hq _ hq2)) fun kv s4 hh => ?_)
  obtain ⟨y, H4, J4, ry, hv4⟩ := hh
  refine wpAny_bind (wpAny_holding (wpAny_bind (thn (hv.run pins s4 σ H4 _ J4 hv4) fun vv s5 hh => ?_)))
  obtain ⟨z, H5, J5, rz, ky, ey, e5p, e5q, fin⟩ := hh
  subst ey
  refine wpAny_bind (wpAny_standAt (wpAny_pure (wpAny_bind ?_)))
  unfold evalPairs
  refine wpAny_holding (wpAny_pure (wpAny_pure ?_))
  obtain ⟨_, mq, vq, rq, dq⟩ := dk_of J5.hok e5q
  cases rq
  refine ⟨[(ky, vv)], ⟨kV_is ry, rfl, trivial⟩, dq, fun h6 d6 s6 => ?_⟩
  have d6' : h6.DictOf (mixKind X.prog X.w) h2.objs.size [(ky, vv)] := d6
  have J6 : Inv X pins σ (upd H5 h2.objs.size (.dK [(ky, z)])) { s5 with heap := h6, toks := s5.toks + 1 } :=
    d_write J5 (by rw [e5q]; exact True.intro) s6 (let ⟨q, _, _, hq, _⟩ := d6; ⟨q, hq⟩) (dk_new (by show 1 ≤ sizeLine; decide) mq (Paired.cons ⟨rfl, rz⟩ Paired.nil) d6')
  have npq : s.heap.objs.size ≠ h2.objs.size := fun z => by
    rw [z] at e5p
    have q := e5p.symm.trans e5q
    have f2 := J2.hok.fresh (Nat.le_refl h2.objs.size)
    rw [z, upd_same] at f2
    cases f2
  have e6p : upd H5 h2.objs.size (.dK [(ky, z)]) s.heap.objs.size = some (.dK kvs) := by rw [upd_ne npq]; exact e5p
  obtain ⟨_, mp6, v6, r6, d6p⟩ := dk_of J6.hok e6p
  refine wpAny_bind (wpAny_onRaise (wpAny_holding (mergeMap_ok npq mq d6p d6' (by rw [← r6.length, sizeLine_eq]; show kvs.length + 1 ≤ _; omega) fun h7 d7 s7 => ?_)))
  have pl : (putK kvs ky z).length ≤ sizeLine := by
    have := length_putK kvs ky z
    rw [sizeLine_eq]
    omega
  have J7 : Inv X pins σ (upd (upd H5 h2.objs.size (.dK [(ky, z)])) s.heap.objs.size (.dK (putK kvs ky z))) { s5 with heap := h7, toks := s5.toks + 1 } :=
    d_write (s := { s5 with heap := h6, toks := s5.toks + 1 }) (t' := s5.toks + 1) J6 (by rw [e6p]; exact True.intro) s7 (let ⟨q, _, _, hq, _⟩ := d7; ⟨q, hq⟩) (dk_new pl mp6 (kv_put r6 ky rz) d7)
  exact wpAny_pure ⟨.ref s.heap.objs.size, _, J7, rfl, fin⟩
theorem call_dictOf : CallR X (.type "dict") (fun xs H Q => ∃ (a : Addr) (kvs : List (Key × V)), xs = [.ref a] ∧ Rd H a (.dK kvs) ∧ ∀ p, H p = none → Q (.ref p) (upd H p (.dK kvs))) := by
  intro pins s σ H xs us Q I r h
  obtain ⟨a, kvs, rfl, ea, q⟩ := h
  obtain ⟨u, rfl, ru⟩ := vals1 r
  obtain rfl : u = Value.ref a := ru
  exact d_copyOf I ea fun p s' hp I' => ⟨.ref p, _, I', rfl, q p hp⟩
end

/-! ### match: texts, None, names, sequences (of tuples) -/
abbrev BS := List (Nat × V)
abbrev TPat := V → Hp → (Option BS → Hp → Prop) → Prop
abbrev TPats := List V → Hp → (Option BS → Hp → Prop) → Prop
section
variable {X : Cx}
/-- the slots and what they are to hold -/
def BindR (X : Cx) : BS → List (Str × Value) → Prop := Paired fun (a : Nat × V) (b : Str × Value) => X.N[a.1]? = some b.1 ∧ Loc X.env.scope b.1 ∧ (X.fn b.1 = true ∨ X.env.scope.names.lookup b.1 = some .local) ∧ RelV a.2 b.2
def OptR (X : Cx) : Option BS → Option (List (Str × Value)) → Prop
  | none, none => True
  | some a, some b => BindR X a b
  | _, _ => False
def MP (X : Cx) (pins : List (Addr × Obj)) (σ : L2.St) (Q : Option BS → Hp → Prop) (r : Option (List (Str × Value))) (s' : Shared) : Prop := ∃ r' H', Inv X pins σ H' s' ∧ OptR X r' r ∧ Q r' H'
structure PPat (X : Cx) (p : Pattern) (t : TPat) : Prop where
  run : ∀ (pins : List (Addr × Obj)) (s : Shared) (σ : L2.St) (H : Hp) (x : V) (u : Value) (Q : Option BS → Hp → Prop), Inv X pins σ H s → RelV x u → t x H Q → wpAny (model X.prog X.w) X.A (matchPattern p X.env u) (MP X pins σ Q) X.xe s
structure PPats (X : Cx) (ps : List Pattern) (t : TPats) : Prop where
  run : ∀ (pins : List (Addr × Obj)) (s : Shared) (σ : L2.St) (H : Hp) (xs : List V) (us : List Value) (Q : Option BS → Hp → Prop), Inv X pins σ H s → Vals xs us → t xs H Q → wpAny (model X.prog X.w) X.A (matchEach ps X.env us) (MP X pins σ Q) X.xe s
/-- a written text -/
def mStr (z : Str) : TPat := fun x H Q => scal x (.str z) = true ∧ Q (if x = .str z then some [] else none) H
theorem pm_str {z : Str} {j : Nat} {p pos : Pos} : PPat X (.MatchValue (.Constant (.str z) j p) pos) (mStr z) := by
  refine ⟨fun pins s σ H x u Q I rx h => ?_⟩
  obtain ⟨hs, q⟩ := h
  refine wpAny_matchPattern_Value (Calls.Constant_str ?_)
  refine wpAny_mono (op_eq pins _ σ H x (.str z) u _ (fun v H' => v = .bl (decide (x = .str z)) ∧ H' = H) (I.tok _) rx ⟨_, rfl⟩ ⟨hs, rfl, rfl⟩) (fun c s2 hc => ?_) fun _ _ z => z
  obtain ⟨v, H', I2, r2, rfl, rfl⟩ := hc
  cases r2
  refine wpAny_truthy_bool ?_
  by_cases e : x = .str z
  · rw [if_pos e] at q
    rw [decide_eq_true e, if_pos rfl]
    exact ⟨some [], H', I2, .nil, q⟩
  · rw [if_neg e] at q
    rw [decide_eq_false e, if_neg (by decide)]
    exact ⟨none, H', I2, trivial, q⟩
def mNon : TPat := fun x H Q => Q (if x = .non then some [] else none) H
theorem pm_non {pos : Pos} : PPat X (.MatchSingleton .none pos) mNon := by
  refine ⟨fun pins s σ H x u Q I rx h => ?_⟩
  show wpAny _ _ (pure (match Const.none, u with | .none, .none => some [] | .bool a, .bool b => if a == b then some [] else none | _, _ => none)) _ _ _
  refine wpAny_pure ?_
  have h : Q (if x = .non then some [] else none) H := h
  cases x with
  | non =>
    cases rx
    rw [if_pos rfl] at h
    exact ⟨some [], H, I, .nil, h⟩
  | _ =>
    rw [if_neg (by intro z; cases z)] at h
    refine ⟨none, H, I, ?_, h⟩
    first
      | (cases rx; trivial)
      | (obtain ⟨_, rfl⟩ := rx; trivial)
/-- a name, in slot i -/
def mAs (i : Nat) : TPat := fun x H Q => Q (some [(i, x)]) H
theorem pm_as {i : Nat} {n : Str} {pos : Pos} (hi : X.N[i]? = some n) (hl : Loc X.env.scope n) (hf : X.fn n = true ∨ X.env.scope.names.lookup n = some .local := by first | exact .inl rfl | exact .inr rfl) : PPat X (.MatchAs none (some n) pos) (mAs i) := by
  refine ⟨fun pins s σ H x u Q I rx h => wpAny_matchPattern_Capture ?_⟩
  exact ⟨some [(i, x)], H, I, .cons ⟨hi, hl, hf, rx⟩ .nil, h⟩
def mWild : TPat := fun _ H Q => Q (some []) H
theorem pm_wild {pos : Pos} : PPat X (.MatchAs none none pos) mWild := ⟨fun pins s σ H x u Q I rx h => wpAny_matchPattern_Capture ⟨some [], H, I, .nil, h⟩⟩
def mNil : TPats := fun _ H Q => Q (some []) H
def mCons (t : TPat) (ts : TPats) : TPats := fun xs H Q => ∃ x r, xs = x :: r ∧ t x H fun b H1 => match b with
  | none => Q none H1
  | some bs => ts r H1 fun b2 H2 => match b2 with
    | none => Q none H2
    | some more => Q (some (bs ++ more)) H2
theorem pms_nil : PPats X [] mNil := ⟨fun pins s σ H xs us Q I r h => wpAny_matchEach_nil ⟨some [], H, I, .nil, h⟩⟩
theorem bindR_app {a b : BS} {c d : List (Str × Value)} (h : BindR X a c) (k : BindR X b d) : BindR X (a ++ b) (c ++ d) := by
  induction h with
  | nil => exact k
  | cons r _ ih => exact .cons r ih
theorem pms_cons {p : Pattern} {ps : List Pattern} {t : TPat} {ts : TPats} (h1 : PPat X p t) (h2 : PPats X ps ts) (hs : p.isStar = false := by rfl) : PPats X (p :: ps) (mCons t ts) := by
  refine ⟨fun pins s σ H xs us Q I r h => ?_⟩
  obtain ⟨x, xr, rfl, h⟩ := h
  cases r with
  | cons rx rr =>
    refine wpAny_matchEach_cons (wpAny_mono (h1.run pins s σ H x _ _ I rx h) (fun b s1 q => ?_) fun _ _ z => z) hs
    obtain ⟨b', H1, I1, rb, q⟩ := q
    cases b' with
    | none =>
      cases b with
      | none => exact ⟨none, H1, I1, trivial, q⟩
      | some _ => exact False.elim rb
    | some bs =>
      cases b with
      | none => exact False.elim rb
      | some bv =>
        refine wpAny_mono (h2.run pins s1 σ H1 xr _ _ I1 rr q) (fun b2 s2 q2 => ?_) fun _ _ z => z
        obtain ⟨c', H2, I2, rc, q2⟩ := q2
        cases c' with
        | none =>
          cases b2 with
          | none => exact ⟨none, H2, I2, trivial, q2⟩
          | some _ => exact False.elim rc
        | some cs =>
          cases b2 with
          | none => exact False.elim rc
          | some cv => exact ⟨some (bs ++ cs), H2, I2, bindR_app rb rc, q2⟩
/-- a sequence of n patterns, of a tuple -/
def mSeq (K : PySem.W.Frag) (n : Nat) (ts : TPats) : TPat := fun x H Q => ∃ a xs, x = .ref a ∧ SqT K H a xs ∧ if xs.length = n then ts xs H Q else Q none H
theorem pm_seq {ps : List Pattern} {ts : TPats} {n : Nat} {pos : Pos} (hc : X.calm = true) (h : PPats X ps ts) (hn : ps.length = n := by rfl) (hstar : ps.findIdx? (·.isStar) = none := by rfl) (hwild : (ps.all fun p => p.isWildcard || (p.isStar && p.names.isEmpty)) = false := by rfl) : PPat X (.MatchSequence ps pos) (mSeq X.K n ts) := by
  refine ⟨fun pins s σ H x u Q I rx h' => ?_⟩
  obtain ⟨a, xs, rfl, hq, h'⟩ := h'
  obtain rfl : u = Value.ref a := rx
  obtain ⟨its, rv, ht, hz⟩ := I.tuple hq
  have lx : its.toArray.size = xs.length := by simpa using rv.length.symm
  have fit : ((its.toArray.size : Nat) : Int) < 2 ^ 63 := by
    have e : (2 : Int) ^ 63 = 9223372036854775808 := by decide
    have : sizeLine < 1000000000 := by decide
    rw [e]
    omega
  by_cases hl : xs.length = n
  · rw [if_pos hl] at h'
    refine PyProof.Rows.matchSeq_tuple_hit ht fit (by omega) ?_ hstar hwild
    have e : ps.length = its.toArray.size := by omega
    rw [e]
    refine PyProof.Rows.unpackItems_tuple (s := { s with toks := s.toks + 1 + 1 }) (I.ok.hd hc) ht fun h2 he => ?_
    have I2 : Inv X pins σ H { s with heap := h2, toks := s.toks + 1 + 1 } := I.kept (t' := s.toks + 1 + 1) fun b o q => he b o (Nat.ne_of_lt (Heap.lt_size q)) q
    exact h.run pins _ σ H xs _ Q I2 (by simpa using rv) h'
  · rw [if_neg hl] at h'
    exact PyProof.Rows.matchSeq_tuple_miss ht fit (by omega) ⟨none, H, I.tok _, trivial, h'⟩ hstar hwild
/-! the cases -/
def setAll (σ : L2.St) : BS → L2.St
  | [] => σ
  | (i, v) :: r => setAll (σ.set i (some v)) r
abbrev TCs := V → TS
structure PCs (X : Cx) (cs : List MatchCase) (t : TCs) : Prop where
  run : ∀ (pins : List (Addr × Obj)) (s : Shared) (σ : L2.St) (H : Hp) (x : V) (u : Value) (b : Bool) (D : Ends), Inv X pins σ H s → RelV x u → t x D σ H → wpAny (model X.prog X.w) X.A (matchCases cs X.env u b) (SP X pins D) X.xe s
theorem bind_all (hN : X.N.Nodup) {pins : List (Addr × Obj)} {H : Hp} {bs : BS} {vs : List (Str × Value)} (r : BindR X bs vs) : ∀ {σ : L2.St} {s : Shared} {Q : Unit → Shared → Prop}, Inv X pins σ H s → (∀ s', Inv X pins (setAll σ bs) H s' → Q () s') → wpAny (model X.prog X.w) X.A (assignInOrder (vs.map fun (n, _) => bindName X.env n) (vs.map (·.2))) Q X.xe s := by
  unfold BindR at r
  induction r with
  | nil => intro σ s Q I h; exact wpAny_assignInOrder_none (h s I)
  | cons r rr ih =>
    rename_i a b bs vs
    intro σ s Q I h
    obtain ⟨i, v⟩ := a
    obtain ⟨n, u⟩ := b
    obtain ⟨r1, r2, r3, r4⟩ := r
    exact wpAny_assignInOrder_more (wpAny_bindName (store_ok I hN r1 r2 r4 (fun s' I' => ih I' h) r3))
def tCs0 : TCs := fun _ D σ H => D.nx σ H
theorem pcs_nil : PCs X [] tCs0 := ⟨fun pins s σ H x u b D I r h => wpAny_matchCases_nil ⟨σ, H, I, h⟩⟩
def tCsC (tp : TPat) (tb : TS) (tr : TCs) : TCs := fun x D σ H => tp x H fun r H1 => match r with
  | none => tr x D σ H1
  | some bs => tb D (setAll σ bs) H1
theorem pcs_cons {p : Pattern} {body : List Stmt} {rest : List MatchCase} {tp : TPat} {tb : TS} {tr : TCs} (hN : X.N.Nodup) (hp : PPat X p tp) (hb : PSs X body tb) (hr : PCs X rest tr) : PCs X (⟨p, none, body⟩ :: rest) (tCsC tp tb tr) := by
  refine ⟨fun pins s σ H x u b D I r h => ?_⟩
  refine wpAny_matchCases_cons (wpAny_mono (hp.run pins s σ H x u _ I r h) (fun c s1 q => ?_) fun _ _ z => z)
  obtain ⟨c', H1, I1, rc, q⟩ := q
  cases c' with
  | none =>
    cases c with
    | none => exact hr.run pins s1 σ H1 x u false D I1 r q
    | some _ => exact False.elim rc
  | some bs =>
    cases c with
    | none => exact False.elim rc
    | some vs => exact bind_all hN rc I1 fun s2 I2 => hb.run pins s2 _ H1 D I2 q
def tMatch (te : TE) (tc : TCs) : TS := fun D σ H => te σ H fun x H1 => tc x D σ H1
theorem ps_match {e : Expr} {cs : List MatchCase} {te : TE} {tc : TCs} {pos : Pos} (he : PE X e te) (hc : PCs X cs tc) : PS X (.Match e cs pos) (tMatch te tc) := by
  refine ⟨fun pins s σ H D I h => ?_⟩
  exact wpAny_Match (thn (he.run pins s σ H _ I h) fun u s1 ⟨x, H1, I1, rx, q⟩ => hc.run pins s1 σ H1 x u true D I1 rx q)
end

/-! ### the pool: _law_pool, _law_mixed, _law_draw -/
abbrev sMixed : Stmt := topS 20
abbrev NMixed : List Str := ["_law_number", "_law_count", "_law_many"]
abbrev PMixed : List Str := ["_law_number", "_law_count", "_law_many"]
theorem scMixed : FnScope NMixed PMixed (defScope sMixed) := ⟨rfl, rfl, rfl, by decide +kernel, rfl, by decide +kernel, by decide +kernel⟩
abbrev sDraw : Stmt := topS 21
abbrev NDraw : List Str := ["_law_pool_here", "_law_many", "_law_at", "_law_cells", "_law_cell"]
abbrev PDraw : List Str := ["_law_pool_here", "_law_many"]
theorem scDraw : FnScope NDraw PDraw (defScope sDraw) := ⟨rfl, rfl, rfl, by decide +kernel, rfl, by decide +kernel, by decide +kernel⟩
abbrev sPool : Stmt := topS 19
abbrev NPool : List Str := ["_law_script", "_law_cells", "_law_cell", "_law_seed"]
abbrev PPool : List Str := ["_law_script"]
theorem scPool : FnScope NPool PPool (defScope sPool) := ⟨rfl, rfl, rfl, by decide +kernel, rfl, by decide +kernel, by decide +kernel⟩
/-- the pool at p, its cells at c; lim is its last item; at most n draws so far -/
def PoolAt (H : Hp) (p c : Addr) (lim : V) (n : Nat) : Prop :=
  ∃ (i : Nat) (cells : List Int) (cnt seed mode : Int), H p = some (.lst [.ref c, .int (i : Int), .int cnt, .int seed, .int mode, lim]) ∧ H c = some (.lst (cells.map V.int)) ∧
    i ≤ cells.length ∧ 0 ≤ cnt ∧ cnt ≤ (n : Int) ∧ 0 ≤ seed ∧ seed < 2147483647
def spMixed : Sp := fun vs H Q _ => ∃ (n c m : Int), vs = [.int n, .int c, .int m] ∧ 0 ≤ n ∧ n < 2147483647 ∧ 0 ≤ c ∧ c ≤ 1000000000000 ∧ 0 < m ∧ ∀ r : Int, 0 ≤ r → r < m → Q (.int r) H
def spDraw : Sp := fun vs H Q _ => ∃ (p c : Addr) (lim : V) (n : Nat) (m : Int), vs = [.ref p, .int m] ∧ PoolAt H p c lim n ∧ n < 1000000000000 ∧ 0 < m ∧ m ≤ 1000000000000000000 ∧
  ∀ (r : Int) (H' : Hp), 0 ≤ r → r < m → PoolAt H' p c lim (n + 1) → But p c H H' → Q (.int r) H'
def spPool (K : PySem.W.Frag) : Sp := fun vs H Q _ => ∃ (a : Addr) (ns : List Int), vs = [.ref a] ∧ SqL K H a (ns.map V.int) ∧ ns.length ≤ 63 ∧
  ∀ (p c : Addr) (H' : Hp), Same H H' → H p = none → H c = none → PoolAt H' p c (.int 30) 0 → Q (.ref p) H'
structure TxPool (mg : Str → Option Value) : Prop where
  n_int : mg "int" = none
  n_len : mg "len" = none
theorem pool_ne {H : Hp} {p c : Addr} {xs : List V} {cells : List Int} (hp : H p = some (.lst (.ref c :: xs))) (hc : H c = some (.lst (cells.map V.int))) : p ≠ c := ne_of hp hc (by
  intro z
  injection z with z
  cases cells with
  | nil => cases z
  | cons a r => injection z with z _; cases z)
theorem pow_lt {n c : Int} (h1 : 0 ≤ n) (h2 : n < 2147483647) (h3 : 0 ≤ c) (h4 : c ≤ 1000000000000) : (n + 7919 * c).natAbs < 2 ^ 64 := by
  have : (2 : Nat) ^ 64 = 18446744073709551616 := by decide
  omega
theorem m63 {m : Int} (h0 : 0 < m) (h1 : m ≤ 1000000000000000000) : m.natAbs < 2 ^ 63 := by
  have : (2 : Nat) ^ 63 = 9223372036854775808 := by decide
  omega
theorem set_ints (cells : List Int) (j : Nat) (z : Int) : (cells.map V.int).set j (V.int z) = (cells.set j z).map V.int := by
  rw [List.map_set]
theorem same_new {H : Hp} {p : Addr} {o : HO} (h : H p = none) : Same H (upd H p o) := fun b x e => by
  rw [upd_ne (ne_of_none e h)]
  exact e
theorem atI_in {α : Type} {xs : List α} {i : Int} (h0 : 0 ≤ i) (h1 : i < xs.length) : ∃ v, atI xs i = some v ∧ v ∈ xs := by
  have h : i.toNat < xs.length := by omega
  refine ⟨xs[i.toNat], ?_, List.getElem_mem h⟩
  have e : i = ((i.toNat : Nat) : Int) := by omega
  have q := atI_nat (xs := xs) (j := i.toNat) (v := xs[i.toNat]) (by simp [h])
  rw [← e] at q
  exact q
theorem PoolAt.same {H H' : Hp} {p c : Addr} {lim : V} {n : Nat} (h : PoolAt H p c lim n) (s : Same H H') : PoolAt H' p c lim n := by
  obtain ⟨i, cs, cn, sd, md, e1, e2, e⟩ := h
  exact ⟨i, cs, cn, sd, md, s _ _ e1, s _ _ e2, e⟩
theorem PoolAt.ne1 {H : Hp} {p c q : Addr} {lim : V} {n : Nat} (h : PoolAt H p c lim n) (hq : H q = none) : q ≠ p := fun z => by
  obtain ⟨_, _, _, _, _, e, _⟩ := h
  rw [z, e] at hq
  cases hq
theorem PoolAt.ne2 {H : Hp} {p c q : Addr} {lim : V} {n : Nat} (h : PoolAt H p c lim n) (hq : H q = none) : q ≠ c := fun z => by
  obtain ⟨_, _, _, _, _, _, e, _⟩ := h
  rw [z, e] at hq
  cases hq
theorem str_app_len (a b : Str) : (a ++ b : Str).length = a.length + b.length := by
  show (a.cps ++ b.cps).size = a.cps.size + b.cps.size
  exact Array.size_append
theorem PoolAt.mono {H : Hp} {p c : Addr} {lim : V} {n m : Nat} (h : PoolAt H p c lim n) (hm : n ≤ m) : PoolAt H p c lim m := by
  obtain ⟨i, cs, cn, sd, md, e1, e2, e3, e4, e5, e⟩ := h
  exact ⟨i, cs, cn, sd, md, e1, e2, e3, e4, by omega, e⟩
theorem PoolAt.upd {H : Hp} {p c q : Addr} {lim : V} {n : Nat} {o : HO} (h : PoolAt H p c lim n) (h1 : q ≠ p) (h2 : q ≠ c) : PoolAt (upd H q o) p c lim n := by
  obtain ⟨i, cs, cn, sd, md, e1, e2, e⟩ := h
  exact ⟨i, cs, cn, sd, md, by rw [upd_ne h1.symm]; exact e1, by rw [upd_ne h2.symm]; exact e2, e⟩
section
variable {P : Program} {w : World} {K : PySem.W.Frag} {mg : Str → Option Value} {base : Heap}
theorem ok_Mixed {f : Addr} {fd : FuncData} (F : Fun K "_law_mixed" "_law_mixed" sMixed f fd) (T : TxPool mg) : FnOk P w K mg base CX0 1 f fd PMixed spMixed := by
  refine F.ok scMixed (fun vs H Q E h => ?_) (fun cdv A outer s H vs Q E hr h => ?_)
  · obtain ⟨n, c, m, rfl, _⟩ := h
    rfl
  · obtain ⟨n, c, m, rfl, n0, n1, c0, c1, m0, k⟩ := h
    refine ⟨_, (pss_one (ps_ret (pe_op op_mod (pe_op op_fdiv (pe_callTy call_int1 (by rfl) T.n_int bb_int (pa_cons (pe_op op_mod (pe_op op_pow (pe_callTy call_int1 (by rfl) T.n_int bb_int (pa_cons (pe_op op_add (pv 0) (pe_op op_mul pe_int (pv 1))) pa_nil)) pe_int) pe_int) pa_nil)) pe_int) (pv 2)))), ?_⟩
    refine ⟨_, rfl, _, rfl, _, _, rfl, rfl, .inl ⟨by decide, by decide⟩, _, _, rfl, rfl, .inl ⟨_, rfl, ?_⟩⟩
    refine ⟨_, _, rfl, rfl, ⟨by decide, by decide, pow_lt n0 n1 c0 c1⟩, _, _, rfl, rfl, (show (0 : Int) < 2147483647 by decide), .inl ⟨_, rfl, ?_⟩⟩
    refine ⟨_, _, rfl, rfl, ⟨by decide, by decide⟩, _, rfl, _, _, rfl, rfl, m0, ?_⟩
    exact k _ (Int.emod_nonneg _ (by omega)) (Int.emod_lt_of_pos _ m0)
theorem ok_Draw {f : Addr} {fd : FuncData} (F : Fun K "_law_draw" "_law_draw" sDraw f fd) (T : TxPool mg) (GM : Has P w K mg base CX0 1 "_law_mixed" PMixed spMixed) :
    FnOk P w K mg base CX0 2 f fd PDraw spDraw := by
  refine F.ok scDraw (fun vs H Q E h => ?_) (fun cdv A outer s H vs Q E hr h => ?_)
  · obtain ⟨p, c, lim, n, m, rfl, _⟩ := h
    rfl
  · obtain ⟨p, c, lim, n, m, rfl, ⟨i, cells, cnt, seed, mode, hp, hc, hi, c0, c1, s0, s1⟩, hn, m0, m1, k⟩ := h
    have npc : p ≠ c := pool_ne hp hc
    refine ⟨_, (pss_cons (ps_asg (pe_op op_add (pe_ix (r := rIxL K) ix_list (pv 0) pe_int (fun _ _ => rfl)) pe_int) (pg_sub (pv 0) pe_int set_list))
  (pss_cons (ps_if (pt_cmpR op_ge (pe_ix (r := rIxL K) ix_list (pv 0) pe_int (fun _ _ => rfl)) (pe_callB call_len_seq (by rfl) T.n_len bb_len (pa_cons (pe_ix (r := rIxL K) ix_list (pv 0) pe_int (fun _ _ => rfl)) pa_nil)) (nomark _))
  (pss_one (ps_ret (pe_callH GM hr rfl pass0 (pa_cons (pe_ix (r := rIxL K) ix_list (pv 0) pe_int (fun _ _ => rfl)) (pa_cons (pe_ix (r := rIxL K) ix_list (pv 0) pe_int (fun _ _ => rfl)) (pa_cons (pv 1) pa_nil))))))
  pss_nil)
  (pss_cons (ps_set (i := 2) scDraw.nd rfl (Or.inl rfl) (pe_ix (r := rIxL K) ix_list (pv 0) pe_int (fun _ _ => rfl)))
  (pss_cons (ps_set (i := 3) scDraw.nd rfl (Or.inl rfl) (pe_ix (r := rIxL K) ix_list (pv 0) pe_int (fun _ _ => rfl)))
  (pss_cons (ps_set (i := 4) scDraw.nd rfl (Or.inl rfl) (pe_ix (r := rIxL K) ix_list (pv 3) (pv 2) (fun _ _ => rfl)))
  (pss_cons (ps_if (PW.pt (pw_and (pt_cmpR op_ne (pe_ix (r := rIxL K) ix_list (pv 0) pe_int (fun _ _ => rfl)) pe_int (nomark _)) (pw_and1 (pt_cmpR op_lt (pv 4) (pe_op op_pow pe_int pe_int) (nomark _)))))
  (pss_cons (ps_asg (pe_op op_add (pe_ix (r := rIxL K) ix_list (pv 0) pe_int (fun _ _ => rfl)) pe_int) (pg_sub (pv 0) pe_int set_list))
  (pss_cons (ps_if (pt_cmpR op_eq (pe_ix (r := rIxL K) ix_list (pv 0) pe_int (fun _ _ => rfl)) pe_int (nomark _))
  (pss_cons (ps_asg (pe_op op_add (pv 2) pe_int) (pg_sub (pv 0) pe_int set_list))
  (pss_one (ps_asg pe_int (pg_sub (pv 0) pe_int set_list))))
  pss_nil)
  (pss_one (ps_ret (pe_callH GM hr rfl pass0 (pa_cons (pe_op op_mod (pe_callTy call_int1 (by rfl) T.n_int bb_int (pa_cons (pv 4) pa_nil)) pe_int) (pa_cons (pe_ix (r := rIxL K) ix_list (pv 0) pe_int (fun _ _ => rfl)) (pa_cons (pv 1) pa_nil))))))))
  pss_nil)
  (pss_cons (ps_asg pe_int (pg_sub (pv 0) pe_int set_list))
  (pss_cons (ps_asg (pe_op op_fdivW (pe_callTy call_int1 (by rfl) T.n_int bb_int (pa_cons (pv 4) pa_nil)) (pv 1)) (pg_sub (pv 3) (pv 2) set_list))
  (pss_cons (ps_if (pt_cmpR op_eq (pe_ix (r := rIxL K) ix_list (pv 3) (pv 2) (fun _ _ => rfl)) pe_int (nomark _))
  (pss_cons (ps_asg (pe_op op_add (pv 2) pe_int) (pg_sub (pv 0) pe_int set_list))
  (pss_one (ps_asg pe_int (pg_sub (pv 0) pe_int set_list))))
  pss_nil)
  (pss_one (ps_ret (pe_op op_mod (pe_callTy call_int1 (by rfl) T.n_int bb_int (pa_cons (pv 4) pa_nil)) (pv 1))))))))))))), ?_⟩
    -- pool[2] = pool[2] + 1
    refine ⟨_, rfl, p, _, _, _, rfl, rfl, SqL.of hp, rfl, _, _, rfl, rfl, _, rfl, p, _, _, _, rfl, rfl, hp, rfl, ?_⟩
    have st : ∀ (i' : Nat) (md : Int) (cs : List Int), i' ≤ cs.length → ∀ H' : Hp, H' p = some (.lst [.ref c, .int (i' : Int), .int (cnt + 1), .int seed, .int md, lim]) → H' c = some (.lst (cs.map V.int)) → PoolAt H' p c lim (n + 1) :=
      fun i' md cs hl H' a b => ⟨i', cs, cnt + 1, seed, md, a, b, hl, by omega, by omega, s0, s1⟩
    have ac : ∀ {H' : Hp} {o : HO} {x : HO}, H' c = some x → upd H' p o c = some x := fun e => by rw [upd_ne npc.symm]; exact e
    have ap : ∀ {H' : Hp} {o : HO} {x : HO}, H' p = some x → upd H' c o p = some x := fun e => by rw [upd_ne npc]; exact e
    have kq : ∀ {H' : Hp} {o : HO}, But p c H H' → But p c H (upd H' p o) := fun b x o e hb hx => by rw [upd_ne hb]; exact b x o e hb hx
    have kc : ∀ {H' : Hp} {o : HO}, But p c H H' → But p c H (upd H' c o) := fun b x o e hb hx => by rw [upd_ne hx]; exact b x o e hb hx
    -- if pool[1] >= len(pool[0])
    refine ⟨_, rfl, p, _, _, _, rfl, rfl, SqL.of upd_same, rfl, _, rfl, p, _, _, _, rfl, rfl, SqL.of upd_same, rfl, c, _, rfl, .inl (SqL.of (ac hc)), _, _, rfl, rfl, _, rfl, ?_⟩
    refine ite2 (fun hge => ?_) (fun hlt => ?_)
    · refine ⟨_, rfl, p, _, _, _, rfl, rfl, SqL.of upd_same, rfl, _, rfl, p, _, _, _, rfl, rfl, SqL.of upd_same, rfl, _, rfl, seed, cnt + 1, m, rfl, s0, s1, by omega, by omega, m0, fun r r0 r1 => ?_⟩
      exact k r _ r0 r1 (st i mode cells hi _ upd_same (ac hc)) (kq But.refl)
    · have hil : i < cells.length := by
        have z : ¬ ((cells.map V.int).length : Int) ≤ (i : Int) := fun z => hlt (decide_eq_true z)
        rw [List.length_map] at z
        omega
      obtain ⟨cell, hcell⟩ : ∃ z, cells[i]? = some z := ⟨cells[i], by simp [hil]⟩
      have hcV : (cells.map V.int)[i]? = some (V.int cell) := by rw [List.getElem?_map, hcell]; rfl
      -- at, cells, cell
      refine ⟨_, rfl, p, _, _, _, rfl, rfl, SqL.of upd_same, rfl, ?_⟩
      refine ⟨_, rfl, p, _, _, _, rfl, rfl, SqL.of upd_same, rfl, ?_⟩
      refine ⟨_, rfl, _, rfl, c, _, _, _, rfl, rfl, SqL.of (ac hc), atI_nat hcV, ?_⟩
      -- if pool[4] != 2 and cell < 10 ** 18
      refine ⟨_, rfl, p, _, _, _, rfl, rfl, SqL.of upd_same, rfl, rfl, _, rfl, ?_⟩
      refine ite2 (fun h2 => ?gA) (fun h2 => iteF ?gB)
      case' gA => refine ⟨_, rfl, _, _, rfl, rfl, ⟨by decide, by decide, by decide⟩, _, _, rfl, rfl, _, rfl, ite2 (fun h3 => ?gD) (fun h3 => ?gC)⟩
      case gD =>
        refine ⟨_, rfl, p, _, _, _, rfl, rfl, SqL.of upd_same, rfl, _, _, rfl, rfl, _, rfl, p, _, _, _, rfl, rfl, upd_same, rfl, ?_⟩
        refine ⟨_, rfl, p, _, _, _, rfl, rfl, SqL.of upd_same, rfl, rfl, _, rfl, ite2 (fun h4 => ?_) (fun h4 => ?_)⟩
        · refine ⟨_, rfl, _, _, rfl, rfl, _, rfl, p, _, _, _, rfl, rfl, upd_same, rfl, ?_⟩
          refine ⟨_, rfl, p, _, _, _, rfl, rfl, upd_same, rfl, ?_⟩
          refine ⟨_, rfl, .inl ⟨_, rfl, _, _, rfl, rfl, (show (0 : Int) < 2147483647 by decide), _, rfl, p, _, _, _, rfl, rfl, SqL.of upd_same, rfl, _, rfl, _, cnt + 1, m, rfl, Int.emod_nonneg _ (by decide), Int.emod_lt_of_pos _ (by decide), by omega, by omega, m0, fun r r0 r1 => ?_⟩⟩
          exact k r _ r0 r1 (st (i + 1) 0 cells (by omega) _ upd_same (ac (ac (ac (ac hc))))) (kq (kq (kq (kq But.refl))))
        · refine ⟨_, rfl, .inl ⟨_, rfl, _, _, rfl, rfl, (show (0 : Int) < 2147483647 by decide), _, rfl, p, _, _, _, rfl, rfl, SqL.of upd_same, rfl, _, rfl, _, cnt + 1, m, rfl, Int.emod_nonneg _ (by decide), Int.emod_lt_of_pos _ (by decide), by omega, by omega, m0, fun r r0 r1 => ?_⟩⟩
          exact k r _ r0 r1 (st i (mode + 1) cells (by omega) _ upd_same (ac (ac hc))) (kq (kq But.refl))
      all_goals
        -- pool[4] = 2; cells[at] = int(cell) // many
        refine ⟨_, rfl, p, _, _, _, rfl, rfl, upd_same, rfl, ?_⟩
        have hix : ixN (cells.map V.int).length (i : Int) = some i := by
          unfold ixN
          rw [List.length_map, if_pos (by omega), if_pos (by omega), Int.toNat_natCast]
        refine ⟨_, rfl, .inl ⟨_, rfl, _, rfl, _, _, rfl, rfl, wide_div m0 (m63 m0 m1) (by decide) (by decide), _, rfl, _, rfl, c, _, _, i, rfl, rfl, ac (ac hc), hix, ?_⟩⟩
        rw [set_ints]
        have hcW : ((cells.set i (cell / m)).map V.int)[i]? = some (V.int (cell / m)) := by
          rw [List.getElem?_map, List.getElem?_set_self hil]; rfl
        have hlen : (cells.set i (cell / m)).length = cells.length := List.length_set
        refine ⟨_, rfl, _, rfl, c, _, _, _, rfl, rfl, SqL.of upd_same, atI_nat hcW, rfl, _, rfl, ite2 (fun h4 => ?_) (fun h4 => ?_)⟩
        · refine ⟨_, rfl, _, _, rfl, rfl, _, rfl, p, _, _, _, rfl, rfl, ap upd_same, rfl, ?_⟩
          refine ⟨_, rfl, p, _, _, _, rfl, rfl, upd_same, rfl, ?_⟩
          refine ⟨_, rfl, .inl ⟨_, rfl, _, rfl, _, _, rfl, rfl, m0, ?_⟩⟩
          exact k _ _ (Int.emod_nonneg _ (by omega)) (Int.emod_lt_of_pos _ m0) (st (i + 1) 0 _ (by omega) _ upd_same (ac (ac upd_same))) (kq (kq (kc (kq (kq But.refl)))))
        · refine ⟨_, rfl, .inl ⟨_, rfl, _, rfl, _, _, rfl, rfl, m0, ?_⟩⟩
          exact k _ _ (Int.emod_nonneg _ (by omega)) (Int.emod_lt_of_pos _ m0) (st i 2 _ (by omega) _ (ap upd_same) upd_same) (kc (kq (kq But.refl)))
/-! _law_pool -/
theorem cut63 {ns : List Int} (h : ns.length ≤ 63) : cutV (ns.map V.int) none (some 63) = ns.map V.int := by
  unfold cutV
  rw [HT.sIx_none, show HT.sIx (ns.map V.int).length (ns.map V.int).length (some 63) = min 63 (ns.map V.int).length from HT.sIx_nat _ _ 63]
  rw [List.length_map, List.drop_zero, List.take_of_length_le]
  rw [List.length_map]
  omega
theorem int_at {ns : List Int} {i : Nat} {x : V} (h : (ns.map V.int)[i]? = some x) : ∃ z, ns[i]? = some z ∧ x = V.int z := by
  rw [List.getElem?_map] at h
  cases e : ns[i]? with
  | none => rw [e] at h; cases h
  | some z => rw [e] at h; exact ⟨z, rfl, (Option.some.inj h).symm⟩
theorem take_snoc {α : Type} {l : List α} {i : Nat} {z : α} (h : l[i]? = some z) : l.take (i + 1) = l.take i ++ [z] := by
  rw [List.take_succ, h]; rfl
theorem ok_Pool {f : Addr} {fd : FuncData} (F : Fun K "_law_pool" "_law_pool" sPool f fd) (T : TxPool mg) : FnOk P w K mg base CX0 1 f fd PPool (spPool K) := by
  refine F.ok scPool (fun vs H Q E h => ?_) (fun cdv A outer s H vs Q E hr h => ?_)
  · obtain ⟨a, ns, rfl, _⟩ := h
    rfl
  · obtain ⟨a, ns, rfl, hS, hlen, k⟩ := h
    refine ⟨_, (pss_cons (ps_setLc (i := 1) (own := [("_law_cell", 2)]) (g := gName 2) (tt := tYes) rfl scPool.nd rfl rfl (sw_true rfl rfl rfl (by decide +kernel)) (pi_list (pe_slice sl_list (pv 0) po_none (po_some pe_int))) (blkOk_by (own := [("_law_cell", 2)]) (N := NPool) (sc := (defScope sPool)) (by decide +kernel)) (fun _ _ _ _ _ => (pg_name (i := 2) scPool.nd rfl (Or.inl rfl))) (fun _ _ _ _ _ => pts_nil) (fun _ _ _ _ _ => (pe_callTy call_int1 (by rfl) T.n_int bb_int (pa_cons (pv 2) pa_nil))))
  (pss_cons (ps_set (i := 3) scPool.nd rfl (Or.inl rfl) pe_int)
  (pss_cons (ps_for PassesOwn.never rfl (pi_list (pv 1)) (pg_name (i := 2) scPool.nd rfl (Or.inl rfl))
  (pss_one (ps_set (i := 3) scPool.nd rfl (Or.inl rfl) (pe_op op_mod (pe_callTy call_int1 (by rfl) T.n_int bb_int (pa_cons (pe_op op_add (pe_op op_mul (pv 3) pe_int) (pv 2)) pa_nil)) pe_int))))
  (pss_one (ps_ret (pe_lst (pa_cons (pv 1) (pa_cons pe_int (pa_cons pe_int (pa_cons (pv 3) (pa_cons pe_int (pa_cons pe_int pa_nil)))))))))))), ?_⟩
    refine ⟨_, rfl, 63, rfl, a, _, rfl, hS, fun q hq => ⟨q, rfl, ⟨_, SqL.of upd_same⟩, fun D hD => ?_⟩⟩
    rw [cut63 hlen] at *
    have nqD : q ≠ D := fun z => by rw [z, upd_same] at hD; cases hD
    have hD0 : H D = none := by rw [← hD, upd_ne (Ne.symm nqD)]
    refine lc_list (K := K) (a := q) (xs := ns.map V.int) (fun i H' => Same H H' ∧ H' q = some (.lst (ns.map V.int)) ∧ H' D = some (.lst ((ns.take i).map V.int))) ?_ ?_ ?_ ?_
    · exact ⟨fun b o e => by rw [upd_ne (ne_of_none e hD0), upd_ne (ne_of_none e hq)]; exact e, by rw [upd_ne nqD, upd_same], upd_same⟩
    · exact fun i H' _ h' => SqL.of h'.2.1
    · rintro i x H' hx ⟨s1, q1, d1⟩
      obtain ⟨z, hz, rfl⟩ := int_at hx
      refine ⟨rfl, _, rfl, .inl ⟨_, rfl, _, d1, ?_, ?_⟩⟩
      · exact small1000 (by rw [List.length_map, List.length_take]; omega)
      · refine ⟨fun b o e => by rw [upd_ne (ne_of_none e hD0)]; exact s1 b o e, by rw [upd_ne nqD]; exact q1, ?_⟩
        rw [upd_same, take_snoc hz, List.map_append]
        rfl
    · rintro H1 ⟨s1, q1, d1⟩
      rw [List.length_map, List.take_length] at d1
      -- seed = 11; the loop
      refine ⟨_, rfl, D, rfl, ⟨_, SqL.of d1⟩, for_list (K := K) (a := D) (xs := ns.map V.int) (fun i σ H' => ∃ (x : Option V) (z : Int), σ = [some (.ref a), some (.ref D), x, some (.int z)] ∧ 0 ≤ z ∧ z < 2147483647 ∧ H' = H1)
        ⟨none, 11, rfl, by decide, by decide, rfl⟩ (fun i σ H' _ ⟨_, _, _, _, _, e⟩ => by rw [e]; exact SqL.of d1) ?_ ?_⟩
      · rintro i x σ H' hx ⟨y, z, rfl, z0, z1, rfl⟩
        obtain ⟨u, hu, rfl⟩ := int_at hx
        refine ⟨_, rfl, _, _, rfl, rfl, .inr ⟨by decide, by decide⟩, _, rfl, _, _, rfl, rfl, .inl ⟨_, rfl, _, _, rfl, rfl, (show (0 : Int) < 2147483647 by decide), ?_⟩⟩
        exact ⟨_, _, rfl, Int.emod_nonneg _ (by decide), Int.emod_lt_of_pos _ (by decide), rfl⟩
      · rintro σ H' ⟨y, z, rfl, z0, z1, rfl⟩
        refine ⟨_, rfl, _, rfl, (by show 6 ≤ sizeLine; decide), fun p hp => ?_⟩
        have npD : D ≠ p := ne_of_none d1 hp
        refine k p D _ (s1.trans (same_new hp)) (s1.free hp) hD0 ⟨0, ns, 0, z, 0, upd_same, by rw [upd_ne npD]; exact d1, Nat.zero_le _, by decide, by decide, z0, z1⟩
end

def LET : Str := "abcdefghijklmnopqrstuvwxyz"
def DIG : Str := "0123456789"
def KWS : List Str := ["globals", "kinds", "keep", "def", "if", "else", "while", "risk", "raise", "try", "except", "finally", "undo", "with", "swallow", "return"]
def al (c : Nat) : Bool := decide (c ∈ LET.cps.toList) || decide (c ∈ DIG.cps.toList)

/-! ### what a name is -/
def isName (z : Str) : Bool := match z.cps.toList with
  | [] => false
  | c :: r => decide (c ∈ LET.cps.toList) && (c :: r).all al && !inV (.str z) (KWS.map V.str)
theorem isName_at {z : Str} {c : Nat} (h : z.cps.toList[0]? = some c) : isName z = (decide (c ∈ LET.cps.toList) && z.cps.toList.all al && !inV (.str z) (KWS.map V.str)) := by
  unfold isName
  cases e : z.cps.toList with
  | nil => rw [e] at h; simp at h
  | cons a r => rw [e] at h; simp at h; subst h; rfl

/-! of lcs.tpl: what the texts need -/
theorem Paired.snocP {α β : Type} {F : α → β → Prop} : ∀ {l₁ : List α} {l₂ : List β} {a : α} {b : β}, Paired F l₁ l₂ → F a b → Paired F (l₁ ++ [a]) (l₂ ++ [b])
  | _, _, _, _, .nil, h => .cons h .nil
  | _, _, _, _, .cons r t, h => .cons r (Paired.snocP t h)
theorem Paired.at {α β : Type} {F : α → β → Prop} {xs : List α} {ys : List β} (hp : Paired F xs ys) : ∀ {i : Nat} {x : α}, xs[i]? = some x → ∃ y, ys[i]? = some y ∧ F x y := by
  induction hp with
  | nil => intro i x h; simp at h
  | cons r t ih =>
    intro i x h
    cases i with
    | zero => cases h; exact ⟨_, rfl, r⟩
    | succ j => exact ih h
/-- tuples stay -/
def TSame (H H' : Hp) : Prop := ∀ b xs, H b = some (.tup xs) → H' b = some (.tup xs)
theorem TSame.of {H H' : Hp} (s : Same H H') : TSame H H' := fun b xs e => s b _ e
theorem TSame.trans {H H1 H2 : Hp} (a : TSame H H1) (b : TSame H1 H2) : TSame H H2 := fun x xs e => b x xs (a x xs e)
/-- each step gives some y with P i y; the steps lay new objects down -/
theorem lc_rel {J : It} {n : Nat} {G : Hp → Prop} {Y : Nat → Hp → V → Hp → Prop} (w : Walk J n G Y) {g : TG} {te : TE} {vs : List Nat} {σ : L2.St} {H1 : Hp} {D : Addr} {Qd : Hp → Prop} (P : Nat → V → Hp → Prop) (hP : ∀ i y H H', TSame H H' → P i y H → P i y H') (hD : H1 D = none) (hn : n ≤ 1000) (hG : ∀ H, Same H1 H → G H)
    (hs : ∀ i x H H' (k : VK), i < n → Same H1 H → Y i H x H' → (∀ y H4, Same H H4 → P i y H4 → k y H4) → g x (wipe σ vs) H' fun σ2 H2 => wipe σ2 vs = wipe σ vs ∧ te σ2 H2 k)
    (hd : ∀ ys H, Same H1 H → H D = some (.lst ys) → ys.length = n → (∀ i y, ys[i]? = some y → P i y H) → Qd H) :
    ∃ W : Nat → Nat → Hp → Prop, (∃ m, W 0 m (upd H1 D (.lst []))) ∧ ∀ i m H, W i m H →
      (J.stop i H ∧ Qd H) ∨ (J.go i H ∧ ∃ Nx : Hp → Prop, (∀ H', Nx H' → ∃ m', m' < m ∧ W (i + 1) m' H') ∧ ∀ x H', J.yld i H x H' → g x (wipe σ vs) H' fun σ2 H2 => wipe σ2 vs = wipe σ vs ∧ tYes σ2 H2 fun b H3 =>
        if b = true then te σ2 H3 fun y H4 => ∃ acc, H4 D = some (.lst acc) ∧ acc.length < sizeLine ∧ Nx (upd H4 D (.lst (acc ++ [y]))) else Nx H3) := by
  refine lc_it w (fun i H => Same H1 H ∧ ∃ ys, H D = some (.lst ys) ∧ ys.length = i ∧ ∀ j y, ys[j]? = some y → P j y H) ⟨same_new hD, [], upd_same, rfl, fun j y z => by simp at z⟩ (fun i H _ h => hG H h.1) (fun i x H H' hi ⟨s1, ys, e1, l1, p1⟩ y => ?_) (fun H ⟨s1, ys, e1, l1, p1⟩ => hd ys H s1 e1 l1 p1)
  refine hs i x H H' _ hi s1 y fun y H4 s4 p4 => ?_
  have t4 : TSame H4 (upd H4 D (.lst (ys ++ [y]))) := fun b xs z => by
    rw [upd_ne (ne_of z (s4 _ _ e1) (fun q => by cases q))]
    exact z
  refine ⟨ys, s4 _ _ e1, small1000 (by omega), fun b o z => ?_, ys ++ [y], upd_same, by rw [List.length_append, l1]; rfl, fun j z hz => ?_⟩
  · rw [upd_ne (ne_of_none z hD)]
    exact s4 b o (s1 b o z)
  · by_cases hj : j < ys.length
    · rw [List.getElem?_append_left hj] at hz
      exact hP _ _ _ _ ((TSame.of s4).trans t4) (p1 j z hz)
    · rw [List.getElem?_append_right (by omega)] at hz
      have hj' : j - ys.length = 0 := by
        have q := (List.getElem?_eq_some_iff.mp hz).1
        simp at q
        omega
      rw [hj'] at hz
      cases hz
      obtain rfl : j = i := by omega
      exact hP _ _ _ _ t4 p4
/-- each step gives f i -/
theorem lc_map {J : It} {n : Nat} {G : Hp → Prop} {Y : Nat → Hp → V → Hp → Prop} (w : Walk J n G Y) {g : TG} {te : TE} {vs : List Nat} {σ : L2.St} {H1 : Hp} {D : Addr} {Qd : Hp → Prop} (f : Nat → V) (hD : H1 D = none) (hn : n ≤ 1000) (hG : ∀ H, Same H1 H → G H)
    (hs : ∀ i x H H' (k : VK), i < n → Same H1 H → Y i H x H' → (∀ H4, Same H H4 → k (f i) H4) → g x (wipe σ vs) H' fun σ2 H2 => wipe σ2 vs = wipe σ vs ∧ te σ2 H2 k)
    (hd : ∀ H, Same H1 H → H D = some (.lst ((List.range n).map f)) → Qd H) :
    ∃ W : Nat → Nat → Hp → Prop, (∃ m, W 0 m (upd H1 D (.lst []))) ∧ ∀ i m H, W i m H →
      (J.stop i H ∧ Qd H) ∨ (J.go i H ∧ ∃ Nx : Hp → Prop, (∀ H', Nx H' → ∃ m', m' < m ∧ W (i + 1) m' H') ∧ ∀ x H', J.yld i H x H' → g x (wipe σ vs) H' fun σ2 H2 => wipe σ2 vs = wipe σ vs ∧ tYes σ2 H2 fun b H3 =>
        if b = true then te σ2 H3 fun y H4 => ∃ acc, H4 D = some (.lst acc) ∧ acc.length < sizeLine ∧ Nx (upd H4 D (.lst (acc ++ [y]))) else Nx H3) := by
  refine lc_rel w (fun i y _ => y = f i) (fun _ _ _ _ _ h => h) hD hn hG (fun i x H H' k hi s1 y kk => hs i x H H' k hi s1 y fun H4 s4 => kk _ H4 s4 rfl) fun ys H s1 e1 l1 p1 => hd H s1 ?_
  rw [e1]
  congr 2
  refine List.ext_getElem? fun j => ?_
  by_cases hj : j < n
  · rw [List.getElem?_map, List.getElem?_range hj]
    obtain ⟨y, hy⟩ : ∃ y, ys[j]? = some y := ⟨ys[j], by simp [l1, hj]⟩
    rw [hy, p1 j y hy]
    rfl
  · rw [List.getElem?_eq_none (by omega), List.getElem?_eq_none (by rw [List.length_map, List.length_range]; omega)]
theorem range_map {α β : Type} (l : List α) (F : α → β) (f : Nat → β) (h : ∀ (i : Nat) (x : α), l[i]? = some x → f i = F x) : (List.range l.length).map f = l.map F := by
  refine List.ext_getElem? fun j => ?_
  by_cases hj : j < l.length
  · rw [List.getElem?_map, List.getElem?_range hj, List.getElem?_map, List.getElem?_eq_getElem hj]
    exact congrArg some (h j _ (List.getElem?_eq_getElem hj))
  · rw [List.getElem?_eq_none (by rw [List.length_map, List.length_range]; omega), List.getElem?_eq_none (by rw [List.length_map]; omega)]

/-! ### trees -/
theorem Paired.snoc {α β : Type} {F : α → β → Prop} : ∀ {l₁ : List α} {l₂ : List β} {a : α} {b : β}, Paired F l₁ l₂ → F a b → Paired F (l₁ ++ [a]) (l₂ ++ [b])
  | _, _, _, _, .nil, h => .cons h .nil
  | _, _, _, _, .cons r t, h => .cons r (Paired.snoc t h)
theorem Paired.app {α β : Type} {F : α → β → Prop} : ∀ {l₁ l₃ : List α} {l₂ l₄ : List β}, Paired F l₁ l₂ → Paired F l₃ l₄ → Paired F (l₁ ++ l₃) (l₂ ++ l₄)
  | _, _, _, _, .nil, h => h
  | _, _, _, _, .cons r t, h => .cons r (Paired.app t h)
structure Ex where
  c : Int
  ts : List (Str × Int)
inductive Arg where
  | place (n : Str) | value (e : Ex)
abbrev Cal := Str × List Arg
mutual
inductive St where
  | set (t : Str) (e : Ex) | input (t : Str) | call (t : Option Str) (f : Str) (as : List Arg)
  | risk (ks : List Str) | raise (k : Str) | ret (e : Ex)
  | ite (a b : List St) | whl (b : List St) | try_ (b : List St) (hs : List Hd) (f : List St)
  | undo (ns : List Str) (b : List St) | with_ (e l : Cal) (ks : List Str) (b : List St)
inductive Hd where
  | mk (ks : List Str) (b : List St)
end
def Hd.ks : Hd → List Str
  | .mk ks _ => ks
def Hd.b : Hd → List St
  | .mk _ b => b
def exD (e : Ex) : PyData := .tuple [.int e.c, .tuple (e.ts.map fun p => .tuple [.str p.1, .int p.2])]
def nmD (ns : List Str) : PyData := .tuple (ns.map .str)
def argD : Arg → PyData
  | .place n => .tuple [.str "place", .str n]
  | .value e => .tuple [.str "value", exD e]
def calD (c : Cal) : PyData := .tuple [.str c.1, .tuple (c.2.map argD)]
def optD : Option Str → PyData
  | none => .none
  | some t => .str t
mutual
def stD : St → PyData
  | .set t e => .tuple [.str "set", .str t, exD e]
  | .input t => .tuple [.str "input", .str t]
  | .call t f as => .tuple [.str "call", optD t, .str f, .tuple (as.map argD)]
  | .risk ks => .tuple [.str "risk", nmD ks]
  | .raise k => .tuple [.str "raise", .str k]
  | .ret e => .tuple [.str "return", exD e]
  | .ite a b => .tuple [.str "if", .tuple (stsD a), .tuple (stsD b)]
  | .whl b => .tuple [.str "while", .tuple (stsD b)]
  | .try_ b hs f => .tuple [.str "try", .tuple (stsD b), .tuple (hdsD hs), .tuple (stsD f)]
  | .undo ns b => .tuple [.str "undo", nmD ns, .tuple (stsD b)]
  | .with_ e l ks b => .tuple [.str "with", calD e, calD l, nmD ks, .tuple (stsD b)]
def stsD : List St → List PyData
  | [] => []
  | s :: r => stD s :: stsD r
def hdD : Hd → PyData
  | .mk ks b => .tuple [nmD ks, .tuple (stsD b)]
def hdsD : List Hd → List PyData
  | [] => []
  | h :: r => hdD h :: hdsD r
end
def blD (b : List St) : PyData := .tuple (stsD b)
theorem stsD_map : ∀ b : List St, stsD b = b.map stD
  | [] => rfl
  | s :: r => by show stD s :: stsD r = _; rw [stsD_map r]; rfl
theorem hdsD_map : ∀ b : List Hd, hdsD b = b.map hdD
  | [] => rfl
  | s :: r => by show hdD s :: hdsD r = _; rw [hdsD_map r]; rfl
def parts : St → List (List St)
  | .ite a b => [a, b]
  | .whl b => [b]
  | .try_ b hs f => b :: (hs.map Hd.b ++ [f])
  | .undo _ b => [b]
  | .with_ _ _ _ b => [b]
  | _ => []
mutual
/-- how many statements stand within a statement -/
def szS : St → Nat
  | .ite a b => szB a + szB b
  | .whl b => szB b
  | .try_ b hs f => szB b + (szHs hs + szB f)
  | .undo _ b => szB b
  | .with_ _ _ _ b => szB b
  | .set _ _ => 0 | .input _ => 0 | .call _ _ _ => 0 | .risk _ => 0 | .raise _ => 0 | .ret _ => 0
def szB : List St → Nat
  | [] => 0
  | s :: r => 1 + szS s + szB r
def szH : Hd → Nat
  | .mk _ b => szB b
def szHs : List Hd → Nat
  | [] => 0
  | h :: r => szH h + szHs r
end
mutual
/-- how deep blocks stand within a statement -/
def dpS : St → Nat
  | .ite a b => max (dpB a) (dpB b)
  | .whl b => dpB b
  | .try_ b hs f => max (dpB b) (max (dpHs hs) (dpB f))
  | .undo _ b => dpB b
  | .with_ _ _ _ b => dpB b
  | .set _ _ => 0 | .input _ => 0 | .call _ _ _ => 0 | .risk _ => 0 | .raise _ => 0 | .ret _ => 0
def dpIn : List St → Nat
  | [] => 0
  | s :: r => max (dpS s) (dpIn r)
def dpB : List St → Nat
  | [] => 1
  | s :: r => 1 + max (dpS s) (dpIn r)
def dpH : Hd → Nat
  | .mk _ b => dpB b
def dpHs : List Hd → Nat
  | [] => 0
  | h :: r => max (dpH h) (dpHs r)
end
theorem dpB_eq : ∀ b, dpB b = 1 + dpIn b
  | [] => rfl
  | _ :: _ => rfl
theorem dp_hs : ∀ {hs : List Hd} {p : List St}, p ∈ hs.map Hd.b → dpB p ≤ dpHs hs
  | .mk ks b :: r, p, h => by
    show dpB p ≤ max (dpB b) (dpHs r)
    rcases List.mem_cons.mp h with z | z
    · rw [z]; exact Nat.le_max_left _ _
    · exact Nat.le_trans (dp_hs z) (Nat.le_max_right _ _)
theorem dp_part {s : St} {p : List St} (h : p ∈ parts s) : dpB p ≤ dpS s := by
  cases s with
  | ite a b =>
    simp only [parts, List.mem_cons, List.not_mem_nil, or_false] at h
    show _ ≤ max _ _
    rcases h with rfl | rfl
    · exact Nat.le_max_left _ _
    · exact Nat.le_max_right _ _
  | whl b => simp only [parts, List.mem_cons, List.not_mem_nil, or_false] at h; subst h; exact Nat.le_refl _
  | undo _ b => simp only [parts, List.mem_cons, List.not_mem_nil, or_false] at h; subst h; exact Nat.le_refl _
  | with_ _ _ _ b => simp only [parts, List.mem_cons, List.not_mem_nil, or_false] at h; subst h; exact Nat.le_refl _
  | try_ b hs f =>
    show _ ≤ max _ (max _ _)
    rcases List.mem_cons.mp h with z | z
    · rw [z]; exact Nat.le_max_left _ _
    · rcases List.mem_append.mp z with z | z
      · exact Nat.le_trans (dp_hs z) (Nat.le_trans (Nat.le_max_left _ _) (Nat.le_max_right _ _))
      · rw [List.mem_singleton.mp z]; exact Nat.le_trans (Nat.le_max_right _ _) (Nat.le_max_right _ _)
  | _ => simp [parts] at h
theorem dp_mem : ∀ {b : List St} {s : St}, s ∈ b → dpS s ≤ dpIn b
  | x :: r, s, h => by
    show _ ≤ max _ _
    rcases List.mem_cons.mp h with z | z
    · rw [z]; exact Nat.le_max_left _ _
    · exact Nat.le_trans (dp_mem z) (Nat.le_max_right _ _)
theorem dp_lt {b : List St} {s : St} {p : List St} (hs : s ∈ b) (hp : p ∈ parts s) : dpB p < dpB b := by
  have h1 := dp_part hp
  have h2 := dp_mem hs
  have h3 := dpB_eq b
  omega
theorem sz_hs : ∀ hs : List Hd, ((hs.map Hd.b).map szB).sum = szHs hs
  | [] => rfl
  | .mk ks b :: r => by
    show szB b + ((r.map Hd.b).map szB).sum = szB b + szHs r
    rw [sz_hs r]
theorem sz_parts (s : St) : ((parts s).map szB).sum = szS s := by
  cases s with
  | try_ b hs f =>
    show szB b + (((hs.map Hd.b) ++ [f]).map szB).sum = szB b + (szHs hs + szB f)
    rw [List.map_append, List.sum_append, sz_hs]
    rfl
  | ite a b => show szB a + (szB b + 0) = _; rfl
  | _ => rfl
end Aon
namespace L2
open PySem
/-! reading data -/
theorem SqT.same {K : PySem.W.Frag} {H H' : Hp} {a : Addr} {xs : List V} (e : Same H H') (h : SqT K H a xs) : SqT K H' a xs :=
  h.elim (fun h => .inl (h.elim (fun h => .inl (e _ _ h)) fun ⟨o, h⟩ => .inr ⟨o, e _ _ h⟩)) fun h => .inr h
mutual
theorem Dp.same {K : PySem.W.Frag} {H H' : Hp} (e : Same H H') {v : V} {d : PyData} (h : Dp K H v d) : Dp K H' v d :=
  match h with
  | .non => .non
  | .bl b => .bl b
  | .int i => .int i
  | .str x => .str x
  | .lst a b => .lst (e.seq a) (DpAll.same e b)
  | .tup a b => .tup (SqT.same e a) (DpAll.same e b)
theorem DpAll.same {K : PySem.W.Frag} {H H' : Hp} (e : Same H H') {vs : List V} {ds : List PyData} (h : DpAll K H vs ds) : DpAll K H' vs ds :=
  match h with
  | .nil => .nil
  | .cons a b => .cons (Dp.same e a) (DpAll.same e b)
end
theorem Dp.tupInv {K : PySem.W.Frag} {H : Hp} {v : V} {ds : List PyData} (h : Dp K H v (.tuple ds)) : ∃ a xs, v = .ref a ∧ SqT K H a xs ∧ DpAll K H xs ds := by
  cases h with
  | tup a b => exact ⟨_, _, rfl, a, b⟩
theorem Dp.strInv {K : PySem.W.Frag} {H : Hp} {v : V} {z : Str} (h : Dp K H v (.str z)) : v = .str z := by cases h; rfl
theorem Dp.intInv {K : PySem.W.Frag} {H : Hp} {v : V} {z : Int} (h : Dp K H v (.int z)) : v = .int z := by cases h; rfl
theorem DpAll.consInv {K : PySem.W.Frag} {H : Hp} {vs : List V} {d : PyData} {ds : List PyData} (h : DpAll K H vs (d :: ds)) : ∃ v r, vs = v :: r ∧ Dp K H v d ∧ DpAll K H r ds := by
  cases h with
  | cons a b => exact ⟨_, _, rfl, a, b⟩
theorem DpAll.nilInv {K : PySem.W.Frag} {H : Hp} {vs : List V} (h : DpAll K H vs []) : vs = [] := by cases h; rfl
theorem DpAll.len {K : PySem.W.Frag} {H : Hp} : ∀ {vs : List V} {ds : List PyData}, DpAll K H vs ds → vs.length = ds.length
  | _, _, .nil => rfl
  | _, _, .cons _ b => by rw [List.length_cons, List.length_cons, DpAll.len b]
theorem DpAll.at {K : PySem.W.Frag} {H : Hp} : ∀ {vs : List V} {ds : List PyData}, DpAll K H vs ds → ∀ {i : Nat} {v : V}, vs[i]? = some v → ∃ d, ds[i]? = some d ∧ Dp K H v d
  | _, _, .cons a b, 0, v, h => by simp at h; subst h; exact ⟨_, rfl, a⟩
  | _, _, .cons a b, i + 1, v, h => by simp at h ⊢; exact DpAll.at b h
theorem DpAll.map {K : PySem.W.Frag} {H : Hp} {α : Type} {f : α → PyData} : ∀ {vs : List V} {l : List α}, DpAll K H vs (l.map f) → Paired (fun v x => Dp K H v (f x)) vs l
  | _, [], h => by cases h; exact .nil
  | _, x :: r, h => by
    obtain ⟨v, vr, rfl, h1, h2⟩ := DpAll.consInv h
    exact .cons h1 (DpAll.map h2)
theorem DpAll.ofPaired {K : PySem.W.Frag} {H : Hp} {α : Type} {f : α → PyData} : ∀ {vs : List V} {l : List α}, Paired (fun v x => Dp K H v (f x)) vs l → DpAll K H vs (l.map f)
  | _, _, .nil => .nil
  | _, _, .cons a b => .cons a (DpAll.ofPaired b)
theorem DpAll.one {K : PySem.W.Frag} {H : Hp} {vs : List V} {d : PyData} (h : DpAll K H vs [d]) : ∃ v, vs = [v] ∧ Dp K H v d := by
  obtain ⟨v, r, rfl, h1, h2⟩ := DpAll.consInv h
  exact ⟨v, by rw [DpAll.nilInv h2], h1⟩
theorem DpAll.two {K : PySem.W.Frag} {H : Hp} {vs : List V} {d e : PyData} (h : DpAll K H vs [d, e]) : ∃ v w, vs = [v, w] ∧ Dp K H v d ∧ Dp K H w e := by
  obtain ⟨v, r, rfl, h1, h2⟩ := DpAll.consInv h
  obtain ⟨w, rfl, h3⟩ := DpAll.one h2
  exact ⟨v, w, rfl, h1, h3⟩
theorem DpAll.three {K : PySem.W.Frag} {H : Hp} {vs : List V} {d e f : PyData} (h : DpAll K H vs [d, e, f]) : ∃ v w x, vs = [v, w, x] ∧ Dp K H v d ∧ Dp K H w e ∧ Dp K H x f := by
  obtain ⟨v, r, rfl, h1, h2⟩ := DpAll.consInv h
  obtain ⟨w, x, rfl, h3, h4⟩ := DpAll.two h2
  exact ⟨v, w, x, rfl, h1, h3, h4⟩
theorem DpAll.four {K : PySem.W.Frag} {H : Hp} {vs : List V} {d e f g : PyData} (h : DpAll K H vs [d, e, f, g]) : ∃ v w x y, vs = [v, w, x, y] ∧ Dp K H v d ∧ Dp K H w e ∧ Dp K H x f ∧ Dp K H y g := by
  obtain ⟨v, r, rfl, h1, h2⟩ := DpAll.consInv h
  obtain ⟨w, x, y, rfl, h3, h4, h5⟩ := DpAll.three h2
  exact ⟨v, w, x, y, rfl, h1, h3, h4, h5⟩
end L2
namespace Aon
open PySem L2
theorem ty_tup {K : PySem.W.Frag} {H : Hp} {a : Addr} {xs : List V} (h : SqT K H a xs) : TyX K H (.ref a) (.type "tuple") := by
  rcases h with (h | ⟨o, h⟩) | h
  · exact .base (.tup h)
  · exact .fTuple h
  · obtain ⟨o, _, _, h1, h2, _⟩ := h
    exact .kTuple h1 h2

/-! ### wider bounds -/
theorem smallX {n : Nat} (h : n ≤ 100000) : n < sizeLine := Nat.lt_of_le_of_lt h (by decide)

/-! ### tokens -/
abbrev sKindOf : Stmt := topS 12
abbrev NKindOf : List Str := ["word", "char"]
abbrev PKindOf : List Str := ["word"]
theorem scKindOf : FnScope NKindOf PKindOf (defScope sKindOf) := ⟨rfl, rfl, rfl, by decide +kernel, rfl, by decide +kernel, by decide +kernel⟩
abbrev sEndRun : Stmt := topS 13
abbrev NEndRun : List Str := ["text", "start", "at"]
abbrev PEndRun : List Str := ["text", "start"]
theorem scEndRun : FnScope NEndRun PEndRun (defScope sEndRun) := ⟨rfl, rfl, rfl, by decide +kernel, rfl, by decide +kernel, by decide +kernel⟩
abbrev sToksOf : Stmt := topS 14
abbrev NToksOf : List Str := ["text", "found", "at", "stop"]
abbrev PToksOf : List Str := ["text"]
theorem scToksOf : FnScope NToksOf PToksOf (defScope sToksOf) := ⟨rfl, rfl, rfl, by decide +kernel, rfl, by decide +kernel, by decide +kernel⟩
def SIG : Str := "=+-*&?(){},"
structure TxTok (K : PySem.W.Frag) (mg : Str → Option Value) (kw : Addr) : Prop where
  n_len : mg "len" = none
  c_LETTERS : ∃ u, mg "LETTERS" = some u ∧ RelV (.str LET) u
  c_DIGITS : ∃ u, mg "DIGITS" = some u ∧ RelV (.str DIG) u
  c_SIGNS : ∃ u, mg "SIGNS" = some u ∧ RelV (.str SIG) u
  c_KEYWORDS : ∃ u, mg "KEYWORDS" = some u ∧ RelV (.ref kw) u
  kws : ∀ H, SqT K H kw (KWS.map V.str)
def dg (c : Nat) : Bool := decide (c ∈ DIG.cps.toList)
def kindOf (z : Str) : Str := if inV (.str z) (KWS.map V.str) = true then "mark" else match z.cps.toList with
  | [] => "bad"
  | c :: r => if c ∈ LET.cps.toList then "name" else if (c :: r).all dg = false then "bad" else if c = 48 ∧ 1 < (c :: r).length then "bad" else "number"
theorem eq_sign (c d : Nat) : decide (V.str (⟨#[c]⟩ : Str) = V.str ⟨#[d]⟩) = decide (c = d) := decide_eq_decide.mpr ⟨fun h => by
  injection h with h
  injection h with h
  injection h with h
  exact List.head_eq_of_cons_eq h, fun h => by rw [h]⟩
section
variable {P : Program} {w : World} {K : PySem.W.Frag} {mg : Str → Option Value} {base : Heap} {kw : Addr}
def spKind : Sp := fun vs H Q _ => ∃ z : Str, vs = [.str z] ∧ z.cps.toList ≠ [] ∧ z.length ≤ 1000000 ∧ Q (.str (kindOf z)) H
theorem ok_KindOf {f : Addr} {fd : FuncData} (F : Fun K "kind_of" "kind_of" sKindOf f fd) (T : TxTok K mg kw) : FnOk P w K mg base CX0 1 f fd PKindOf spKind := by
  refine F.ok scKindOf (fun vs H Q E h => ?_) (fun cdv A outer s H vs Q E hr h => ?_)
  · obtain ⟨z, rfl, _⟩ := h
    rfl
  · obtain ⟨z, rfl, hne, hz, k⟩ := h
    have hz' : z.length ≤ sizeLine := Nat.le_trans hz (by decide)
    obtain ⟨c, r, ec⟩ : ∃ c r, z.cps.toList = c :: r := by
      cases e : z.cps.toList with
      | nil => exact absurd e hne
      | cons a r => exact ⟨a, r, rfl⟩
    have h0 : z.cps.toList[0]? = some c := by rw [ec]; rfl
    have zl : z.length = (c :: r).length := by rw [← ec]; exact Array.length_toList.symm
    unfold kindOf at k
    rw [ec] at k
    simp only at k
    refine ⟨_, (pss_cons (ps_if (pt_cmpR op_in_seq (pv 0) (pe_globE rfl T.c_KEYWORDS) (by rfl))
  (pss_one (ps_ret pe_str))
  pss_nil)
  (pss_cons (ps_if (pt_cmpR op_in_sign (pe_ix ix_str (pv 0) pe_int (fun _ _ => rfl)) (pe_globE rfl T.c_LETTERS) (by rfl))
  (pss_one (ps_ret pe_str))
  pss_nil)
  (pss_cons (ps_for PassesOwn.never rfl (pi_str (pv 0)) (pg_name (i := 1) scKindOf.nd rfl (Or.inl rfl))
  (pss_one (ps_if (pt_cmpR op_notIn_sign (pv 1) (pe_globE rfl T.c_DIGITS) (by rfl))
  (pss_one (ps_ret pe_str))
  pss_nil)))
  (pss_cons (ps_if (PW.pt (pw_and (pt_cmpR op_eq (pe_ix ix_str (pv 0) pe_int (fun _ _ => rfl)) pe_str (nomark _)) (pw_and1 (pt_cmpR op_gt (pe_callB call_len_str (by rfl) T.n_len bb_len (pa_cons (pv 0) pa_nil)) pe_int (nomark _)))))
  (pss_one (ps_ret pe_str))
  pss_nil)
  (pss_one (ps_ret pe_str)))))), ?_⟩
    refine ⟨_, rfl, kw, _, rfl, .inr (T.kws _), rfl, by decide +kernel, _, rfl, ite2 (fun h1 => ?_) (fun h1 => ?_)⟩
    · have h1 : inV (.str z) (KWS.map V.str) = true := h1
      rw [if_pos h1] at k
      exact k
    · have h1 : ¬ inV (.str z) (KWS.map V.str) = true := h1
      rw [if_neg h1] at k
      refine ⟨_, rfl, z, 0, c, rfl, rfl, hz', atI_nat (j := 0) h0, c, _, rfl, rfl, _, rfl, ite2 (fun h2 => ?_) (fun h2 => ?_)⟩
      · rw [if_pos (of_decide_eq_true h2)] at k
        exact k
      · rw [if_neg (fun q => h2 (decide_eq_true q))] at k
        refine ⟨_, rfl, z, rfl, for_it (walk_str (z := z)) (fun i σ H' => H' = H ∧ (z.cps.toList.take i).all dg = true ∧ ∃ x, σ = [some (.str z), x]) ⟨rfl, rfl, none, rfl⟩ (fun _ _ _ _ _ => trivial) ?_ ?_⟩
        · rintro i x σ H1 H2 hi ⟨rfl, ha, y, rfl⟩ ⟨rfl, d, hd, rfl⟩
          have hd' : z.cps.toList[i]? = some d := by rw [Array.getElem?_toList]; exact hd
          refine ⟨_, rfl, d, _, rfl, rfl, _, rfl, ite2 (fun h3 => ?_) (fun h3 => ?_)⟩
          · have h3 : decide (d ∈ DIG.cps.toList) = false := by simpa using h3
            have : (c :: r).all dg = false := by
              rw [← ec, List.all_eq_false]
              exact ⟨d, List.mem_of_getElem? hd', by unfold dg; rw [h3]; decide⟩
            rw [if_pos this] at k
            exact k
          · have h3 : decide (d ∈ DIG.cps.toList) = true := by simpa using h3
            refine ⟨rfl, ?_, _, rfl⟩
            rw [take_snoc hd', List.all_append, ha, Bool.true_and, List.all_cons, List.all_nil, Bool.and_true]
            exact h3
        · rintro σ H1 ⟨rfl, ha, y, rfl⟩
          rw [show z.cps.size = z.cps.toList.length from Array.length_toList.symm, List.take_length, ec] at ha
          rw [if_neg (by rw [ha]; decide)] at k
          have e48 : ("0" : Str) = ⟨#[48]⟩ := by decide +kernel
          refine ⟨_, rfl, z, 0, c, rfl, rfl, hz', atI_nat (j := 0) h0, rfl, _, rfl, ite2 (fun h4 => ?_) (fun h4 => ?_)⟩
          · have h4 : decide (V.str (⟨#[c]⟩ : Str) = V.str ("0" : Str)) = true := h4
            rw [e48, eq_sign] at h4
            have h4 := of_decide_eq_true h4
            refine ⟨_, rfl, z, rfl, hz', _, _, rfl, rfl, _, rfl, ite2 (fun h5 => ?_) (fun h5 => ?_)⟩
            · have h5 := of_decide_eq_true h5
              rw [if_pos ⟨h4, by rw [← zl]; omega⟩] at k
              exact k
            · rw [if_neg (fun q => h5 (decide_eq_true (by rw [zl]; have := q.2; omega)))] at k
              exact k
          · have h4 : ¬ decide (V.str (⟨#[c]⟩ : Str) = V.str ("0" : Str)) = true := h4
            rw [e48, eq_sign] at h4
            rw [if_neg (fun q => h4 (decide_eq_true q.1))] at k
            exact k
/-! end_of_run -/
/-- the index behind the letters and digits that begin at i -/
def Run (t : List Nat) (i j : Nat) : Prop := i ≤ j ∧ j ≤ t.length ∧ (∀ x, i ≤ x → x < j → ∃ c, t[x]? = some c ∧ al c = true) ∧ ∀ c, t[j]? = some c → al c = false
def spEnd : Sp := fun vs H Q _ => ∃ (z : Str) (i j : Nat), vs = [.str z, .int (i : Nat)] ∧ z.length ≤ 1000000 ∧ Run z.cps.toList i j ∧ Q (.int (j : Nat)) H
theorem ok_EndRun {f : Addr} {fd : FuncData} (F : Fun K "end_of_run" "end_of_run" sEndRun f fd) (T : TxTok K mg kw) : FnOk P w K mg base CX0 1 f fd PEndRun spEnd := by
  refine F.ok scEndRun (fun vs H Q E h => ?_) (fun cdv A outer s H vs Q E hr h => ?_)
  · obtain ⟨z, i, j, rfl, _⟩ := h
    rfl
  · obtain ⟨z, i, j, rfl, hz, ⟨r1, r2, r3, r4⟩, k⟩ := h
    have hz' : z.length ≤ sizeLine := Nat.le_trans hz (by decide)
    have zl : z.length = z.cps.toList.length := Array.length_toList.symm
    refine ⟨_, (pss_cons (ps_set (i := 2) scEndRun.nd rfl (Or.inl rfl) (pv 1))
  (pss_cons (ps_while PassesOwn.never (PW.pt (pw_and (pt_cmpR op_lt (pv 2) (pe_callB call_len_str (by rfl) T.n_len bb_len (pa_cons (pv 0) pa_nil)) (nomark _)) (pw_and1 (PW.pt (pw_or (pt_cmpR op_in_sign (pe_ix ix_str (pv 0) (pv 2) (fun _ _ => rfl)) (pe_globE rfl T.c_LETTERS) (by rfl)) (pw_or1 (pt_cmpR op_in_sign (pe_ix ix_str (pv 0) (pv 2) (fun _ _ => rfl)) (pe_globE rfl T.c_DIGITS) (by rfl))))))))
  (pss_one (ps_aug (i := 2) scEndRun.nd rfl (Or.inl rfl) pe_int ip_add)))
  (pss_one (ps_ret (pv 2))))), ?_⟩
    refine ⟨_, rfl, fun m σ H' => ∃ a : Nat, m = j - a ∧ i ≤ a ∧ a ≤ j ∧ σ = [some (.str z), some (.int (i : Nat)), some (.int (a : Nat))] ∧ H' = H, ⟨_, i, rfl, Nat.le_refl _, r1, rfl, rfl⟩, ?_⟩
    rintro m σ H1 ⟨a, rfl, a1, a2, rfl, eH⟩
    have stop : a = j → Q (.int (a : Nat)) H1 := fun e => by rw [e, eH]; exact k
    refine ⟨_, rfl, _, rfl, z, rfl, hz', _, _, rfl, rfl, _, rfl, ite2 (fun h1 => ?_) (fun h1 => iteE rfl ⟨_, rfl, stop ?_⟩)⟩
    · have h1 : a < z.cps.toList.length := by have := of_decide_eq_true h1; omega
      obtain ⟨c, hc⟩ : ∃ c, z.cps.toList[a]? = some c := ⟨_, List.getElem?_eq_getElem h1⟩
      have atc : atI z.cps.toList ((a : Nat) : Int) = some c := atI_nat hc
      have go : al c = true → a < j := fun h => by
        rcases Nat.lt_or_ge a j with q | q
        · exact q
        · have e : a = j := by omega
          rw [e] at hc
          rw [r4 c hc] at h
          cases h
      have no : al c = false → a = j := fun h => by
        rcases Nat.lt_or_ge a j with q | q
        · obtain ⟨d, h1, h2⟩ := r3 a a1 q
          rw [hc] at h1
          cases h1
          rw [h] at h2
          cases h2
        · omega
      refine ⟨_, rfl, _, rfl, z, _, c, rfl, rfl, hz', atc, c, _, rfl, rfl, _, rfl, ite2 (fun h2 => iteS rfl ?_) (fun h2 => ?_)⟩
      · have q := go (by unfold al; rw [show decide (c ∈ LET.cps.toList) = true from h2]; rfl)
        refine ⟨fun σ' H' => σ' = [some (.str z), some (.int (i : Nat)), some (.int ((a + 1 : Nat) : Int))] ∧ H' = H, fun σ' H' ⟨e1, e2⟩ => ⟨j - (a + 1), by omega, a + 1, rfl, by omega, by omega, e1, e2⟩, ?_⟩
        exact ⟨_, rfl, _, _, rfl, rfl, rfl, eH⟩
      · have h2 : decide (c ∈ LET.cps.toList) = false := by simpa using h2
        refine ⟨_, rfl, _, rfl, z, _, c, rfl, rfl, hz', atc, c, _, rfl, rfl, _, rfl, ite2 (fun h3 => ?_) (fun h3 => ?_)⟩
        · have q := go (by unfold al; rw [h2, show decide (c ∈ DIG.cps.toList) = true from h3]; rfl)
          refine ⟨fun σ' H' => σ' = [some (.str z), some (.int (i : Nat)), some (.int ((a + 1 : Nat) : Int))] ∧ H' = H, fun σ' H' ⟨e1, e2⟩ => ⟨j - (a + 1), by omega, a + 1, rfl, by omega, by omega, e1, e2⟩, ?_⟩
          exact ⟨_, rfl, _, _, rfl, rfl, rfl, eH⟩
        · have h3 : decide (c ∈ DIG.cps.toList) = false := by simpa using h3
          exact ⟨_, rfl, stop (no (by unfold al; rw [h2, h3]; rfl))⟩
    · have h1 : ¬ a < z.length := fun q => h1 (decide_eq_true (by omega))
      omega
end


/-! tokens_of -/
abbrev TK := Str × Str × Nat
def TkAt (H : Hp) (v : V) (tk : TK) : Prop := ∃ p, v = .ref p ∧ H p = some (.tup [.str tk.1, .str tk.2.1, .int (tk.2.2 : Nat)])
theorem TkAt.same {H H' : Hp} {v : V} {tk : TK} (h : TkAt H v tk) (s : ∀ b xs, H b = some (.tup xs) → H' b = some (.tup xs)) : TkAt H' v tk := let ⟨p, e, q⟩ := h; ⟨p, e, s _ _ q⟩
def cutT (t : List Nat) (i j : Nat) : Str := ⟨((t.drop i).take (j - i)).toArray⟩
def Plain (c : Nat) : Prop := c ≠ 32 ∧ c ≠ 10 ∧ c ∉ SIG.cps.toList
inductive Tkz (t : List Nat) : Nat → List TK → Prop
  | fin {a : Nat} (h : a = t.length) : Tkz t a [("end", "", a)]
  | gap {a c : Nat} {ts : List TK} (h : t[a]? = some c) (hc : c = 32 ∨ c = 10) (r : Tkz t (a + 1) ts) : Tkz t a ts
  | sign {a c : Nat} {ts : List TK} (h : t[a]? = some c) (hc : c ∈ SIG.cps.toList) (r : Tkz t (a + 1) ts) : Tkz t a (("mark", ⟨#[c]⟩, a) :: ts)
  | word {a j c : Nat} {ts : List TK} (h : t[a]? = some c) (hg : Plain c) (run : Run t a j) (lt : a < j) (k : kindOf (cutT t a j) ≠ "bad") (r : Tkz t j ts) : Tkz t a ((kindOf (cutT t a j), cutT t a j, a) :: ts)
  | bad {a j c : Nat} (h : t[a]? = some c) (hg : Plain c) (run : Run t a j) (b : j = a ∨ kindOf (cutT t a j) = "bad") : Tkz t a [("bad", "", a)]
theorem sig_gap : ∀ c ∈ SIG.cps.toList, c ≠ 32 ∧ c ≠ 10 := by decide +kernel
theorem e32 : (" " : Str) = ⟨#[32]⟩ := by decide +kernel
theorem e10 : ("\n" : Str) = ⟨#[10]⟩ := by decide +kernel
theorem cutS_nat {z : Str} {i j : Nat} (h1 : i ≤ j) (h2 : j ≤ z.cps.toList.length) : cutS z (some ((i : Nat) : Int)) (some ((j : Nat) : Int)) = cutT z.cps.toList i j := by
  have zl : z.length = z.cps.toList.length := Array.length_toList.symm
  unfold cutS cutT
  rw [HT.sIx_nat, HT.sIx_nat, Nat.min_eq_left (by omega), Nat.min_eq_left (by omega)]
theorem tkz_le {t : List Nat} {a : Nat} {ts : List TK} (h : Tkz t a ts) : a ≤ t.length := by
  cases h with
  | fin h => omega
  | gap h _ _ => exact Nat.le_of_lt (List.getElem?_eq_some_iff.mp h).1
  | sign h _ _ => exact Nat.le_of_lt (List.getElem?_eq_some_iff.mp h).1
  | word h _ _ _ _ _ => exact Nat.le_of_lt (List.getElem?_eq_some_iff.mp h).1
  | bad h _ _ _ => exact Nat.le_of_lt (List.getElem?_eq_some_iff.mp h).1
section
variable {P : Program} {w : World} {K : PySem.W.Frag} {mg : Str → Option Value} {base : Heap} {kw : Addr}
def spToks : Sp := fun vs H Q _ => ∃ (z : Str) (ts : List TK), vs = [.str z] ∧ z.length ≤ 1000000 ∧ Tkz z.cps.toList 0 ts ∧ ts.length ≤ 1000001 ∧ ∀ (L : Addr) (xs : List V) (H' : Hp), Same H H' → H L = none → H' L = some (.lst xs) → Paired (TkAt H') xs ts → Q (.ref L) H'
theorem ok_ToksOf {f : Addr} {fd : FuncData} (F : Fun K "tokens_of" "tokens_of" sToksOf f fd) (T : TxTok K mg kw) (GK : Has P w K mg base CX0 1 "kind_of" PKindOf spKind) (GE : Has P w K mg base CX0 1 "end_of_run" PEndRun spEnd) : FnOk P w K mg base CX0 2 f fd PToksOf spToks := by
  refine F.ok scToksOf (fun vs H Q E h => ?_) (fun cdv A outer s H vs Q E hr h => ?_)
  · obtain ⟨z, ts, rfl, _⟩ := h
    rfl
  · obtain ⟨z, ts, rfl, hz, ht, lts, k⟩ := h
    have hz' : z.length ≤ sizeLine := Nat.le_trans hz (by decide)
    have zl : z.length = z.cps.toList.length := Array.length_toList.symm
    refine ⟨_, (pss_cons (ps_set (i := 1) scToksOf.nd rfl (Or.inl rfl) (pe_lst pa_nil))
  (pss_cons (ps_set (i := 2) scToksOf.nd rfl (Or.inl rfl) pe_int)
  (pss_cons (ps_while PassesOwn.never (pt_cmpR op_lt (pv 2) (pe_callB call_len_str (by rfl) T.n_len bb_len (pa_cons (pv 0) pa_nil)) (nomark _))
  (pss_cons (ps_if (PW.pt (pw_or (pt_cmpR op_eq (pe_ix ix_str (pv 0) (pv 2) (fun _ _ => rfl)) pe_str (nomark _)) (pw_or1 (pt_cmpR op_eq (pe_ix ix_str (pv 0) (pv 2) (fun _ _ => rfl)) pe_str (nomark _)))))
  (pss_cons (ps_aug (i := 2) scToksOf.nd rfl (Or.inl rfl) pe_int ip_add)
  (pss_one ps_continue))
  pss_nil)
  (pss_cons (ps_if (pt_cmpR op_in_sign (pe_ix ix_str (pv 0) (pv 2) (fun _ _ => rfl)) (pe_globE rfl T.c_SIGNS) (by rfl))
  (pss_cons (ps_expr (pe_bm PySem.F.plainAttrs_list PySem.F.slot_list_append PySem.F.type_list_append mt_append (pv 1) (pa_cons (pe_tup (pa_cons pe_str (pa_cons (pe_ix ix_str (pv 0) (pv 2) (fun _ _ => rfl)) (pa_cons (pv 2) pa_nil)))) pa_nil)))
  (pss_cons (ps_aug (i := 2) scToksOf.nd rfl (Or.inl rfl) pe_int ip_add)
  (pss_one ps_continue)))
  pss_nil)
  (pss_cons (ps_set (i := 3) scToksOf.nd rfl (Or.inl rfl) (pe_callH GE hr rfl pass0 (pa_cons (pv 0) (pa_cons (pv 2) pa_nil))))
  (pss_cons (ps_if (PW.pt (pw_or (pt_cmpR op_eq (pv 3) (pv 2) (nomark _)) (pw_or1 (pt_cmpR op_eq (pe_callH GK hr rfl pass0 (pa_cons (pe_slice sl_str (pv 0) (po_some (pv 2)) (po_some (pv 3))) pa_nil)) pe_str (nomark _)))))
  (pss_cons (ps_expr (pe_bm PySem.F.plainAttrs_list PySem.F.slot_list_append PySem.F.type_list_append mt_append (pv 1) (pa_cons (pe_tup (pa_cons pe_str (pa_cons pe_str (pa_cons (pv 2) pa_nil)))) pa_nil)))
  (pss_one (ps_ret (pv 1))))
  pss_nil)
  (pss_cons (ps_expr (pe_bm PySem.F.plainAttrs_list PySem.F.slot_list_append PySem.F.type_list_append mt_append (pv 1) (pa_cons (pe_tup (pa_cons (pe_callH GK hr rfl pass0 (pa_cons (pe_slice sl_str (pv 0) (po_some (pv 2)) (po_some (pv 3))) pa_nil)) (pa_cons (pe_slice sl_str (pv 0) (po_some (pv 2)) (po_some (pv 3))) (pa_cons (pv 2) pa_nil)))) pa_nil)))
  (pss_one (ps_set (i := 2) scToksOf.nd rfl (Or.inl rfl) (pv 3)))))))))
  (pss_cons (ps_expr (pe_bm PySem.F.plainAttrs_list PySem.F.slot_list_append PySem.F.type_list_append mt_append (pv 1) (pa_cons (pe_tup (pa_cons pe_str (pa_cons pe_str (pa_cons (pe_callB call_len_str (by rfl) T.n_len bb_len (pa_cons (pv 0) pa_nil)) pa_nil)))) pa_nil)))
  (pss_one (ps_ret (pv 1))))))), ?_⟩
    refine ⟨(by show 0 ≤ sizeLine; decide), fun L hL => ?_⟩
    refine ⟨fun m σ H' => ∃ (a : Nat) (ts1 ts2 : List TK) (xs : List V) (x3 : Option V), m = z.length - a ∧ ts = ts1 ++ ts2 ∧ Tkz z.cps.toList a ts2 ∧ σ = [some (.str z), some (.ref L), some (.int (a : Nat)), x3] ∧ Same H H' ∧ H' L = some (.lst xs) ∧ Paired (TkAt H') xs ts1, ⟨_, 0, [], ts, [], _, rfl, rfl, ht, rfl, same_new hL, upd_same, .nil⟩, ?_⟩
    rintro m σ H1 ⟨a, ts1, ts2, xs, x3, rfl, ets, hz2, rfl, s1, eL, hp⟩
    have lx : xs.length = ts1.length := Paired.length hp
    have lt1 : ts1.length + ts2.length = ts.length := by rw [ets, List.length_append]
    -- one more token, whatever it is
    have more : ∀ {H2 : Hp} {p : Addr} {tk : TK}, Same H1 H2 → H2 p = none → Paired (TkAt (upd (upd H2 p (.tup [.str tk.1, .str tk.2.1, .int (tk.2.2 : Nat)])) L (.lst (xs ++ [.ref p])))) (xs ++ [.ref p]) (ts1 ++ [tk]) ∧ Same H (upd (upd H2 p (.tup [.str tk.1, .str tk.2.1, .int (tk.2.2 : Nat)])) L (.lst (xs ++ [.ref p]))) := fun {H2 p tk} s2 hp2 => by
      have s3 := same_new (o := .tup [.str tk.1, .str tk.2.1, .int (tk.2.2 : Nat)]) hp2
      have eL2 := s2 _ _ eL
      have pL : p ≠ L := fun z => by rw [z, eL2] at hp2; cases hp2
      refine ⟨Paired.snocP (Paired.mapP hp fun _ _ q => q.same fun b ys e => ?_) ⟨p, rfl, ?_⟩, fun b o e => ?_⟩
      · rw [upd_ne (ne_of (s2 _ _ e) eL2 fun z => by cases z)]
        exact s3 _ _ (s2 _ _ e)
      · rw [upd_ne pL, upd_same]
      · rw [upd_ne (ne_of_none e hL)]
        exact s3 _ _ (s2 _ _ (s1 _ _ e))
    refine ⟨_, rfl, _, rfl, z, rfl, hz', _, _, rfl, rfl, _, rfl, ite2 (fun h1 => ?_) (fun h1 => ?_)⟩
    · have h1 : a < z.cps.toList.length := by have := of_decide_eq_true h1; omega
      obtain ⟨c, hc⟩ : ∃ c, z.cps.toList[a]? = some c := ⟨_, List.getElem?_eq_getElem h1⟩
      have atc : atI z.cps.toList ((a : Nat) : Int) = some c := atI_nat hc
      refine ⟨fun σ' H' => ∃ (a' : Nat) (ts1 ts2 : List TK) (xs : List V) (x3 : Option V), a < a' ∧ a' ≤ z.cps.toList.length ∧ ts = ts1 ++ ts2 ∧ Tkz z.cps.toList a' ts2 ∧ σ' = [some (.str z), some (.ref L), some (.int (a' : Nat)), x3] ∧ Same H H' ∧ H' L = some (.lst xs) ∧ Paired (TkAt H') xs ts1, fun σ' H' ⟨a', u1, u2, us, ux, q1, q2, q3⟩ => ⟨z.length - a', by omega, a', u1, u2, us, ux, rfl, q3⟩, ?_⟩
      cases hz2 with
      | fin h => omega
      | @gap _ c' _ h hcc r =>
        rw [hc] at h
        cases h
        refine ⟨_, rfl, _, rfl, z, _, c, rfl, rfl, hz', atc, rfl, _, rfl, ?_⟩
        have le := tkz_le r
        rw [e32, eq_sign]
        refine ite2 (fun q => iteS rfl ?_) (fun q => ?_)
        · exact ⟨_, rfl, _, _, rfl, rfl, a + 1, ts1, ts2, xs, _, by omega, le, ets, r, rfl, s1, eL, hp⟩
        · have c10 : c = 10 := hcc.resolve_left fun e => q (decide_eq_true e)
          refine ⟨_, rfl, _, rfl, z, _, c, rfl, rfl, hz', atc, rfl, _, rfl, iteS (by rw [e10, eq_sign, decide_eq_true c10]) ?_⟩
          exact ⟨_, rfl, _, _, rfl, rfl, a + 1, ts1, ts2, xs, _, by omega, le, ets, r, rfl, s1, eL, hp⟩
      | @sign _ c' ts' h hcc r =>
        rw [hc] at h
        cases h
        obtain ⟨n1, n2⟩ := sig_gap c hcc
        refine ⟨_, rfl, _, rfl, z, _, c, rfl, rfl, hz', atc, rfl, _, rfl, iteE (by rw [e32, eq_sign, decide_eq_false n1]) ?_⟩
        refine ⟨_, rfl, _, rfl, z, _, c, rfl, rfl, hz', atc, rfl, _, rfl, iteE (by rw [e10, eq_sign, decide_eq_false n2]) ?_⟩
        refine ⟨_, rfl, _, rfl, z, _, c, rfl, rfl, hz', atc, c, _, rfl, rfl, _, rfl, iteS (decide_eq_true hcc) ?_⟩
        refine ⟨_, rfl, .inl ⟨rfl, _, SqL.of eL⟩, _, rfl, _, rfl, z, _, c, rfl, rfl, hz', atc, _, rfl, (by show 3 ≤ sizeLine; decide), fun p hp2 => ?_⟩
        obtain ⟨m1, m2⟩ := more (tk := ("mark", ⟨#[c]⟩, a)) (Same.refl _) hp2
        rw [List.length_cons] at lt1
        refine ⟨L, xs, _, rfl, rfl, same_new hp2 _ _ eL, Nat.lt_of_le_of_lt (show xs.length ≤ 1000001 by omega) (by decide), ?_⟩
        exact ⟨_, rfl, _, _, rfl, rfl, a + 1, ts1 ++ [(("mark", ⟨#[c]⟩, a) : TK)], ts', xs ++ [.ref p], _, by omega, tkz_le r, by rw [ets, List.append_assoc]; rfl, r, rfl, m2, upd_same, m1⟩
      | @word _ j c' ts' h hg run lt kb r =>
        rw [hc] at h
        cases h
        obtain ⟨n1, n2, n3⟩ := hg
        refine ⟨_, rfl, _, rfl, z, _, c, rfl, rfl, hz', atc, rfl, _, rfl, iteE (by rw [e32, eq_sign, decide_eq_false n1]) ?_⟩
        refine ⟨_, rfl, _, rfl, z, _, c, rfl, rfl, hz', atc, rfl, _, rfl, iteE (by rw [e10, eq_sign, decide_eq_false n2]) ?_⟩
        refine ⟨_, rfl, _, rfl, z, _, c, rfl, rfl, hz', atc, c, _, rfl, rfl, _, rfl, iteE (decide_eq_false n3) ?_⟩
        have j2 := run.2.1
        have cw : cutS z (some ((a : Nat) : Int)) (some ((j : Nat) : Int)) = cutT z.cps.toList a j := cutS_nat (by omega) j2
        have cl : (cutT z.cps.toList a j).cps.toList.length = j - a := by
          unfold cutT
          rw [List.toList_toArray, List.length_take, List.length_drop]
          omega
        have cne : (cutT z.cps.toList a j).cps.toList ≠ [] := fun e => by rw [e] at cl; simp at cl; omega
        have cle : (cutT z.cps.toList a j).length ≤ 1000000 := by
          have : (cutT z.cps.toList a j).length = (cutT z.cps.toList a j).cps.toList.length := Array.length_toList.symm
          omega
        refine ⟨_, rfl, _, rfl, z, a, j, rfl, hz, run, ?_⟩
        refine ⟨_, rfl, _, rfl, rfl, _, rfl, iteE (decide_eq_false fun q => by injection q with q; omega) ?_⟩
        refine ⟨_, rfl, _, rfl, _, rfl, _, rfl, _, rfl, z, rfl, hz', ?_⟩
        rw [cw]
        refine ⟨_, rfl, cne, cle, rfl, _, rfl, iteE (decide_eq_false fun q => kb (by injection q)) ?_⟩
        refine ⟨_, rfl, .inl ⟨rfl, _, SqL.of eL⟩, _, rfl, _, rfl, _, rfl, _, rfl, _, rfl, z, rfl, hz', ?_⟩
        rw [cw]
        refine ⟨_, rfl, cne, cle, ?_⟩
        refine ⟨_, rfl, _, rfl, _, rfl, _, rfl, _, rfl, z, rfl, hz', ?_⟩
        rw [cw]
        refine ⟨_, rfl, (by show 3 ≤ sizeLine; decide), fun p hp2 => ?_⟩
        obtain ⟨m1, m2⟩ := more (tk := (kindOf (cutT z.cps.toList a j), cutT z.cps.toList a j, a)) (Same.refl _) hp2
        rw [List.length_cons] at lt1
        refine ⟨L, xs, _, rfl, rfl, same_new hp2 _ _ eL, Nat.lt_of_le_of_lt (show xs.length ≤ 1000001 by omega) (by decide), ?_⟩
        exact ⟨_, rfl, j, ts1 ++ [(kindOf (cutT z.cps.toList a j), cutT z.cps.toList a j, a)], ts', xs ++ [.ref p], _, lt, tkz_le r, by rw [ets, List.append_assoc]; rfl, r, rfl, m2, upd_same, m1⟩
      | @bad _ j c' h hg run b =>
        rw [hc] at h
        cases h
        obtain ⟨n1, n2, n3⟩ := hg
        have fin : ∀ {p : Addr}, H1 p = none → Q (.ref L) (upd (upd H1 p (.tup [.str "bad", .str "", .int (a : Nat)])) L (.lst (xs ++ [.ref p]))) := fun {p} hp2 => by
          obtain ⟨m1, m2⟩ := more (tk := ("bad", "", a)) (Same.refl _) hp2
          exact k L _ _ m2 hL upd_same (by rw [ets]; exact m1)
        have sml : xs.length < sizeLine := Nat.lt_of_le_of_lt (show xs.length ≤ 1000001 by omega) (by decide)
        refine ⟨_, rfl, _, rfl, z, _, c, rfl, rfl, hz', atc, rfl, _, rfl, iteE (by rw [e32, eq_sign, decide_eq_false n1]) ?_⟩
        refine ⟨_, rfl, _, rfl, z, _, c, rfl, rfl, hz', atc, rfl, _, rfl, iteE (by rw [e10, eq_sign, decide_eq_false n2]) ?_⟩
        refine ⟨_, rfl, _, rfl, z, _, c, rfl, rfl, hz', atc, c, _, rfl, rfl, _, rfl, iteE (decide_eq_false n3) ?_⟩
        have j2 := run.2.1
        refine ⟨_, rfl, _, rfl, z, a, j, rfl, hz, run, ?_⟩
        by_cases ja : j = a
        · refine ⟨_, rfl, _, rfl, rfl, _, rfl, iteS (decide_eq_true (by rw [ja])) (iteS rfl ?_)⟩
          exact ⟨_, rfl, .inl ⟨rfl, _, SqL.of eL⟩, _, rfl, (by show 3 ≤ sizeLine; decide), fun p hp2 => ⟨L, xs, _, rfl, rfl, same_new hp2 _ _ eL, sml, _, rfl, fin hp2⟩⟩
        · have kb := b.resolve_left ja
          have r1 := run.1
          have cw : cutS z (some ((a : Nat) : Int)) (some ((j : Nat) : Int)) = cutT z.cps.toList a j := cutS_nat (by omega) j2
          have cl : (cutT z.cps.toList a j).cps.toList.length = j - a := by
            unfold cutT
            rw [List.toList_toArray, List.length_take, List.length_drop]
            omega
          have cne : (cutT z.cps.toList a j).cps.toList ≠ [] := fun e => by rw [e] at cl; simp at cl; omega
          have cle : (cutT z.cps.toList a j).length ≤ 1000000 := by
            have : (cutT z.cps.toList a j).length = (cutT z.cps.toList a j).cps.toList.length := Array.length_toList.symm
            omega
          refine ⟨_, rfl, _, rfl, rfl, _, rfl, iteE (decide_eq_false fun q => by injection q with q; omega) ?_⟩
          refine ⟨_, rfl, _, rfl, _, rfl, _, rfl, _, rfl, z, rfl, hz', ?_⟩
          rw [cw]
          refine ⟨_, rfl, cne, cle, rfl, _, rfl, iteS (decide_eq_true (by rw [kb])) ?_⟩
          exact ⟨_, rfl, .inl ⟨rfl, _, SqL.of eL⟩, _, rfl, (by show 3 ≤ sizeLine; decide), fun p hp2 => ⟨L, xs, _, rfl, rfl, same_new hp2 _ _ eL, sml, _, rfl, fin hp2⟩⟩
    · have h1 : ¬ a < z.length := fun q => h1 (decide_eq_true (by omega))
      cases hz2 with
      | fin h =>
        refine ⟨_, rfl, .inl ⟨rfl, _, SqL.of eL⟩, _, rfl, z, rfl, hz', (by show 3 ≤ sizeLine; decide), fun p hp2 => ?_⟩
        obtain ⟨m1, m2⟩ := more (tk := ("end", "", z.length)) (Same.refl _) hp2
        have ea : a = z.length := by omega
        exact ⟨L, xs, _, rfl, rfl, same_new hp2 _ _ eL, Nat.lt_of_le_of_lt (show xs.length ≤ 1000001 by omega) (by decide), _, rfl, k L _ _ m2 hL upd_same (by rw [ets, ea]; exact m1)⟩
      | gap h _ _ => exact absurd (List.getElem?_eq_some_iff.mp h).1 (by omega)
      | sign h _ _ => exact absurd (List.getElem?_eq_some_iff.mp h).1 (by omega)
      | word h _ _ _ _ _ => exact absurd (List.getElem?_eq_some_iff.mp h).1 (by omega)
      | bad h _ _ _ => exact absurd (List.getElem?_eq_some_iff.mp h).1 (by omega)
end


/-! ### the class Reader -/
abbrev sRIni : Stmt := inClass (topS 16) 0
abbrev NRIni : List Str := ["self", "text"]
abbrev PRIni : List Str := ["self", "text"]
theorem scRIni : FnScope NRIni PRIni (defScope sRIni) := ⟨rfl, rfl, rfl, by decide +kernel, rfl, by decide +kernel, by decide +kernel⟩
abbrev sRCur : Stmt := inClass (topS 16) 1
abbrev NRCur : List Str := ["self"]
abbrev PRCur : List Str := ["self"]
theorem scRCur : FnScope NRCur PRCur (defScope sRCur) := ⟨rfl, rfl, rfl, by decide +kernel, rfl, by decide +kernel, by decide +kernel⟩
abbrev sRNext : Stmt := inClass (topS 16) 2
abbrev NRNext : List Str := ["self", "word"]
abbrev PRNext : List Str := ["self", "word"]
theorem scRNext : FnScope NRNext PRNext (defScope sRNext) := ⟨rfl, rfl, rfl, by decide +kernel, rfl, by decide +kernel, by decide +kernel⟩
abbrev sRAcc : Stmt := inClass (topS 16) 3
abbrev NRAcc : List Str := ["self", "word"]
abbrev PRAcc : List Str := ["self", "word"]
theorem scRAcc : FnScope NRAcc PRAcc (defScope sRAcc) := ⟨rfl, rfl, rfl, by decide +kernel, rfl, by decide +kernel, by decide +kernel⟩
abbrev sRName : Stmt := inClass (topS 16) 5
abbrev NRName : List Str := ["self", "token"]
abbrev PRName : List Str := ["self"]
theorem scRName : FnScope NRName PRName (defScope sRName) := ⟨rfl, rfl, rfl, by decide +kernel, rfl, by decide +kernel, by decide +kernel⟩
abbrev sRRow : Stmt := inClass (topS 16) 7
abbrev NRRow : List Str := ["self", "names"]
abbrev PRRow : List Str := ["self"]
theorem scRRow : FnScope NRRow PRRow (defScope sRRow) := ⟨rfl, rfl, rfl, by decide +kernel, rfl, by decide +kernel, by decide +kernel⟩
abbrev sRTerm : Stmt := inClass (topS 16) 8
abbrev NRTerm : List Str := ["self", "token"]
abbrev PRTerm : List Str := ["self"]
theorem scRTerm : FnScope NRTerm PRTerm (defScope sRTerm) := ⟨rfl, rfl, rfl, by decide +kernel, rfl, by decide +kernel, by decide +kernel⟩
def rdF (L : Addr) (i d : Nat) : List (Str × V) := [("tokens", .ref L), ("index_of_token", .int (i : Nat)), ("depth", .int (d : Nat))]
structure TxR (K : PySem.W.Frag) (C : Addr) : Prop where
  cl : Cls K C
  nT : NoAttr K C "tokens"
  nI : NoAttr K C "index_of_token"
  nD : NoAttr K C "depth"
def RdAt (C : Addr) (H : Hp) (S L : Addr) (i d : Nat) (ts : List TK) : Prop := ∃ (dx : Addr) (xs : List V), H S = some (.ins C dx (rdF L i d)) ∧ H L = some (.lst xs) ∧ Paired (TkAt H) xs ts
/-- all but S stays -/
def Bt (S : Addr) (H H' : Hp) : Prop := ∀ b o, H b = some o → b ≠ S → H' b = some o
theorem Bt.refl {S : Addr} {H : Hp} : Bt S H H := fun _ _ e _ => e
theorem Bt.trans {S : Addr} {H H1 H2 : Hp} (a : Bt S H H1) (b : Bt S H1 H2) : Bt S H H2 := fun c o e h => b c o (a c o e h) h
theorem Bt.of {S : Addr} {H H' : Hp} (s : Same H H') : Bt S H H' := fun b o e _ => s b o e
theorem RdAt.same {C : Addr} {H H' : Hp} {S L : Addr} {i d : Nat} {ts : List TK} (h : RdAt C H S L i d ts) (s : Same H H') : RdAt C H' S L i d ts := let ⟨dx, xs, e1, e2, e3⟩ := h; ⟨dx, xs, s _ _ e1, s _ _ e2, Paired.mapP e3 fun _ _ q => q.same fun _ _ e => s _ _ e⟩
theorem RdAt.step {C : Addr} {H : Hp} {S L dx : Addr} {i j d : Nat} {ts : List TK} (h : RdAt C H S L i d ts) : RdAt C (upd H S (.ins C dx (rdF L j d))) S L j d ts := by
  obtain ⟨dy, xs, e1, e2, e3⟩ := h
  refine ⟨dx, xs, upd_same, by rw [upd_ne (ne_of e2 e1 fun z => by cases z)]; exact e2, Paired.mapP e3 fun _ _ q => q.same fun b ys e => ?_⟩
  rw [upd_ne (ne_of e e1 fun z => by cases z)]
  exact e
theorem bt_upd {H : Hp} {S : Addr} {o : HO} : Bt S H (upd H S o) := fun b x e h => by rw [upd_ne h]; exact e
theorem ti_ne : ¬ (("tokens" : Str) = "index_of_token") := by decide +kernel
theorem td_ne : ¬ (("tokens" : Str) = "depth") := by decide +kernel
theorem id_ne : ¬ (("index_of_token" : Str) = "depth") := by decide +kernel
theorem putF_ix (L : Addr) (i j d : Nat) : putF "index_of_token" (.int (j : Nat)) (rdF L i d) = rdF L j d := by
  show (if ("tokens" : Str) = "index_of_token" then _ else (("tokens" : Str), V.ref L) :: (if ("index_of_token" : Str) = "index_of_token" then _ else _)) = _
  rw [if_neg ti_ne, if_pos rfl]
  rfl
theorem putF_rd (L : Addr) : putF "depth" (.int 0) (putF "index_of_token" (.int 0) (putF "tokens" (.ref L) [])) = rdF L 0 0 := by
  show putF "depth" (.int 0) (if ("tokens" : Str) = "index_of_token" then _ else (("tokens" : Str), V.ref L) :: [(("index_of_token" : Str), V.int 0)]) = _
  rw [if_neg ti_ne]
  show (if ("tokens" : Str) = "depth" then _ else (("tokens" : Str), V.ref L) :: (if ("index_of_token" : Str) = "depth" then _ else (("index_of_token" : Str), V.int 0) :: [(("depth" : Str), V.int 0)])) = _
  rw [if_neg td_ne, if_neg id_ne]
  rfl
section
variable {P : Program} {w : World} {K : PySem.W.Frag} {mg : Str → Option Value} {base : Heap} {kw C : Addr}
def spRIni (C : Addr) : Sp := fun vs H Q _ => ∃ (S dx : Addr) (z : Str) (ts : List TK), vs = [.ref S, .str z] ∧ H S = some (.ins C dx []) ∧ z.length ≤ 1000000 ∧ Tkz z.cps.toList 0 ts ∧ ts.length ≤ 1000001 ∧ ∀ (L : Addr) (H' : Hp), Bt S H H' → RdAt C H' S L 0 0 ts → Q .non H'
theorem ok_RIni {f : Addr} {fd : FuncData} (F : Fun K "__init__" "Reader.__init__" sRIni f fd) (TR : TxR K C) (GT : Has P w K mg base CX0 2 "tokens_of" PToksOf spToks) : FnOk P w K mg base CX0 3 f fd PRIni (spRIni C) := by
  refine F.ok scRIni (fun vs H Q E h => ?_) (fun cdv A outer s H vs Q E hr h => ?_)
  · obtain ⟨S, dx, z, ts, rfl, _⟩ := h
    rfl
  · obtain ⟨S, dx, z, ts, rfl, eS, hz, ht, lt, k⟩ := h
    refine ⟨_, (pss_cons (ps_fld (pv 0) (pe_callH GT hr rfl pass0 (pa_cons (pv 1) pa_nil)) rfl)
  (pss_cons (ps_fld (pv 0) pe_int rfl)
  (pss_one (ps_fld (pv 0) pe_int rfl)))), ?_⟩
    refine ⟨_, rfl, z, ts, rfl, hz, ht, lt, fun L xs H1 s1 fL eL hp => ?_⟩
    have eS1 := s1 _ _ eS
    have LS : L ≠ S := ne_of eL eS1 fun z => by cases z
    refine ⟨_, rfl, S, C, dx, [], rfl, eS1, TR.cl, TR.nT, (by show 0 < 1000; decide), ?_⟩
    refine ⟨_, rfl, S, C, dx, _, rfl, upd_same, TR.cl, TR.nI, (by show 1 < 1000; decide), ?_⟩
    refine ⟨_, rfl, S, C, dx, _, rfl, upd_same, TR.cl, TR.nD, (by show 2 < 1000; decide), ?_⟩
    refine k L _ (fun b o e hb => by rw [upd_ne hb, upd_ne hb, upd_ne hb]; exact s1 _ _ e) ⟨dx, xs, by rw [upd_same, putF_rd], by rw [upd_ne LS, upd_ne LS, upd_ne LS]; exact eL, Paired.mapP hp fun _ _ q => q.same fun b ys e => ?_⟩
    have bS : b ≠ S := ne_of e eS1 fun z => by cases z
    rw [upd_ne bS, upd_ne bS, upd_ne bS]
    exact e
def spCurr (C : Addr) : Sp := fun vs H Q _ => ∃ (S L : Addr) (i d : Nat) (ts : List TK) (tk : TK), vs = [.ref S] ∧ RdAt C H S L i d ts ∧ ts[i]? = some tk ∧ ∀ p, H p = some (.tup [.str tk.1, .str tk.2.1, .int (tk.2.2 : Nat)]) → Q (.ref p) H
theorem ok_RCur {f : Addr} {fd : FuncData} (F : Fun K "current" "Reader.current" sRCur f fd) (TR : TxR K C) : FnOk P w K mg base CX0 1 f fd PRCur (spCurr C) := by
  refine F.ok scRCur (fun vs H Q E h => ?_) (fun cdv A outer s H vs Q E hr h => ?_)
  · obtain ⟨S, L, i, d, ts, tk, rfl, _⟩ := h
    rfl
  · obtain ⟨S, L, i, d, ts, tk, rfl, ⟨dx, xs, e1, e2, e3⟩, ht, k⟩ := h
    refine ⟨_, (pss_one (ps_ret (pe_ix (r := rIxL K) ix_list (pe_fld (pv 0) rfl) (pe_fld (pv 0) rfl) (fun _ _ => rfl)))), ?_⟩
    have hi : i < xs.length := by rw [Paired.length e3]; exact (List.getElem?_eq_some_iff.mp ht).1
    obtain ⟨tk', h1, p, h2, h3⟩ := Paired.at e3 (List.getElem?_eq_getElem hi)
    rw [ht] at h1
    cases h1
    refine ⟨_, rfl, S, C, dx, _, _, rfl, e1, TR.cl, TR.nT, rfl, _, rfl, S, C, dx, _, _, rfl, e1, TR.cl, TR.nI, rfl, L, _, _, _, rfl, rfl, SqL.of e2, atI_nat (by rw [List.getElem?_eq_getElem hi, h2]), k p h3⟩
def isMark (tk : TK) (wd : Str) : Bool := decide (tk.1 = "mark") && decide (tk.2.1 = wd)
def spNext (C : Addr) : Sp := fun vs H Q _ => ∃ (S L : Addr) (i d : Nat) (ts : List TK) (tk : TK) (wd : Str), vs = [.ref S, .str wd] ∧ RdAt C H S L i d ts ∧ ts[i]? = some tk ∧ Q (.bl (isMark tk wd)) H
theorem dec_str (a b : Str) : decide (V.str a = V.str b) = decide (a = b) := decide_eq_decide.mpr ⟨fun h => by injection h, fun h => by rw [h]⟩
theorem ok_RNext {f : Addr} {fd : FuncData} (F : Fun K "is_next" "Reader.is_next" sRNext f fd) (TR : TxR K C) (MC : HasM P w K mg base CX0 1 C "current" PRCur (spCurr C)) : FnOk P w K mg base CX0 2 f fd PRNext (spNext C) := by
  refine F.ok scRNext (fun vs H Q E h => ?_) (fun cdv A outer s H vs Q E hr h => ?_)
  · obtain ⟨S, L, i, d, ts, tk, wd, rfl, _⟩ := h
    rfl
  · obtain ⟨S, L, i, d, ts, tk, wd, rfl, ra, ht, k⟩ := h
    obtain ⟨dx, xs, e1, _⟩ := id ra
    refine ⟨_, (pss_one (ps_ret (pe_and (pe_cmpR op_eq (pe_ix (r := rIxT K) ix_tup (pe_methH0 (pv 0) TR.cl MC hr pass0) pe_int (fun _ _ => rfl)) pe_str (nomark _)) (pe_one (pe_cmpR op_eq (pe_ix (r := rIxT K) ix_tup (pe_methH0 (pv 0) TR.cl MC hr pass0) pe_int (fun _ _ => rfl)) (pv 1) (nomark _)))))), ?_⟩
    refine ⟨_, rfl, S, dx, _, rfl, e1, rfl, S, L, i, d, ts, tk, rfl, ra, ht, fun p hp => ⟨p, _, _, _, rfl, rfl, SqT.of hp, rfl, rfl, decide (tk.1 = "mark"), by rw [dec_str], ?_⟩⟩
    unfold isMark at k
    by_cases e : tk.1 = "mark"
    · refine iteS (decide_eq_true e) ?_
      refine ⟨_, rfl, S, dx, _, rfl, e1, rfl, S, L, i, d, ts, tk, rfl, ra, ht, fun p hp => ⟨p, _, _, _, rfl, rfl, SqT.of hp, rfl, _, rfl, rfl, ?_⟩⟩
      rw [decide_eq_true e, Bool.true_and] at k
      rw [dec_str]
      exact k
    · refine iteE (decide_eq_false e) ?_
      rw [decide_eq_false e, Bool.false_and] at k
      exact k
def spAcc (C : Addr) : Sp := fun vs H Q _ => ∃ (S L : Addr) (i d : Nat) (ts : List TK) (tk : TK) (wd : Str), vs = [.ref S, .str wd] ∧ RdAt C H S L i d ts ∧ ts[i]? = some tk ∧
  ((isMark tk wd = false ∧ Q (.bl false) H) ∨ (isMark tk wd = true ∧ ∀ H', Bt S H H' → RdAt C H' S L (i + 1) d ts → Q (.bl true) H'))
theorem ok_RAcc {f : Addr} {fd : FuncData} (F : Fun K "accept" "Reader.accept" sRAcc f fd) (TR : TxR K C) (MN : HasM P w K mg base CX0 2 C "is_next" PRNext (spNext C)) : FnOk P w K mg base CX0 3 f fd PRAcc (spAcc C) := by
  refine F.ok scRAcc (fun vs H Q E h => ?_) (fun cdv A outer s H vs Q E hr h => ?_)
  · obtain ⟨S, L, i, d, ts, tk, wd, rfl, _⟩ := h
    rfl
  · obtain ⟨S, L, i, d, ts, tk, wd, rfl, ra, ht, h⟩ := h
    obtain ⟨dx, xs, e1, _⟩ := id ra
    refine ⟨_, (pss_cons (ps_if (pt_not (pt_val (pe_methH (pv 0) TR.cl MN hr pass0 (pa_cons (pv 1) pa_nil))))
  (pss_one (ps_ret pe_bl))
  pss_nil)
  (pss_cons (ps_fldaug (pv 0) pe_int in_add)
  (pss_one (ps_ret pe_bl)))), ?_⟩
    refine ⟨_, rfl, S, dx, _, rfl, e1, rfl, _, rfl, S, L, i, d, ts, tk, wd, rfl, ra, ht, isMark tk wd, rfl, ?_⟩
    rcases h with ⟨hm, k⟩ | ⟨hm, k⟩
    · refine iteS (by rw [hm]; rfl) ?_
      exact k
    · refine iteE (by rw [hm]; rfl) ?_
      refine ⟨_, rfl, S, C, dx, _, _, rfl, e1, TR.cl, TR.nI, rfl, _, _, rfl, rfl, dx, _, e1, (by show 3 < 1000; decide), ?_⟩
      have e : putF "index_of_token" (.int (((i : Nat) : Int) + 1)) (rdF L i d) = rdF L (i + 1) d := putF_ix L i (i + 1) d
      rw [e]
      exact k _ bt_upd ra.step
def spRName (C : Addr) : Sp := fun vs H Q _ => ∃ (S L : Addr) (i d : Nat) (ts : List TK) (tk : TK), vs = [.ref S] ∧ RdAt C H S L i d ts ∧ ts[i]? = some tk ∧ tk.1 = "name" ∧ ∀ H', Bt S H H' → RdAt C H' S L (i + 1) d ts → Q (.str tk.2.1) H'
theorem ok_RName {f : Addr} {fd : FuncData} (F : Fun K "read_name" "Reader.read_name" sRName f fd) (TR : TxR K C) (MC : HasM P w K mg base CX0 1 C "current" PRCur (spCurr C)) : FnOk P w K mg base CX0 2 f fd PRName (spRName C) := by
  refine F.ok scRName (fun vs H Q E h => ?_) (fun cdv A outer s H vs Q E hr h => ?_)
  · obtain ⟨S, L, i, d, ts, tk, rfl, _⟩ := h
    rfl
  · obtain ⟨S, L, i, d, ts, tk, rfl, ra, ht, hn, k⟩ := h
    obtain ⟨dx, xs, e1, _⟩ := id ra
    refine ⟨_, (pss_cons (ps_set (i := 1) scRName.nd rfl (Or.inl rfl) (pe_methH0 (pv 0) TR.cl MC hr pass0))
  (pss_cons (ps_if (pt_cmpR op_ne (pe_ix (r := rIxT K) ix_tup (pv 1) pe_int (fun _ _ => rfl)) pe_str (nomark _))
  (pss_one ps_never)
  pss_nil)
  (pss_cons (ps_fldaug (pv 0) pe_int in_add)
  (pss_one (ps_ret (pe_ix (r := rIxT K) ix_tup (pv 1) pe_int (fun _ _ => rfl))))))), ?_⟩
    refine ⟨_, rfl, S, dx, _, rfl, e1, rfl, S, L, i, d, ts, tk, rfl, ra, ht, fun p hp => ?_⟩
    refine ⟨_, rfl, p, _, _, _, rfl, rfl, SqT.of hp, rfl, rfl, _, rfl, iteE (by rw [dec_str, decide_eq_true hn]; rfl) ?_⟩
    refine ⟨_, rfl, S, C, dx, _, _, rfl, e1, TR.cl, TR.nI, rfl, _, _, rfl, rfl, dx, _, e1, (by show 3 < 1000; decide), ?_⟩
    have e : putF "index_of_token" (.int (((i : Nat) : Int) + 1)) (rdF L i d) = rdF L (i + 1) d := putF_ix L i (i + 1) d
    rw [e]
    exact ⟨_, rfl, p, _, _, _, rfl, rfl, SqT.of (by rw [upd_ne (ne_of hp e1 fun z => by cases z)]; exact hp), rfl, k _ bt_upd ra.step⟩
end


/-! ### errors of own classes over any of the built-in ones: made with their one field -/
namespace XC
open PySem.W PySem.Calls PyProof.Rows
/-- which built-in makes the class: the tail of its mro, its maker -/
structure Bas (bmB : List Value) (newId : String) : Prop where
  ex : ∃ (B initId : String) (bm0 : List Value), ExcBaseFacts B newId initId bm0 ∧ bmB.contains (.type B) = true
  noA : bmB.contains (.type "AttributeError") = false
  noN : bmB.contains (.type "NameError") = false
  ob : bmB.contains (.type "object") = true
  pass : ∀ self, PySem.refuseLoop self "__setattr__" bmB = pure ()
abbrev tlV : List Value := [.type "ValueError", .type "Exception", .type "BaseException", .type "object"]
abbrev tlR : List Value := [.type "RuntimeError", .type "Exception", .type "BaseException", .type "object"]
abbrev tlK : List Value := [.type "KeyError", .type "LookupError", .type "Exception", .type "BaseException", .type "object"]
theorem basV : Bas tlV "ValueError.__new__" := ⟨⟨_, _, _, F.excBase_ValueError, by decide +kernel⟩, by decide +kernel, by decide +kernel, by decide +kernel, fun _ => by kernel_rfl⟩
theorem basR : Bas tlR "RuntimeError.__new__" := ⟨⟨_, _, _, F.excBase_RuntimeError, by decide +kernel⟩, by decide +kernel, by decide +kernel, by decide +kernel, fun _ => by kernel_rfl⟩
theorem basK : Bas tlK "LookupError.__new__" := ⟨⟨_, _, _, F.excBase_LookupError, by decide +kernel⟩, by decide +kernel, by decide +kernel, by decide +kernel, fun _ => by kernel_rfl⟩

abbrev xObj (C t : Addr) : Obj := { cls := .ref C, data := .fields #[.ref t, .none, .none, .none, .bool false, .none] }
section
variable {prog : Program} {w : World} {A : Around} {R : Result → Shared → Prop} {h : Heap} {g : Array GenState} {d : Drawn} {t : Nat} {os : OsState}
variable {nm q : Str} {C N : Addr} {bs bm bm0 : List Value} {hdct : Bool} {sn : List Str} {sub : List Value} {ab : Bool} {col : Option Bool} {dd : Option Addr} {k0 k1 k2 k3 k5 : Option Value} {B newId initId : String}
/-- C(..): the maker, then C's own __init__ -/
theorem call_x (F : ExcBaseFacts B newId initId bm0) (hB : bm.contains (.type B) = true) (hA : bm.contains (.type "AttributeError") = false) (hN : bm.contains (.type "NameError") = false) {us : List Value} {fI : Addr}
    (hC : h.get? C = some (excClassObj nm q C N bs bm hdct sn sub ab col dd k0 k1 k2 k3 k5 newId)) (hi : Looks (model prog w) h (typeLookup (.ref C) "__init__") (some (.ref fI)))
    (hb : ∀ self, Looks (model prog w) h (bindSpecial (.ref fI) self) (.ref fI, [self])) (hz : us.length ≤ sizeLine)
    (go : codeAny (model prog w) (A.under (.builtin "type.__call__" ⟨.ref C :: us, []⟩)) (.call (.ref fI) ⟨.ref (h.objs.size + 1) :: us, []⟩) (InitBack (h.objs.size + 1) R) ⟨(h.push (kdv_tup us)).push (xObj C h.objs.size), g, d, t, os⟩) :
    codeAny (model prog w) A (.call (.ref C) ⟨us, []⟩) R ⟨h, g, d, t, os⟩ := by
  have cB : (Value.ref C :: bm).contains (.type B) = true := by rw [List.contains_cons, hB, Bool.or_true]
  have cA : (Value.ref C :: bm).contains (.type "AttributeError") = false := by rw [List.contains_cons, hA]; rfl
  have cN : (Value.ref C :: bm).contains (.type "NameError") = false := by rw [List.contains_cons, hN]; rfl
  have lk := tc_lookup; have bd := tc_bind (.ref C); have st := F.noStar; have en := F.ends
  have ty : (⟨h, g, d, t, os⟩ : Shared).TypeIs (.ref C) "type" := ⟨_, hC, rfl⟩
  -- what the maker is asked
  have ask : ∀ {A' : Around} {Q : Unit → Shared → Prop} {E : Value → Shared → Prop}, Q () ⟨h, g, d, t, os⟩ → wpAny (model prog w) A' (checkBuiltinCall newId ⟨.ref C :: us, []⟩) Q E ⟨h, g, d, t, os⟩ := fun {A' Q E} y => by
    simp only [checkBuiltinCall, F.newSplit, F.newKind, F.newRow]
    repeat (first | refine wpAny_loadPart_at hC ?_ | (refine wpAny_isSubtype_exc hC ?_; rw [cB]) | refine wpAny_madeBy_exc hC ?_ | refine wpAny_staticBase_exc hC ?_ | simp only [bne_self_eq_false, Bool.false_eq_true, if_false] | wp_step)
    exact y
  -- the maker
  have make : ∀ {A' : Around} {S : Result → Shared → Prop}, S (.ok (.ret (.ref (h.objs.size + 1)))) ⟨(h.push (kdv_tup us)).push (xObj C h.objs.size), g, d, t, os⟩ → codeAny (model prog w) A' (.builtin newId ⟨.ref C :: us, []⟩) S ⟨h, g, d, t, os⟩ := fun {A' S} y => by
    refine PySem.codeAny_builtinAt F.entry ?_; unfold Builtin.«BaseException.__new__»
    refine PySem.wpAt_bind ?_; show PySem.wpAt _ _ _ (stack >>= _) _ _ _
    refine PySem.wpAt_bind (PySem.wpAt_stack fun p below => PySem.wpAt_of_wpAny ?_); wp_walk
    refine PySem.wpAt_of_wpAny ?_; rw [F.owner]
    repeat (first | with_reducible refine wpAny_madeHere_exc F.canon hC ?_ | with_reducible refine wpAny_loadPart_at hC ?_ | (with_reducible refine wpAny_isSubtype_exc hC ?_; first | rw [cB] | rw [cA] | rw [cN]) | wp_step)
    show S _ _; rw [Heap.size_push]; exact y
  have k : ∀ b o, h.get? b = some o → ((h.push (kdv_tup us)).push (xObj C h.objs.size)).get? b = some o := fun b o e => Heap.get?_push_of_some _ (Heap.get?_push_of_some _ e)
  have hC1 := k _ _ hC
  have hx : ((h.push (kdv_tup us)).push (xObj C h.objs.size)).get? (h.objs.size + 1) = some (xObj C h.objs.size) := by heap_get
  have cC : (Value.ref C :: bm).contains (.ref C) = true := by simp
  have i1 := hi.keeps k; have b1 := (hb (.ref (h.objs.size + 1))).keeps k
  refine codeAny_of_tree ?_; show wpAny _ _ (callAny (.ref C) _) _ _ _
  repeat (any_goals (first | assumption | with_reducible refine wpAny_loadPart_at hC ?_ | wp_step))
  refine ⟨rfl, codeAny_call_builtin_at (Code.quiet_builtin _ (by decide +kernel)) entry_typeCall (wpAny_check_type_call_sub hC ?_)⟩
  repeat (first | with_reducible refine wpAny_loadPart_at hC ?_ | with_reducible refine wpAny_madeBy_exc hC ?_ | wp_step)
  refine codeAny_call_builtin_code (Code.quiet_builtin _ F.quiet) (ask (make ?_))
  show wpAny _ _ _ _ _ _
  unfold isInstance
  repeat (first | with_reducible refine wpAny_loadPart_at hx ?_ | (with_reducible refine wpAny_isSubtype_exc hC1 ?_; rw [cC]) | wp_step)
  show wpAny _ _ (typeLookup (.ref C) _) _ _ _
  refine i1.at (wpAny_holding (wpAny_bind (b1.at (wpAny_bind (wpAny_call (codeAny_mono go fun r s' z => ?_))))))
  rcases r with e | (v | _ | _ | _) <;> first | exact z | exact z.elim | skip
  obtain ⟨rfl, z⟩ := z
  first
    | exact wpAny_pure (wpAny_pure z)
    | (wp_walk; exact z)
end
end XC
namespace XC
open PySem.W PySem.Calls PyProof.Rows Builtin Builtin.ObjectAttr
section
variable {prog : Program} {w : World} {A : Around} {R : Result → Shared → Prop} {hp : Heap} {g : Array GenState} {d : Drawn} {t : Nat} {os : OsState}
/-- self.f = v on an error that has no dict as yet -/
theorem osa_x {K : Frag} {f : Str} {tk : Tok} {v : Value} {x C : Addr} {fv : Array Value} {bmB : List Value} {newId : String} (B : Bas bmB newId) (X : K.In hp) (hx : hp.get? x = some { cls := .ref C, data := .fields fv }) (ho : excOver K C bmB = true) (hh : hasDictIn K C = true)
    (ha : findIn K (.ref C) f = some none)
    (go : ∀ h' tk' dx, (∀ b o, b ≠ x → hp.get? b = some o → h'.get? b = some o) → hp.objs.size ≤ dx → dx ≠ x → h'.get? x = some { cls := .ref C, dict := some dx, data := .fields fv } → h'.Ns1 dx (fun y => if y = f then some v else none) → R (.ok (.ret .none)) ⟨h', g, d, tk', os⟩) :
    codeAny (model prog w) A (.call (.builtin "object.__setattr__") ⟨[.ref x, .str f tk, v], []⟩) R ⟨hp, g, d, t, os⟩ := by
  obtain ⟨cd, hcd, hdct⟩ := any_some hh
  obtain ⟨bm, hm, ht⟩ : ∃ bm, cd.mro = .ref C :: bm ∧ excTail bmB bm = true := by
    unfold excOver at ho
    rw [hcd] at ho
    have ho : (match cd.mro with | .ref C' :: bm => C' == C && excTail bmB bm | _ => false) = true := ho
    split at ho
    · rename_i C' bm e
      obtain ⟨h1, h2⟩ := Bool.and_eq_true_iff.mp ho
      rw [beq_iff_eq.mp h1] at e
      exact ⟨bm, e, h2⟩
    · cases ho
  have ob : cd.mro.contains (.type "object") = true := by rw [hm, List.contains_cons, excTail_contains _ _ ht, B.ob, Bool.or_true]
  have ne : cd.mro.isEmpty = false := by rw [hm]; rfl
  have ps : ∀ self, PySem.refuseLoop self "__setattr__" cd.mro = pure () := fun self => excTail_pass self (B.pass self) _ (by rw [hm]; exact ht)
  have I : InstAt hp x { cls := .ref C, data := .fields fv } C none := ⟨hx, rfl, rfl, trivial⟩
  have xs : x ≠ hp.objs.size := Nat.ne_of_lt (Heap.lt_size hx)
  have SF := F.store_object
  have su : Looks (model prog w) hp (isInstance (.ref x) (.type "object")) true := I.type.andThen (looks_mroIn X (by unfold mroIn; rw [hcd, Option.bind_some, if_neg (by rw [ne]; decide), ob]))
  have lm : Looks (model prog w) hp (mroOf (.ref C)) cd.mro := (looks_clsIn X hcd).andThen .now
  have ls : Looks (model prog w) hp (storeTaker? none) none := .now
  have lc : Looks (model prog w) hp (classData C) cd := looks_clsIn X hcd
  refine codeAny_call_builtin SF.slot.plain SF.entry (@check_slot (model prog w) _ _ ⟨hp, g, d, t, os⟩ "object.__setattr__" "object" "__setattr__" (.ref x) [.str f tk, v] [] _ SF.kind SF.split su (SF.args (.ref x) (.str f tk) v) ?_)
  rw [osa_eq, refuse_eq]
  refine wpAny_bind (wpAny_bind (I.type.at (wpAny_bind (lm.at ?_)))); rw [ps]
  refine wpAny_pure (wpAny_bind (I.type.at (wpAny_bind ((looks_findIn X ha).at (wpAny_bind (ls.at ?_)))))); show wpAny _ _ (storeInOwnDict (.ref x) (.ref C) (.str f tk) f v false) _ _ _
  obtain ⟨nm, bs, mro, ns, qn, hd, sn, sb, ab, col, del⟩ := cd
  have hdct : hd = true := hdct
  subst hdct
  unfold storeInOwnDict ownDictForStores
  repeat (first | with_reducible refine HandSPX.store_in_new ?_ ?_ | with_reducible refine wpAny_loadPart_at hx ?_ | with_reducible refine lc.at ?_ | wp_step)
  · exact ⟨_, #[], _, (Heap.get?_update_ne _ _ _ _ xs.symm).trans (Heap.get?_push_at rfl rfl), rfl, fun e he => absurd he (by simp), fun _ => rfl⟩
  · intro h' tk' hn' hs
    have hx1 : (hp.push { cls := .type "dict", data := .dict #[] }).get? x = some { cls := .ref C, data := .fields fv } := Heap.get?_push_of_some _ hx
    exact go h' tk' hp.objs.size (fun b o hb ho => (hs.2 b (Nat.ne_of_lt (Heap.lt_size ho))).trans ((Heap.get?_update_ne _ _ _ _ hb).trans (Heap.get?_push_of_some _ ho))) (Nat.le_refl _) xs.symm ((hs.2 x xs).trans (Heap.get?_update_self _ hx1 rfl)) hn'
end
end XC
/-- what the written part says of an error class -/
structure OexG (K : PySem.W.Frag) (C : Addr) : Prop where
  ex : ∃ (bmB : List Value) (newId : String), XC.Bas bmB newId ∧ PySem.W.excInitIn K C bmB newId = true ∧ PySem.W.excOver K C bmB = true
  hd : PySem.W.hasDictIn K C = true
  sa : PySem.W.findIn K (.ref C) "__setattr__" = some (some (.builtin "object.__setattr__"))
  exC : PySem.W.subIn K (.ref C) (.type "BaseException") = some true
  tyC : PySem.W.typeIn K (.ref C) = some (.type "type")
  kC : PySem.W.keepIn K (.ref C) = true
section
variable {X : Cx} {pins : List (Addr × Obj)} {σ : L2.St} {H : Hp} {s : Shared} {a C : Addr} {f : Str} {y : V} {u : Value} {Q : Unit → Shared → Prop} {E : Value → Shared → Prop} {A : Around}
/-- self.f = y, the first one -/
theorem ostG (T : OexG X.K C) (I : Inv X pins σ H s) (e : H a = some (exo a C none)) (hno : PySem.W.findIn X.K (.ref C) f = some none) (ry : RelV y u)
    (go : ∀ dx s', H dx = none → dx ≠ a → Inv X pins σ (upd (upd H dx (exd dx [(f, y)])) a (exo a C (some dx))) s' → Q () s') : wpAny (model X.prog X.w) A (setAttr (.ref a) f u) Q E s := by
  obtain ⟨bmB, newId, B, _, ov⟩ := T.ex
  obtain ⟨t1, ho⟩ := exo_at I.hok e
  obtain ⟨hp, g, d, t, os⟩ := s
  refine PySem.W.set_plain I.kIn (ox := { cls := .ref C, dict := none, data := .fields #[.ref t1, .none, .none, .none, .bool false, .none] }) (od := none) ⟨ho, rfl, rfl, trivial⟩ T.sa (XC.osa_x B I.kIn ho ov T.hd hno fun h' tk' dx k dn dne hx hn => ?_)
  have hnd : H dx = none := I.hok.fresh dn
  have ndx : ∀ {b : Addr} {o : Obj}, hp.get? b = some o → b ≠ dx := fun {b o} q => Nat.ne_of_lt (Nat.lt_of_lt_of_le (Heap.lt_size q) dn)
  have nea : ∀ {b : Addr}, H b = none → b ≠ a := fun {b} n z => by rw [z, e] at n; cases n
  have U : Un X.fs [] H (upd (upd H dx (exd dx [(f, y)])) a (exo a C (some dx))) hp h' := {
    keep := fun b o q n _ _ => k b o (nea n) q
    slot := fun b o q n _ _ => ⟨o.slots, k b o (nea n) q⟩
    free := fun b o q n _ => (upd_ne (nea n)).trans ((upd_ne (ndx q)).trans n)
    there := fun b o q _ => by
      by_cases hb : b = a
      · exact ⟨_, hb ▸ hx⟩
      · exact ⟨o, k b o hb q⟩
    tups := fun b xs q => (upd_ne (at_ne e q exo_tup)).trans ((upd_ne (ne_of_none q hnd)).trans q)
    frzs := fun b o v q => (upd_ne (at_ne e q exo_frz)).trans ((upd_ne (ne_of_none q hnd)).trans q)
    tbls := fun b ps q => ⟨#[], by rw [upd_ne (at_ne e q exo_tbl), upd_ne (ne_of_none q hnd), q]; simp⟩ }
  refine go dx _ hnd dne (I.un (t' := tk') U fun b o q => ?_)
  by_cases hb : b = a
  · subst hb
    rw [upd_same] at q
    cases q
    exact exo_ok hx
  · rw [upd_ne hb] at q
    by_cases hbd : b = dx
    · subst hbd
      rw [upd_same] at q
      cases q
      refine exd_ok hn fun g => ?_
      rw [lookup_put]
      by_cases hg : g = f
      · rw [if_pos hg, if_pos hg]; exact ry
      · rw [if_neg hg, if_neg hg]; exact trivial
    · rw [upd_ne hbd] at q
      refine (I.hok b o q).stay (fun c v hc z => k c v ?_ z) (fun c hc => (upd_ne (at_ne e hc exo_own)).trans ((upd_ne (ne_of_none hc hnd)).trans hc)) (fun c xs hc => (upd_ne (at_ne e hc exo_tup)).trans ((upd_ne (ne_of_none hc hnd)).trans hc))
      rcases hc with hc | hc
      · rw [hc]; exact hb
      · exact at_ne e hc exo_own
end
/-- self.f = e in an error's __init__ -/
def tOstG (K : PySem.W.Frag) (f : Str) (to te : TE) : TS := fun D σ H => te σ H fun y H1 => to σ H1 fun x H2 => ∃ a C : Addr, x = .ref a ∧ OexG K C ∧ PySem.W.findIn K (.ref C) f = some none ∧ H2 a = some (exo a C none) ∧
  ∀ dx, H2 dx = none → dx ≠ a → D.nx σ (upd (upd H2 dx (exd dx [(f, y)])) a (exo a C (some dx)))
theorem ps_ostG {X : Cx} {o e : Expr} {to te : TE} {f : Str} {p' pos : Pos} (ho : PE X o to) (he : PE X e te) (hs : swapsWith e (some (.Attribute o f p')) pos.line X.env = pure false := by rfl) : PS X (.Assign [.Attribute o f p'] e pos) (tOstG X.K f to te) := by
  refine ⟨fun pins s σ H D I h => plainObj_wpAny_Assign_Attribute (thn (he.run pins s σ H _ I h) fun v s1 ⟨y, H1, I1, r1, q1⟩ => thn (ho.run pins s1 σ H1 _ I1 q1) fun u s2 ⟨x, H2, I2, r2, a, C, ex, T, hno, ea, q⟩ => ?_) hs⟩
  subst ex
  obtain rfl : u = Value.ref a := r2
  exact ostG T I2 ea hno r1 fun dx s' n ne J => ⟨σ, _, J, q dx n ne⟩
/-- what the __init__ of an error class with one field does -/
def spX (C : Addr) (f : Str) : Sp := fun vs H Q _ => ∃ (a : Addr) (v : V), vs = [.ref a, v] ∧ H a = some (exo a C none) ∧ ∀ dx, H dx = none → dx ≠ a → Q .non (upd (upd H dx (exd dx [(f, v)])) a (exo a C (some dx)))
/-- an error class under its name -/
structure HasX (P : Program) (w : World) (K : PySem.W.Frag) (mg : Str → Option Value) (base : Heap) (k : Nat) (x : Str) (C : Addr) (f : Str) : Prop where
  ex : ∃ (fI : Addr) (fd : FuncData) (ps : List Str), OexG K C ∧ PySem.W.findIn K (.ref C) "__init__" = some (some (.ref fI)) ∧ PySem.W.typeIn K (.ref fI) = some (.type "function") ∧ FnOk P w K mg base CX0 k fI fd ps (spX C f) ∧ mg x = some (.ref C) ∧ Binds K fd ps []
/-- C(e), to be raised -/
def tMkX (C : Addr) (f : Str) (ta : TA) : L2.St → Hp → XK → Prop := fun σ H Q => ta σ H fun vs H1 => ∃ v, vs = [v] ∧ ∀ d, H1 d = none → Q (.ref C) (some d) (upd H1 d (.xd [(f, v)]))
theorem pmk_x {X : Cx} {x : Str} {C : Addr} {f : Str} {k : Nat} {e : Expr} {ta : TA} {p pos : Pos} (T : HasX X.prog X.w X.K X.mg X.base k x C f) (hr : Room (k + 1) X.A) (hg : Gl X x) (ha : PA X [e] ta)
    (hdb : (x == ("__debug__" : Str)) = false := by decide) (he : starEach [e] X.env = (false, eval e X.env) :: starEach [] X.env := by rfl) : L2N.PMk X (.Call (.Name x p) [e] [] pos) (tMkX C f ta) := by
  intro pins s σ H Q I h
  obtain ⟨fI, fd, ps, T, iC, tI, F1, hm, hb⟩ := T.ex
  obtain ⟨bmB, newId, B, hini, ov⟩ := T.ex
  refine wpAny_Call_Name_kw (ld_glob I hg hm ?_ hdb)
  refine PySem.W.callWith_K (h₀ := X.base) I.ok.mod.kin T.kC (thn (ha.run pos pins s σ H _ I h) fun us s1 ⟨vs, H1, I1, r1, v, ev, q1⟩ => ⟨I1.kIn, ?_⟩) he rfl
  subst ev
  cases r1 with
  | @cons _ u _ ur ru rn =>
    cases rn
    show wpAny _ _ (call (.ref C) [u]) _ _ _
    obtain ⟨hp, g, dr, tk, os⟩ := s1
    obtain ⟨nm, N, qn, bs, bm, hdct, sn, sub, ab, col, dd, k0, k1, k2, k3, k5, hC, hT⟩ := PySem.W.excInit_of I1.kIn hini
    obtain ⟨B0, i0, bm0, FB, cB⟩ := B.ex
    have hn : H1 (hp.objs.size + 1) = none := I1.hok.fresh (Nat.le_succ _)
    have kk : ∀ b o, hp.get? b = some o → ((hp.push (PySem.W.kdv_tup [u])).push (XC.xObj C hp.objs.size)).get? b = some o := fun b o z => Heap.get?_push_of_some _ (Heap.get?_push_of_some _ z)
    have hget : ((hp.push (PySem.W.kdv_tup [u])).push (XC.xObj C hp.objs.size)).get? (hp.objs.size + 1) = some (XC.xObj C hp.objs.size) := by heap_get
    have I2 : Inv X pins σ (upd H1 (hp.objs.size + 1) (exo (hp.objs.size + 1) C none)) ⟨(hp.push (PySem.W.kdv_tup [u])).push (XC.xObj C hp.objs.size), g, dr, tk, os⟩ :=
      I1.laid (t' := tk) (a := hp.objs.size + 1) (o := exo (hp.objs.size + 1) C none) kk (Nat.le_succ _) (exo_ok hget)
    have r2 : Vals [V.ref (hp.objs.size + 1), v] [Value.ref (hp.objs.size + 1), u] := .cons rfl (.cons ru .nil)
    have hq : spX C f [.ref (hp.objs.size + 1), v] (upd H1 (hp.objs.size + 1) (exo (hp.objs.size + 1) C none)) (fun r H2 => r = .non ∧ ∃ d, H1 d = none ∧ d ≠ hp.objs.size + 1 ∧ H2 = upd (upd (upd H1 (hp.objs.size + 1) (exo (hp.objs.size + 1) C none)) d (exd d [(f, v)])) (hp.objs.size + 1) (exo (hp.objs.size + 1) C (some d))) (fun _ _ _ => False) :=
      ⟨_, _, rfl, upd_same, fun dx z ne => ⟨rfl, dx, by rw [upd_ne ne] at z; exact z, ne, rfl⟩⟩
    have hl : ([Value.ref (hp.objs.size + 1), u] ++ []).length = ps.length := by
      rw [List.append_nil, ← F1.len _ _ _ _ hq, ← r2.length]
    have b2 := hb _ [Value.ref (hp.objs.size + 1), u] I2.kIn hl
    rw [List.append_nil] at b2
    refine wpAny_call (XC.call_x FB (by rw [hT]; exact cB) (by rw [hT]; exact B.noA) (by rw [hT]; exact B.noN) hC (PySem.W.looks_findIn I1.kIn iC) (fun self => PySem.W.bind_fn I1.kIn self tI) (by show 1 ≤ sizeLine; rw [sizeLine_eq]; omega)
      (codeAny_mono (F1.run _ X.stack _ _ ⟨[Value.ref (hp.objs.size + 1), u], []⟩ [Value.ref (hp.objs.size + 1), u] _ _ (fun _ _ _ => False) (hr.make C [u] []) (I2.env0.make C [u] []) b2 r2 hq) fun r s' hq' => ?_))
    cases r with
    | error er => exact hq'.elim
    | ok fl =>
      cases fl with
      | ret y =>
        obtain ⟨v2, H2, os2, bare2, un2, hok2, rv, ev, d, hd1, dne, eH⟩ := hq'
        subst ev
        obtain ⟨h2, g2, d2, t2, os'⟩ := s'
        obtain ⟨t0, G, J, kG, ge, hoe, na⟩ := mk_end0 (d2 := d2) (t2 := t2) (fs := [(f, v)]) I1 (Nat.le_succ _) kk un2 hok2 os2 bare2 (by rw [eH, upd_same]) (by rw [eH, upd_ne dne, upd_same]) hd1
        have eq : upd (del H2 (hp.objs.size + 1)) d (.xd [(f, v)]) = upd H1 d (.xd [(f, v)]) := by
          funext b
          by_cases hbd : b = d
          · rw [hbd, upd_same, upd_same]
          · rw [upd_ne hbd, upd_ne hbd]
            by_cases hba : b = hp.objs.size + 1
            · rw [hba, del_same, hn]
            · rw [del_ne hba, eH, upd_ne hba, upd_ne hbd, upd_ne hba]
        rw [eq] at J na
        exact ⟨rv, ⟨hp.objs.size + 1, _, _, ⟨G, g2, d2, t2, os'⟩, _, .ref C, some d, rfl, J, kG, ge, hoe, ⟨rfl, rfl, fun vs hv => by cases hv; rfl⟩, rfl, rfl, na, rfl, bare2, raises_own T.exC T.tyC, q1 d hd1⟩⟩
      | next => exact hq'.elim
      | brk => exact hq'.elim
      | cont => exact hq'.elim

/-! ### try with several clauses, each with a class or a tuple of classes, with or without a name -/
namespace TX
open PySem.W PySem.Calls PyProof.Rows
section
variable {M : Model} {h : Heap} {K : Frag}
theorem look_each {α : Type} {f : α → PUnit → Sem (ForInStep PUnit)} : ∀ {cs : List α}, (∀ c ∈ cs, Looks M h (f c ⟨⟩) (.yield ⟨⟩)) → Looks M h (forIn cs PUnit.unit f) ⟨⟩
  | [], _ => fun A Q E s k q => wpAny_pure q
  | c :: r, hf => by
    rw [List.forIn_cons]
    exact (hf c List.mem_cons_self).andThen (look_each fun d hd => hf d (List.mem_cons_of_mem _ hd))
theorem look_first {α β : Type} {f : α → β → Sem (ForInStep β)} {b0 bd : β} {p : α → Bool} : ∀ {cs : List α}, (∀ c ∈ cs, Looks M h (f c b0) (if p c = true then .done bd else .yield b0)) → Looks M h (forIn cs b0 f) (if cs.any p = true then bd else b0)
  | [], _ => fun A Q E s k q => wpAny_pure q
  | c :: r, hf => by
    rw [List.forIn_cons, List.any_cons]
    have h1 := hf c List.mem_cons_self
    cases hp : p c with
    | true =>
      rw [hp, if_pos rfl] at h1
      rw [Bool.true_or, if_pos rfl]
      exact h1.andThen fun A Q E s k q => wpAny_pure q
    | false =>
      rw [hp, if_neg Bool.false_ne_true] at h1
      rw [Bool.false_or]
      exact h1.andThen (look_first fun d hd => hf d (List.mem_cons_of_mem _ hd))
theorem exmAny_all {cls : Value} : ∀ {cs : List Value} {b : Bool}, exmAny K cls cs = some b → (∀ c ∈ cs, exmOne K cls c = some ((exmOne K cls c).getD false)) ∧ b = cs.any fun c => (exmOne K cls c).getD false
  | [], b, e => ⟨fun c hc => (by cases hc), (Option.some.inj (show some false = some b from e)).symm⟩
  | c :: r, b, e => by
    obtain ⟨b1, d1, x1, y1, z1⟩ := exmAny_cons e
    obtain ⟨i1, i2⟩ := exmAny_all y1
    refine ⟨fun d hd => ?_, ?_⟩
    · rcases List.mem_cons.mp hd with rfl | hd
      · rw [x1]; rfl
      · exact i1 d hd
    · rw [List.any_cons, x1, ← i2]; exact z1
/-- the clause's tuple of classes -/
theorem exm_tupN {cls : Value} {tp e : Addr} {cs : List Value} {b : Bool} (X : K.In h) (LT : Looks M h (typeOf (.ref e)) cls) (hp : h.get? tp = some { cls := .type "tuple", data := .seq cs.toArray }) (hx : exmAny K cls cs = some b) : Looks M h (excMatches (.ref e) (.ref tp)) b := by
  obtain ⟨h1, h2⟩ := exmAny_all hx
  have tt : Looks M h (isInstance (.ref tp) (.type "tuple")) true := ((Looks.ld hp).andThen .now).andThen (Looks.of_pure isSubtype_tuple_tuple)
  intro A Q E s k q
  unfold excMatches
  refine wpAny_bind ((tt.keeps k).here ?_)
  rw [if_pos rfl]
  first
    | refine wpAny_bind (wpAny_seqItems (k _ _ hp) rfl ?_)
    | refine wpAny_bind (wpAny_bind (wpAny_seqItems (k _ _ hp) rfl (wpAny_pure ?_)))
  dsimp only [Option.getD_some, Option.getD]
  refine wpAny_bind (wpAny_pure ?_)
  refine wpAny_bind ((look_each (h := h) (cs := cs) fun c hc => ?_) _ _ _ _ k ?_)
  · intro A' Q' E' s' k' q'
    refine wpAny_bind ((((exm_cls (M := M) X (h1 c hc)).1).keeps k').here ?_)
    simp only [Bool.not_true, Bool.false_eq_true, if_false]
    exact wpAny_pure q'
  · refine wpAny_bind ((LT.keeps k).here ?_)
    refine wpAny_bind ((look_first (h := h) (p := fun c => (exmOne K cls c).getD false) (bd := (some true, ())) (cs := cs) fun c hc => ?_) _ _ _ _ k ?_)
    · intro A' Q' E' s' k' q'
      refine wpAny_bind ((((exm_cls (M := M) X (h1 c hc)).2).keeps k').here ?_)
      cases hv : (exmOne K cls c).getD false with
      | true => rw [hv, if_pos rfl] at q'; rw [if_pos rfl]; exact wpAny_pure q'
      | false => rw [hv, if_neg Bool.false_ne_true] at q'; rw [if_neg Bool.false_ne_true]; exact wpAny_pure q'
    · rw [← h2]
      cases b with
      | true => rw [if_pos rfl]; exact wpAny_pure q
      | false => rw [if_neg Bool.false_ne_true]; exact wpAny_pure q
end
end TX
/-- own classes under these names -/
inductive NamesAll (X : Cx) : List Expr → List Value → Prop
  | nil : NamesAll X [] []
  | cons {x : Str} {p : Pos} {c : Value} {es : List Expr} {cs : List Value} (h : Names X x c) (r : NamesAll X es cs) : NamesAll X (.Name x p :: es) (c :: cs)
/-- what an except clause tests -/
inductive Tst (X : Cx) : Expr → List Value → Prop
  | one {x : Str} {p : Pos} {c : Value} (h : Names X x c) : Tst X (.Name x p) [c]
  | tup {es : List Expr} {cs : List Value} {k : Nat} {p : Pos} (h : NamesAll X es cs) (hl : cs.length ≤ 100) : Tst X (.Tuple es k p) cs
section
variable {X : Cx} {a : Addr} {pn : List (Addr × Obj)} {σ : L2.St} {H : Hp} {s : Shared}
theorem name_test {x : Str} {c : Value} {p : Pos} (h : Names X x c) (I : Inv (X.suite a pn) [] σ H s) {Q : Value → Shared → Prop} {E : Value → Shared → Prop} (q : Q c s) : wpAny (model X.prog X.w) (X.A.mark (some (.ref a))) (eval (.Name x p) X.env) Q E s := by
  obtain ⟨hg, hd, hm | ⟨hm, hv, hn⟩⟩ := h
  · exact ld_glob (X := X.suite a pn) I hg hm q hd
  · exact ld_blt (X := X.suite a pn) I hg hm hv q hn hd
theorem names_test {es : List Expr} {cs : List Value} {pos : Pos} (h : NamesAll X es cs) (I : Inv (X.suite a pn) [] σ H s) : ∀ {Q : List Value → Shared → Prop} {E : Value → Shared → Prop}, Q cs s → wpAny (model X.prog X.w) (X.A.mark (some (.ref a))) (spliced (backTo pos (starEach es X.env))) Q E s := by
  induction h with
  | nil => exact fun q => wpAny_pure q
  | cons h r ih => exact fun q => wpAny_items_cons (name_test h I (ih q))
theorem Tst.run {t : Expr} {cs : List Value} {cls : Value} {b : Bool} (T : Tst X t cs) (I : Inv (X.suite a pn) [] σ H s) (LT : PySem.W.Looks (model X.prog X.w) s.heap (typeOf (.ref a)) cls) (hx : PySem.W.exmAny X.K cls cs = some b) {Q : Bool → Shared → Prop} {E : Value → Shared → Prop}
    (q : ∀ h', (∀ b o, s.heap.get? b = some o → h'.get? b = some o) → Q b { s with heap := h' }) :
    wpAny (model X.prog X.w) (X.A.mark (some (.ref a))) (eval t X.env) (fun c s1 => wpAny (model X.prog X.w) (X.A.mark (some (.ref a))) (excMatches (.ref a) c) Q E s1) E s := by
  cases T with
  | one h =>
    obtain ⟨b1, d1, x1, y1, z1⟩ := PySem.W.exmAny_cons hx
    have e : d1 = false := (Option.some.inj (show some false = some d1 from y1)).symm
    subst e
    rw [Bool.or_false] at z1
    subst z1
    exact name_test h I ((PySem.W.exm_one (M := model X.prog X.w) I.kIn LT x1).here (q _ fun _ _ z => z))
  | tup h hl =>
    refine wpAny_Tuple_spliced (names_test h I ⟨by rw [sizeLine_eq]; omega, ?_⟩)
    have k : ∀ b o, s.heap.get? b = some o → (s.heap.push { cls := .type "tuple", data := .seq cs.toArray }).get? b = some o := fun b o z => Heap.get?_push_of_some _ z
    exact (TX.exm_tupN (I.kIn.keeps k) (LT.keeps k) (Heap.get?_push_size _ rfl) hx).here (q _ k)
end
/-- the suite of a clause, for any error that it takes -/
abbrev SuOk (X : Cx) (suite : List Stmt) (ts : Addr → Value → Option Addr → TS) : Prop :=
  ∀ (a : Addr) (oe : Obj) (cls : Value) (d : Option Addr) (pn : List (Addr × Obj)), L2N.Zn cls d oe → (∃ vs, oe.data = .fields vs) → PSs (X.suite a ((a, oe) :: pn)) suite (ts a cls d)
inductive HdX (X : Cx) : List ExceptHandler → List (List Value × Option Nat × (Addr → Value → Option Addr → TS)) → Prop
  | nil : HdX X [] []
  | only {t : Expr} {cs : List Value} {ts : Addr → Value → Option Addr → TS} {b₀ : Stmt} {suite : List Stmt} {pos' : Pos} {hds : List ExceptHandler} {l : List (List Value × Option Nat × (Addr → Value → Option Addr → TS))} (ht : Tst X t cs) (hsu : SuOk X (b₀ :: suite) ts) (r : HdX X hds l) :
      HdX X (.ExceptHandler (some t) none (b₀ :: suite) pos' :: hds) ((cs, none, ts) :: l)
  | named {t : Expr} {n : Str} {i : Nat} {cs : List Value} {ts : Addr → Value → Option Addr → TS} {b₀ : Stmt} {suite : List Stmt} {pos' : Pos} {hds : List ExceptHandler} {l : List (List Value × Option Nat × (Addr → Value → Option Addr → TS))} (ht : Tst X t cs)
      (hi : X.N[i]? = some n) (hln : X.env.kindOf n = some .local) (hsu : SuOk X (b₀ :: suite) ts) (r : HdX X hds l) : HdX X (.ExceptHandler (some t) (some n) (b₀ :: suite) pos' :: hds) ((cs, some i, ts) :: l)
/-- a slot that is emptied behind the suite -/
def Ends.less (D : Ends) (i : Nat) : Ends := { nx := fun σ H => D.nx (σ.set i none) H, rt := D.rt, bk := fun σ H => D.bk (σ.set i none) H, ct := fun σ H => D.ct (σ.set i none) H }
/-- what the clauses wish of an error of the body -/
def wX (K : PySem.W.Frag) (Wout : WX) (D : Ends) : List (List Value × Option Nat × (Addr → Value → Option Addr → TS)) → WX
  | [] => Wout
  | (cs, none, ts) :: r => fun cls d σ H => ∃ b, PySem.W.exmAny K cls cs = some b ∧ (b = true → ∀ a, H a = none → ts a cls d D σ H) ∧ (b = false → wX K Wout D r cls d σ H)
  | (cs, some i, ts) :: r => fun cls d σ H => ∃ b, PySem.W.exmAny K cls cs = some b ∧ (b = true → ∀ a, H a = none → ts a cls d (Ends.less D i) (σ.set i (some (.ref a))) H) ∧ (b = false → wX K Wout D r cls d σ H)
theorem flying_keeps {B h h' : Heap} {l : List Env} {a : Addr} {Z : Obj → Prop} (k : ∀ b o, h.get? b = some o → h'.get? b = some o) (x : HandSPX.FlyingZ B l a Z h) : HandSPX.FlyingZ B l a Z h' := by
  obtain ⟨k1, k2, k3, oe, vs, T, oT, ts, he, hz, hd, h1, hT0, hne, hT, hdT, h3⟩ := x
  exact ⟨fun b o z => k b o (k1 b o z), k2, k3.of_keeps fun b o z _ => ⟨o, k b o z, rfl⟩, oe, vs, T, oT, ts, k _ _ he, hz, hd, h1, hT0, hne, k _ _ hT, hdT, h3⟩
theorem up_keeps {h h' : Heap} (k : ∀ b o, h.get? b = some o → h'.get? b = some o) : h.UpToSlots h' := fun b o z _ => ⟨o.slots, k b o z⟩
section
variable {X : Cx} {body : List Stmt} {h₀ : ExceptHandler} {hds : List ExceptHandler} {l : List (List Value × Option Nat × (Addr → Value → Option Addr → TS))} {pos : Pos} {tb : WX → TS} {Wout : WX}
/-- the clauses, one after the other, at an error that has landed -/
theorem clauses (hs : X.stack = X.env :: X.outer) (hf : X.env.frame = some X.env.locals) (hN : X.N.Nodup) (tk : L2N.Takes X Wout) {pins : List (Addr × Obj)} {σ : L2.St} {H : Hp} {sI : Shared} {a : Addr} {B : Heap} {cls : Value} {d : Option Addr} {D : Ends}
    (J : Inv X pins σ H sI) (nb : ∀ b o, sI.heap.get? b = some o → b ∉ frs X.stack → B.get? b = some o) (na : H a = none) (hh : HdX X hds l) : wX X.K Wout D l cls d σ H →
    ∀ s : Shared, HandSPX.FlyingZ B (X.env :: X.outer) a (L2N.Zn cls d) s.heap → sI.heap.UpToSlots s.heap → s.os = sI.os → PyProof.Rows.AllBare s.gens → wpAny (model X.prog X.w) X.A (handleBy (.ref a) X.env hds) (SP X pins D) X.xe s := by
  have ok := J.ok
  have land : ∀ {h : Heap} {s : Shared}, HandSPX.FlyingZ B (X.env :: X.outer) a (L2N.Zn cls d) h → sI.heap.UpToSlots h → s.os = sI.os → PyProof.Rows.AllBare s.gens → Inv X pins σ H { s with heap := h } := fun {h s} fl up os ag => J.landed (s' := { s with heap := h }) nb fl.1 up os ag
  have suit : ∀ {h : Heap} {s : Shared}, HandSPX.FlyingZ B (X.env :: X.outer) a (L2N.Zn cls d) h → sI.heap.UpToSlots h → s.os = sI.os → PyProof.Rows.AllBare s.gens →
      ∃ oe, L2N.Zn cls d oe ∧ (∃ vs, oe.data = .fields vs) ∧ h.get? a = some oe ∧ Inv (X.suite a ((a, oe) :: (X.pn ++ pins))) [] σ H { s with heap := h } := fun {h s} fl up os ag => by
    obtain ⟨oe, vs, he, hz, hd⟩ := fl.there
    have nfr : a ∉ frs (X.env :: X.outer) := fun hm => by
      obtain ⟨_, o', e', hnf⟩ := fl.2.2.1.mem hm
      rw [he] at e'; cases e'
      exact hnf _ hd
    have nL : a ≠ X.env.locals := fun z => nfr (List.mem_filterMap.mpr ⟨X.env, List.mem_cons_self, by rw [hf, z]⟩)
    have nF : a ∉ X.fs := fun hm => by
      obtain ⟨e, he, q⟩ := List.mem_filterMap.mp hm
      exact nfr (List.mem_filterMap.mpr ⟨e, List.mem_cons_of_mem _ he, q⟩)
    exact ⟨oe, hz, ⟨vs, hd⟩, he, (land fl up os ag).suite he hd na nL nF⟩
  induction hh with
  | nil =>
    intro w s fl up os ag
    refine wpAny_handleBy_nil ?_
    obtain ⟨k1, k2, k3, oe, vs, T, oT, ts', he, hz, hd, h1, hr⟩ := id fl
    unfold PySem.passOn
    refine wpAny_bind (wpAny_field he hd h1 ?_); rw [if_neg (show ¬ ((Value.ref T == Value.none) = true) from by simp)]
    have last : wpAny (model X.prog X.w) X.A (setFlight (.ref a) X.env.frame) (fun _ s4 => wpAny (model X.prog X.w) X.A (throw (.ref a) : Sem Flow) (SP X pins D) X.xe s4) X.xe s := by
      rw [hf]
      exact HandSPX.setFlight_upZ fl fun h4 hh4 up4 => wpAny_throw (tk _ _ ⟨a, B, sI, pins, σ, H, cls, d, rfl, J, nb, up.trans up4, .inr (.inr (by rw [hs]; exact hh4)), na, os, ag, w⟩)
    first
      | exact wpAny_bind (wpAny_pure (wpAny_bind last))
      | exact wpAny_bind last
  | @only t cs ts b₀ suite pos' hds2 l2 ht hsu r ih =>
    rintro ⟨b, hb1, yes, no⟩ s fl up os ag
    obtain ⟨oe, hz, hd, he, S⟩ := suit (s := s) fl up os ag
    have LT : PySem.W.Looks (model X.prog X.w) s.heap (typeOf (.ref a)) cls := fun A Q E s' k q => wpAny_typeOf_ref (k _ _ he) (by rw [hz.1]; exact q)
    refine wpAny_handleBy_cons (codeAny_handlers_test (ht.run S LT hb1 fun h1 k => ?_)) (by intro q; cases q)
    have fl1 := flying_keeps k fl; have up1 := up.trans (up_keeps k)
    cases b with
    | false => exact ih (no rfl) { s with heap := h1 } fl1 up1 os ag
    | true =>
      refine codeAny_handlers_suite (HandSPX.lands_againZ (s := { s with heap := h1 }) fl1 fun h4 fl4 up4 => ?_)
      obtain ⟨oe4, hz4, hd4, he4, S4⟩ := suit (s := s) fl4 (up1.trans up4) os ag
      refine wpAny_mono ((hsu a oe4 cls d (X.pn ++ pins) hz4 hd4).run [] _ _ H _ S4 (yes rfl a na)) (fun f s6 hsp => ?_) (fun _ _ z => False.elim z)
      cases f with
      | ret u => obtain ⟨v6, σ6, H6, S6, r6, q6⟩ := hsp; exact ⟨_, _, _, S6.unsuite ok, r6, q6⟩
      | next => obtain ⟨σ6, H6, S6, q6⟩ := hsp; exact ⟨_, _, S6.unsuite ok, q6⟩
      | brk => obtain ⟨σ6, H6, S6, q6⟩ := hsp; exact ⟨_, _, S6.unsuite ok, q6⟩
      | cont => obtain ⟨σ6, H6, S6, q6⟩ := hsp; exact ⟨_, _, S6.unsuite ok, q6⟩
  | @named t n i cs ts b₀ suite pos' hds2 l2 ht hi hln hsu r ih =>
    rintro ⟨b, hb1, yes, no⟩ s fl up os ag
    obtain ⟨oe, hz, hd, he, S⟩ := suit (s := s) fl up os ag
    have LT : PySem.W.Looks (model X.prog X.w) s.heap (typeOf (.ref a)) cls := fun A Q E s' k q => wpAny_typeOf_ref (k _ _ he) (by rw [hz.1]; exact q)
    refine wpAny_handleBy_cons (codeAny_handlers_test (ht.run S LT hb1 fun h1 k => ?_)) (by intro q; cases q)
    have fl1 := flying_keeps k fl; have up1 := up.trans (up_keeps k)
    cases b with
    | false => exact ih (no rfl) { s with heap := h1 } fl1 up1 os ag
    | true =>
      refine codeAny_handlers_suite_as (HandSPX.lands_againZ (s := { s with heap := h1 }) fl1 fun h4 fl4 up4 => ?_)
      obtain ⟨oe4, hz4, hd4, he4, S4⟩ := suit (s := s) fl4 (up1.trans up4) os ag
      refine store_ok (X := X.suite a ((a, oe4) :: (X.pn ++ pins))) (v := .ref a) S4 hN hi (.inl hln) rfl (fun s5 S5 => ?_) (.inr hln)
      refine wpAny_mono ((hsu a oe4 cls d (X.pn ++ pins) hz4 hd4).run [] s5 _ H _ S5 (yes rfl a na)) (fun f s6 hsp => ?_) (fun _ _ z => False.elim z)
      have back : ∀ {σ6 : L2.St} {H6 : Hp} {Q : Shared → Prop}, Inv (X.suite a ((a, oe4) :: (X.pn ++ pins))) [] σ6 H6 s6 → (∀ s7, Inv X pins (σ6.set i none) H6 s7 → Q s7) → wpAny (model X.prog X.w) X.A (do bindName X.env n .none; unbindBehindTheSuite X.env n pos') (fun _ s7 => Q s7) X.xe s6 :=
        fun {σ6 H6 Q} S6 hq => gone_ok (S6.unsuite ok) hN hi hln hq
      cases f with
      | ret u => obtain ⟨v6, σ6, H6, S6, r6, q6⟩ := hsp; exact back S6 fun s7 J7 => ⟨_, _, _, J7, r6, q6⟩
      | next => obtain ⟨σ6, H6, S6, q6⟩ := hsp; exact back S6 fun s7 J7 => ⟨_, _, J7, q6⟩
      | brk => obtain ⟨σ6, H6, S6, q6⟩ := hsp; exact back S6 fun s7 J7 => ⟨_, _, J7, q6⟩
      | cont => obtain ⟨σ6, H6, S6, q6⟩ := hsp; exact back S6 fun s7 J7 => ⟨_, _, J7, q6⟩
theorem ps_tryX (hs : X.stack = X.env :: X.outer) (hf : X.env.frame = some X.env.locals) (hN : X.N.Nodup) (tk : L2N.Takes X Wout)
    (hb : ∀ (W : WX) (pn : List (Addr × Obj)) (xe : Value → Shared → Prop), L2N.Takes (X.tr pn xe) W → PassesOwn (model X.prog X.w) X.A X.env xe → PSs (X.tr pn xe) body (tb W))
    (hh : HdX X (h₀ :: hds) l) : PS X (.Try body (h₀ :: hds) [] [] pos) (fun D σ H => tb (wX X.K Wout D l) D σ H) := by
  refine ⟨fun pins s σ H D I h => wpAny_Try_except ?_⟩
  have ok := I.ok
  have hfr : X.A.frames = some (X.env :: X.outer) := by rw [ok.frames, hs]
  refine wpAny_mono ((hb (wX X.K Wout D l) (X.pn ++ pins) (fun e s1 => wpAny (model X.prog X.w) X.A (noteFrame e X.env) (fun _ s2 => wpAny (model X.prog X.w) X.A (setFlight e none) (fun _ s3 =>
    wpAny (model X.prog X.w) X.A (handleBy e X.env (h₀ :: hds)) (SP X pins D) X.xe s3) X.xe s2) X.xe s1) (fun u s' xx => ?_) PassesOwn.looking).run [] s σ H D (I.toTry _) h) (fun f s1 hsp => ?_) (fun e s1 he => he)
  · obtain ⟨a, B, sI, pins', σ', H', cls, d, rfl, J', nb, up, sky, na, os, ag, w⟩ := xx
    exact L2N.Sky.land L2N.Zn.steady hfr hf (by rw [← hs]; exact sky) fun h3 fl3 up3 => clauses hs hf hN tk (J'.ofTry ok) nb na hh w { s' with heap := h3 } fl3 (up.trans up3) os ag
  · cases f with
    | ret u => obtain ⟨v, σ', H', J', r, q⟩ := hsp; exact ⟨v, σ', H', J'.ofTry ok, r, q⟩
    | next => obtain ⟨σ', H', J', q⟩ := hsp; exact wpAny_execs_nil ⟨σ', H', J'.ofTry ok, q⟩
    | brk => obtain ⟨σ', H', J', q⟩ := hsp; exact ⟨σ', H', J'.ofTry ok, q⟩
    | cont => obtain ⟨σ', H', J', q⟩ := hsp; exact ⟨σ', H', J'.ofTry ok, q⟩
end

/-! ### isinstance of an error that is pinned, its dict tracked -/
namespace TX
open PySem.W PySem.Calls PyProof.Rows
section
variable {prog : Program} {w : World} {A : Around} {E : Value → Shared → Prop} {s : Shared} {K : Frag} {x D : Addr} {ox od : Obj}
theorem class_x {Q : Option Value → Shared → Prop} (C : ExcC K D) (X : K.In s.heap) (I : InstAt s.heap x ox D (some od)) (go : Q (some (.ref D)) { s with toks := s.toks + 1 }) : wpAny (model prog w) A (getAttr? (.ref x) "__class__") Q E s := by
  have hf : findObj K D (some od) "__class__" = some (.bind (.builtin "getset_descriptor.__get__") (.builtin "object.__class__")) := by
    obtain ⟨cd, hc, _⟩ := any_some C.hd
    unfold findObj
    rw [hc, Option.bind_some, C.ha, Option.bind_some]
    simp [C.hn, C.ht]
  obtain ⟨hp, g, d, t, os⟩ := s
  have L0 := I.type (M := model prog w); have L1 := looks_findIn (M := model prog w) X C.hg; have L2 := looks_findIn (M := model prog w) X C.hk; have L3 := looks_find (M := model prog w) X I hf
  have sub : Looks (model prog w) hp (isInstance (.ref x) (.type "BaseException")) true := L0.andThen (looks_subIn X C.hs)
  have n0 : (false && onTheHeap (Value.builtin "BaseException.__getattribute__")) = false := rfl
  have n2 : (Value.builtin "BaseException.__getattribute__" == Value.builtin "object.__getattribute__") = false := by decide +kernel
  have n1 : (onTheHeap (Value.ref D) && Value.builtin "BaseException.__getattribute__" == Value.builtin "object.__getattribute__") = false := by rw [n2]; rfl
  unfold getAttr? getAttrBy? getAttrBy
  refine wpAny_bind (wpAny_mkText (wpAny_bind (wpAny_attempt (wpAny_holding (wpAny_bind (L0.at (wpAny_bind (L1.at ?_)))))))); show wpAny _ _ (if (onTheHeap (Value.ref D) && Value.builtin "BaseException.__getattribute__" == Value.builtin "object.__getattribute__") = true then _ else _) _ _ _
  rw [n1, if_neg Bool.false_ne_true]; unfold getAttrByItsOwn hookBefore
  refine wpAny_bind ?_; rw [if_pos (show onTheHeap (Value.ref D) = true from rfl)]
  refine L2.at (wpAny_bind (wpAny_attempt (wpAny_holding ?_))); unfold callGetattribute
  rw [n0, if_neg Bool.false_ne_true]; unfold boundAndCalled; rw [PySem.F.excAttr_ValueError.ga.bind (.ref x)]
  refine wpAny_bind (wpAny_pure ?_); show wpAny _ _ (call (.builtin "BaseException.__getattribute__") [.ref x, .str "__class__" t]) _ _ _
  refine wpAny_call (codeAny_call_builtin PySem.F.excAttr_ValueError.ga.plain PySem.F.entry_bexc_ga (@check_slot (model prog w) _ _ ⟨hp, g, d, t + 1, os⟩ "BaseException.__getattribute__" "BaseException" "__getattribute__" (.ref x) [.str "__class__" t] [] _ (by decide +kernel) (by decide +kernel) sub (PySem.F.args_bexc_ga (.ref x) (.str "__class__" t)) ?_))
  unfold Builtin.«object.__getattribute__»
  refine wpAny_bind (wpAny_of_eq (a := ((Value.ref x : Value), [Value.str "__class__" t])) (by first | rfl | (simp only [slotArgs]; rfl)) (wpAny_bind (wpAny_pure (wpAny_bind (L0.at (wpAny_bind (L3.at ?_)))))))
  show wpAny _ _ (holding [Value.builtin "object.__class__"] (call (.builtin "getset_descriptor.__get__") [.builtin "object.__class__", .ref x, .ref D]) >>= ret) _ _ _
  refine wpAny_bind (wpAny_holding (wpAny_call (class_get (s := ⟨hp, g, d, t + 1, os⟩) X I C.hm (wpAny_pure ?_)))); show wpAny _ _ (handedOut (.ref D)) _ _ _
  rw [handedOut_of (v := .ref D) rfl]
  first
    | exact wpAny_pure (wpAny_pure go)
    | exact wpAny_pure go
    | exact wpAny_pure (wpAny_bind (wpAny_pure (wpAny_pure go)))
theorem kitx_x (C : ExcC K D) : KitX K (.ref x) (.ref D) (fun h => InstAt h x ox D (some od)) := by
  obtain ⟨cd, hc, _⟩ := any_some C.hd
  have hc2 := hc
  unfold clsIn at hc
  split at hc
  · rename_i c' d' cd' sl' ho
    refine ⟨fun _ _ _ I => I.type, fun _ _ X _ => ?_, fun h tp dd its n sl X htp => Bool.eq_false_iff.mpr fun q => ?_, fun X I k => class_x C X I k⟩
    · intro A' Q' E' s' k q
      unfold isType loadHead
      exact wpAny_bind (wpAny_loadPart (k _ _ (X _ _ ho)) (wpAny_pure q))
    · have e : D = tp := Value.ref.inj (beq_iff_eq.mp q)
      subst e
      have z := (X _ _ ho).symm.trans htp
      cases z
  · cases hc
end
end TX
/-- isinstance(e, c), e a pinned error of the class at D with its dict at dd -/
def rIsX (K : PySem.W.Frag) (D a dd : Addr) : List V → Hp → VK → Prop := fun xs H Q => ∃ (c : V) (cv : Value) (b : Bool) (fs : List (Str × V)), xs = [.ref a, c] ∧ (∀ u, RelV c u → u = cv) ∧ PySem.W.kitOne K (.ref D) cv = some b ∧ H dd = some (.xd fs) ∧ Q (.bl b) H
theorem call_isX {X : Cx} {a D dd : Addr} {oe : Obj} (C : ExcC X.K D) (hz : L2N.Zn (.ref D) (some dd) oe) (hf : ∃ vs, oe.data = .fields vs) (hp : (a, oe) ∈ X.pn) : CallR X (.builtin "isinstance") (rIsX X.K D a dd) := by
  intro pins s σ H xs us Q I r h
  obtain ⟨c, cv, b, fs, rfl, hcv, e, ed, q⟩ := h
  cases r with
  | cons rx rr =>
    cases rr with
    | cons rt rr =>
      cases rr
      cases rx
      have ec := hcv _ rt
      subst ec
      obtain ⟨hget, _⟩ := I.pin (a, oe) (List.mem_append.mpr (.inl hp))
      obtain ⟨vs, hv⟩ := hf
      have hx : ObjOk X.prog X.w H s.heap dd (.xd fs) := I.hok dd _ ed
      obtain ⟨mA, hns, _⟩ := hx
      obtain ⟨od, es, ep, ho, _⟩ := hns
      have J : PySem.W.InstAt s.heap a oe D (some od) := ⟨hget, hz.1, by unfold PySem.W.notCls; rw [hv] <;> rfl, by rw [hz.2.1]; exact ho⟩
      exact PySem.W.kia_one (TX.kitx_x C) I.kIn J e (fun z => nomatch z) fun tk => ⟨.bl b, H, I.kept (t' := tk) fun _ _ z => z, rfl, q⟩
/-! ### a def that is called within an except suite and handed the error -/
open L2H in
/-- its promise may speak of the error p that is handled -/
structure FnP (P : Program) (w : World) (K : PySem.W.Frag) (mg : Str → Option Value) (base : Heap) (k : Nat) (f : Addr) (fd : FuncData) (ps : List Str) (sp : Addr × Obj → Sp) : Prop where
  len : ∀ p vs H Q E, sp p vs H Q E → vs.length = ps.length
  run : ∀ (A : Around) (outer : List Env) (s : Shared) (H : Hp) (us : List Value) (vs : List V) (Q : VK) (E : XK) (p : Addr × Obj), RoomH k A → Hot1 A p → PinOk outer H s p → Env0 P w K mg base A outer s H → BindsTo s fd ⟨us, []⟩ (ps.zip us) → Vals vs us → sp p vs H Q E →
    codeAny (model P w) A (.call (.ref f) ⟨us, []⟩) (CR CX0 outer P w H s Q E) s
open L2H PyProof.Rows in
theorem Fun.okP {P : Program} {w : World} {K : PySem.W.Frag} {mg : Str → Option Value} {base : Heap} {x qual : Str} {st : Stmt} {f : Addr} {fd : FuncData} {N ps : List Str} {k : Nat} {sp : Addr × Obj → Sp} (F : Fun K x qual st f fd) (S : FnScope N ps (defScope st)) (len : ∀ p vs H Q E, sp p vs H Q E → vs.length = ps.length)
    (hbody : ∀ (cdv : Value) (A : Around) (outer : List Env) (s : Shared) (H : Hp) (vs : List V) (Q : VK) (E : XK) (p : Addr × Obj), Hot1 A p → RoomH k (A.deeper (envOfC qual (defScope st) s.heap.objs.size f cdv)) → sp p vs H Q E →
      ∃ t, PSs (cxH CX0 P w K mg base N qual (defScope st) f cdv A outer s H E p).nox (defBody st) t ∧ t { nx := fun _ H' => Q .non H', rt := Q } (start N vs) H) : FnP P w K mg base (k + 1) f fd ps sp := by
  obtain ⟨oc, od, kV, doc, pm, an, cdv, ct, osl, rfl, lk, hcd⟩ := F.ex
  refine ⟨len, fun A outer s H us vs Q E p hr hot hpin e0 hb r hsp => ?_⟩
  have hl := len _ _ _ _ _ hsp
  have KX : K.In s.heap := e0.mod.kin.keeps fun b o e => (e0.bs b o e).1
  have lim : s.heap.NoLimit := e0.mod.nolimit.keeps fun b o e => (e0.bs b o e).1
  refine codeAny_call_function hr.depth (KX _ _ lk) rfl S.co S.gen rfl (PySem.W.codeRec_of KX hcd) (hb _ _ _ _ (wpAny_newFunctionEnv_cells S.kind (fun ⟨n, v⟩ hy => ?_) fun env he s1 x => ?_))
  · rcases S.par n (List.of_mem_zip hy).1 with q | q
    · exact .inl q
    · exact .inr ⟨q, PySem.W.cellsFrom_some _ _ _ (.inl q)⟩
  · subst he
    obtain ⟨t, ht, hq⟩ := hbody cdv A outer s H vs Q E p hot (hr.deeper _) hsp
    have I : Inv (cxH CX0 P w K mg base N qual (defScope st) f cdv A outer s H E p) [] (start N vs) H s1 := inv_startH S hpin e0 hl r x
    refine ⟨lim.keeps x.toInCall.keep, codeAny_func (wpAny_mono (ht.nox.run [] s1 (start N vs) H _ I hq) (fun fl s' hs => ?_) fun e s' hs => hs)⟩
    cases fl with
    | ret u => obtain ⟨v, σ', H', J, rv, q⟩ := hs; exact ⟨v, H', J.os, J.bare, J.base, J.hok, rv, q⟩
    | next => obtain ⟨σ', H', J, q⟩ := hs; exact ⟨.non, H', J.os, J.bare, J.base, J.hok, rfl, q⟩
    | brk => obtain ⟨_, _, _, q⟩ := hs; exact q.elim
    | cont => obtain ⟨_, _, _, q⟩ := hs; exact q.elim
/-- f(e, ..), p the error that is handled here -/
def tCallP (sp : Sp) (t : TA) : TE := fun σ H Q => t σ H fun vs H1 => sp vs H1 Q (fun _ _ _ => False)
open L2H PyProof.Rows in
theorem pe_callP {X : Cx} {k : Nat} {f : Addr} {fd : FuncData} {ps : List Str} {sp : Addr × Obj → Sp} {x : Str} {q pos : Pos} {e : Expr} {es : List Expr} {t : TA} {p : Addr × Obj} (F : FnP X.prog X.w X.K X.mg X.base k f fd ps sp) (hr : RoomH k X.A) (hot : Hot1 X.A p) (hp : p ∈ X.pn) (hg : Gl X x) (hm : X.mg x = some (.ref f))
    (hk : PySem.W.keepIn X.K (.ref f) = true) (hb : Binds X.K fd ps []) (ha : PA X (e :: es) t) (hdb : (x == ("__debug__" : Str)) = false := by decide) (he : starEach (e :: es) X.env = (false, eval e X.env) :: starEach es X.env := by rfl) (hpl : (backTo pos (starEach es X.env)).any (·.1) = false := by rfl) :
    PE X (.Call (.Name x q) (e :: es) [] pos) (tCallP (sp p) t) := by
  refine ⟨fun pins s σ H Q I h => wpAny_Call_Name_kw (ld_glob I hg hm (PySem.W.callWith_K (h₀ := X.base) I.ok.mod.kin hk (thn (ha.run pos pins s σ H _ I h) fun us s1 ⟨vs, H1, I1, r, q⟩ => ⟨I1.kIn, ?_⟩) he hpl) hdb)⟩
  have hl : us.length = ps.length := by rw [← r.length]; exact F.len _ _ _ _ _ q
  have b := hb s1 us I1.kIn (by rw [List.append_nil]; exact hl)
  rw [List.append_nil] at b
  have P1 := I1.pin p (List.mem_append_left _ hp)
  show wpAny _ _ (call (.ref f) us) _ _ _
  refine wpAny_call (codeAny_mono (F.run X.A X.stack s1 H1 us vs Q (fun _ _ _ => False) p hr hot ⟨P1.1, P1.2.1, fun hm => (List.mem_cons.mp (I1.stkSub p.1 hm)).elim P1.2.2.1 P1.2.2.2.1, P1.2.2.2.2⟩ I1.env0 b r q) fun r s' hq => ?_)
  cases r with
  | error e => exact hq.elim
  | ok fl =>
    cases fl with
    | ret u => exact I1.after hq
    | next => exact hq.elim
    | brk => exact hq.elim
    | cont => exact hq.elim
/-- the error that a suite holds is handled there -/
theorem hot_suite {X : Cx} {a : Addr} {oe : Obj} {cls : Value} {d : Option Addr} {pn : List (Addr × Obj)} (hz : L2N.Zn cls d oe) (hf : ∃ vs, oe.data = .fields vs) : L2H.Hot1 (X.suite a ((a, oe) :: pn)).A (a, oe) := by
  obtain ⟨vs, hv⟩ := hf
  exact ⟨rfl, vs, hv, hz.2.2 vs hv⟩
/-! ### [elt for name in range(..)] within an except suite -/
/-- a comprehension's block, the handled error pinned -/
abbrev blkP (X : Cx) (p : Addr × Obj) (s : Shared) (H : Hp) (scope : Scope) (ce : Env) (fp : List Addr) : Cx := { X.blk s H scope ce fp with pn := [p] }
section
open L2H PyProof.Rows
variable {X : Cx} {p : Addr × Obj}
theorem blk_pin {pins : List (Addr × Obj)} {σ : L2.St} {H H0 : Hp} {s s0 : Shared} {scope : Scope} {ce : Env} {fp : List Addr} (I : Inv (X.blk s0 H0 scope ce fp) pins σ H s) (h : s.heap.get? p.1 = some p.2 ∧ H p.1 = none ∧ p.1 ≠ ce.locals ∧ p.1 ∉ frs X.stack ∧ ∀ v, p.2.data ≠ .cell v) : Inv (blkP X p s0 H0 scope ce fp) pins σ H s :=
  ⟨⟨I.ok.mod, I.ok.kind, I.ok.glob, I.ok.blt, I.ok.above, I.ok.inj, I.ok.has, I.ok.cab, I.ok.hd, I.ok.frames, I.ok.stk, I.ok.exf, I.ok.bs, I.ok.bsz, I.ok.noex, I.ok.exfs, I.ok.funs, I.ok.frf⟩, I.os, I.bare, I.base, I.loc, I.cell, I.free, I.freeC, fun q hq => by
    rcases List.mem_append.mp hq with hq | hq
    · rw [List.mem_singleton.mp hq]; exact h
    · exact I.pin q (List.mem_append_right _ hq), I.hok, I.len⟩
theorem pe_lcP {elt tg iter : Expr} {scope : Scope} {own : List (Str × Nat)} {pos : Pos} {wi : TI} {g : TG} {te : TE} (hot : Hot1 X.A p) (hp : p ∈ X.pn) (hN : X.N.Nodup) (hi : PIH X tg iter wi) (ok : BlkOk X.N X.env.scope scope own)
    (hg : ∀ (s : Shared) (H : Hp) (C : Addr) (cl : List (Str × Addr)) (fp : List Addr), PG (blkP X p s H scope (compEnvC scope cl C X.env) fp) tg g)
    (he : ∀ (s : Shared) (H : Hp) (C : Addr) (cl : List (Str × Addr)) (fp : List Addr), PE (blkP X p s H scope (compEnvC scope cl C X.env) fp) elt te) (hs : ∀ x, foldedSetIterable iter X.env x = pure x := by intro _; rfl) :
    PE X (.ListComp elt [⟨tg, iter, [], 0⟩] scope pos) (tLc wi g tYes te (own.map (·.2))) := by
  refine ⟨fun pins s σ H Q I h => ?_⟩
  rw [eval_ListComp]
  refine wpAny_comprehension_free (use := none) rfl hs (closure_ok fun y hy e => ?_) ok.kind (fun y hy e => by rw [ok.uniq y hy, e]) (thn (hi.run pins s σ H _ I h) fun xv s1 hx => thn hx fun itv s2 h2 => ?_)
  · rcases ok.free y hy e with k | k
    · exact I.ok.has _ (.inl k)
    · exact I.ok.has _ (.inr k)
  obtain ⟨it, fp, tn, J, H2, e, I2, T, st2, f2, q⟩ := h2
  subst e
  refine wpAny_newObj_type (newEnv_comp ?_) (by show 0 ≤ sizeLine; decide)
  generalize hD : s2.heap.objs.size = D
  obtain ⟨W, ⟨m0, w0⟩, turn⟩ := q D (I2.hok.fresh (Nat.le_of_eq hD))
  generalize hs3 : ({ s2 with heap := s2.heap.push { cls := .type "list", data := .seq ([] : List Value).toArray } } : Shared) = s3
  have h3 : s3.heap = s2.heap.push { cls := .type "list", data := .seq ([] : List Value).toArray } := by rw [← hs3]
  have I3 : Inv X pins σ (upd H2 D (.lst [])) s3 := by
    rw [← hs3]
    exact I2.laid (t' := s2.toks) (fun b o e => Heap.get?_push_of_some _ e) (Nat.le_of_eq hD) ⟨Nat.zero_le _, [], 0, .nil, by rw [← hD]; exact Heap.get?_push_size _ rfl⟩
  have f3 : ∀ b ∈ fp, FpOk X pins (upd H2 D (.lst [])) b ∧ b < s3.heap.objs.size := fun b hb => by
    obtain ⟨o, e, _⟩ := T.obj _ _ st2 b hb
    have lt := Heap.lt_size e
    exact ⟨⟨by rw [upd_ne (by rw [← hD]; exact Nat.ne_of_lt lt)]; exact (f2 b hb).1, (f2 b hb).2⟩, by rw [h3, Heap.size_push]; exact Nat.lt_succ_of_lt lt⟩
  have P3 := I3.pin p (List.mem_append_left _ hp)
  have I4 := block_start I3 ok hN f3
  have pg := hg s3 (upd H2 D (.lst [])) s3.heap.objs.size (cellsFrom (s3.heap.objs.size + 1) scope.names (cloFrom X.env.cells scope.names [])) fp
  have pe := he s3 (upd H2 D (.lst [])) s3.heap.objs.size (cellsFrom (s3.heap.objs.size + 1) scope.names (cloFrom X.env.cells scope.names [])) fp
  have nfp : ∀ b ∈ fp, (upd H2 D (.lst [])) b = none := fun b hb => (f3 b hb).1.1
  show codeAny _ _ (.compStart (.ListComp elt [⟨tg, iter, [], 0⟩] scope pos) 0 (.ref it) (.ref D) (compEnvC scope (cellsFrom (s3.heap.objs.size + 1) scope.names (cloFrom X.env.cells scope.names [])) s3.heap.objs.size X.env)) (compPost (model X.prog X.w) X.A X.xe none (EP X pins σ Q) (.ref D) s3.heap.objs.size) { s3 with heap := pushCells (s3.heap.push { cls := .type "dict", data := .dict #[] }) scope.names }
  generalize hce : compEnvC scope (cellsFrom (s3.heap.objs.size + 1) scope.names (cloFrom X.env.cells scope.names [])) s3.heap.objs.size X.env = ce at I4 pg pe ⊢
  have cL : ce.locals = s3.heap.objs.size := by subst hce; rfl
  generalize hH3 : upd H2 D (.lst []) = H3 at I3 I4 pg pe w0 nfp f3 P3
  generalize hs4 : ({ s3 with heap := pushCells (s3.heap.push { cls := .type "dict", data := .dict #[] }) scope.names } : Shared) = s4 at I4 ⊢
  have kp4 : ∀ b o, s3.heap.get? b = some o → s4.heap.get? b = some o := fun b o e => by rw [← hs4]; exact pushCells_keeps _ _ _ _ (Heap.get?_push_of_some _ e)
  have st4 : tn 0 s4.heap := T.keep _ _ _ st2 fun b _ o e => kp4 b o (by rw [h3]; exact Heap.get?_push_of_some _ e)
  have I5 : Inv (blkP X p s3 H3 scope ce fp) [] (wipe σ (own.map (·.2))) H3 s4 := blk_pin I4 ⟨kp4 _ _ P3.1, P3.2.1, by rw [cL]; exact Nat.ne_of_lt (Heap.lt_size P3.1), fun hm => (List.mem_cons.mp (I3.stkSub p.1 hm)).elim P3.2.2.1 P3.2.2.2.1, P3.2.2.2.2⟩
  have hotB : HotC (blkP X p s3 H3 scope ce fp) := ⟨p, hot, List.mem_singleton.mpr rfl⟩
  have stat : ∀ {σ' : L2.St} {H' : Hp} {s' : Shared}, Inv (blkP X p s3 H3 scope ce fp) [] σ' H' s' → (∀ b ∈ fp, H' b = none) → ∀ b ∈ fp, FpOk (blkP X p s3 H3 scope ce fp) [] H' b := fun {σ' H' s'} I' hn b hb =>
    ⟨hn b hb, (I'.ok.exf b hb).1, I'.ok.exfs b hb, .inl hb, fun x c e => (I'.ok.exf b hb).2 x c e, fun r hr => by
      have er : r = p := by simpa using (show r ∈ [p] ++ ([] : List (Addr × Obj)) from hr)
      rw [er]
      exact (f3 b hb).1.2.2.2.2.2 p (List.mem_append_left _ hp)⟩
  have loop : codeAny (model X.prog X.w) X.A (.compLoop (.ListComp elt [⟨tg, iter, [], 0⟩] scope pos) 0 (.ref it) (.ref D) ce) (compPost (model X.prog X.w) X.A X.xe none (EP X pins σ Q) (.ref D) s3.heap.objs.size) s4 := by
    refine compLoop_any (fun n s' => ∃ i H', Inv (blkP X p s3 H3 scope ce fp) [] (wipe σ (own.map (·.2))) H' s' ∧ tn i s'.heap ∧ (∀ b ∈ fp, H' b = none) ∧ W i n H') ?_ m0 ⟨0, H3, I5, st4, nfp, w0⟩
    rintro n s5 ⟨i, H5, I5, st5, n5, w5⟩
    rcases turn i n H5 w5 with ⟨stop, qq⟩ | ⟨go, Nx, hNx, step⟩
    · refine thnF (T.done (blkP X p s3 H3 scope ce fp) rfl rfl rfl hotB i [] s5 _ H5 (fun _ _ => False) I5 (stat I5 n5) st5 stop) fun r s6 ⟨hr, I6⟩ => ?_
      subst hr
      have I7 : Inv X pins σ H5 s6 := I3.call' (ch := fp) I6.os I6.base I6.hok I6.bare fun b hb => ⟨(f3 b hb).1.2.2.2.1, (f3 b hb).1.2.1, (f3 b hb).1.2.2.2.2.1, (f3 b hb).1.2.2.2.2.2⟩
      have nC : H5 s3.heap.objs.size = none := cL ▸ (show H5 ce.locals = none from I6.free)
      obtain ⟨m, hn, _⟩ := I6.loc
      have hn : s6.heap.Ns s3.heap.objs.size m := cL ▸ (show s6.heap.Ns ce.locals m from hn)
      obtain ⟨f0, f1, f2', f3', f4, f5⟩ := I3.fpOk (Nat.le_refl _) nC
      exact ⟨m, hn, fun h'' sb => ⟨.ref D, H5, I7.turned (t' := s6.toks) (fun b o hb e => (sb.2 b hb).trans e) f0 f1 f3' f4 f5, rfl, qq⟩⟩
    · refine thnF (T.item (blkP X p s3 H3 scope ce fp) rfl rfl rfl hotB i [] s5 _ H5 (fun _ _ => False) I5 (stat I5 n5) st5 go) fun r s6 ⟨u, hr, h6⟩ => ?_
      subst hr
      refine thnF h6 fun _ s7 ⟨x, H7, I7, r7, y7, st7, n7⟩ => thnF (pg.run _ s7 _ H7 x u _ (I7.pinned (stat I7 n7) (T.obj _ _ st7)) r7 (step x H7 y7)) fun _ s8 ⟨σ8, H8, I8, hw8, q8⟩ => thnF ((pts_nil (X := blkP X p s3 H3 scope ce fp)).run _ s8 σ8 H8 _ I8 q8) fun b s9 ⟨H9, I9, q9⟩ => ?_
      have fin : ∀ {s' : Shared} {H' : Hp}, Inv (blkP X p s3 H3 scope ce fp) ([] ++ pinsAt fp s7.heap) σ8 H' s' → Nx H' → ∃ m, m < n ∧ ∃ i H', Inv (blkP X p s3 H3 scope ce fp) [] (wipe σ (own.map (·.2))) H' s' ∧ tn i s'.heap ∧ (∀ b ∈ fp, H' b = none) ∧ W i m H' := fun {s' H'} I' nx => by
        obtain ⟨m', hm, w'⟩ := hNx H' nx
        have pin' : ∀ b ∈ fp, ∀ o, s7.heap.get? b = some o → s'.heap.get? b = some o ∧ H' b = none := fun b hb o e => ⟨(I'.pin (b, o) (List.mem_append_right _ (List.mem_append_right _ (mem_pinsAt hb e)))).1, (I'.pin (b, o) (List.mem_append_right _ (List.mem_append_right _ (mem_pinsAt hb e)))).2.1⟩
        refine ⟨m', hm, i + 1, H', (I'.unpinned (pins := [])).weak (by rw [← hw8, wipe_length]) (fun j v e => (wipe_some (by rw [← hw8] at e; exact e)).1), T.keep _ _ _ st7 fun b hb o e => (pin' b hb o e).1, fun b hb => ?_, w'⟩
        obtain ⟨o, e, _⟩ := T.obj _ _ st7 b hb
        exact (pin' b hb o e).2
      cases b with
      | false =>
        simp only [Bool.false_eq_true, if_false] at q9 ⊢
        exact fin I9 q9
      | true =>
        simp only [if_true] at q9 ⊢
        exact thnF (pe.run _ s9 σ8 H9 _ I9 q9) fun z s10 ⟨yv, H10, I10, r10, acc, hD10, hz10, nx⟩ => app_ok (X := blkP X p s3 H3 scope ce fp) I10 hD10 hz10 r10 fun s11 I11 => fin I11 nx
  exact codeAny_compStart_list loop (T.self X.A 0 _ _ _ st4 loop)
end

/-! ### the errors -/
abbrev sXI0 : Stmt := inClass (topS 2) 0
abbrev NXI0 : List Str := ["self", "value"]
abbrev PXI0 : List Str := ["self", "value"]
theorem scXI0 : FnScope NXI0 PXI0 (defScope sXI0) := ⟨rfl, rfl, rfl, by decide +kernel, rfl, by decide +kernel, by decide +kernel⟩
theorem ok_XI0 {P : Program} {w : World} {K : PySem.W.Frag} {mg : Str → Option Value} {base : Heap} {f C : Addr} {fd : FuncData} (F : Fun K "__init__" "InvalidText.__init__" sXI0 f fd) (T : OexG K C) (hn : PySem.W.findIn K (.ref C) "value" = some none) : FnOk P w K mg base CX0 1 f fd PXI0 (spX C "value") := by
  refine F.ok scXI0 (fun vs H Q E h => ?_) fun cdv A outer s H vs Q E hr h => ⟨_, pss_one (ps_ostG (pv 0) (pv 1)), ?_⟩
  · obtain ⟨a, v, rfl, _⟩ := h; rfl
  · obtain ⟨a, v, rfl, ea, q⟩ := h; exact ⟨_, rfl, _, rfl, a, C, rfl, T, hn, ea, q⟩
abbrev sXI1 : Stmt := inClass (topS 3) 0
abbrev NXI1 : List Str := ["self", "position"]
abbrev PXI1 : List Str := ["self", "position"]
theorem scXI1 : FnScope NXI1 PXI1 (defScope sXI1) := ⟨rfl, rfl, rfl, by decide +kernel, rfl, by decide +kernel, by decide +kernel⟩
theorem ok_XI1 {P : Program} {w : World} {K : PySem.W.Frag} {mg : Str → Option Value} {base : Heap} {f C : Addr} {fd : FuncData} (F : Fun K "__init__" "InvalidSyntax.__init__" sXI1 f fd) (T : OexG K C) (hn : PySem.W.findIn K (.ref C) "position" = some none) : FnOk P w K mg base CX0 1 f fd PXI1 (spX C "position") := by
  refine F.ok scXI1 (fun vs H Q E h => ?_) fun cdv A outer s H vs Q E hr h => ⟨_, pss_one (ps_ostG (pv 0) (pv 1)), ?_⟩
  · obtain ⟨a, v, rfl, _⟩ := h; rfl
  · obtain ⟨a, v, rfl, ea, q⟩ := h; exact ⟨_, rfl, _, rfl, a, C, rfl, T, hn, ea, q⟩
abbrev sXI2 : Stmt := inClass (topS 4) 0
abbrev NXI2 : List Str := ["self", "word"]
abbrev PXI2 : List Str := ["self", "word"]
theorem scXI2 : FnScope NXI2 PXI2 (defScope sXI2) := ⟨rfl, rfl, rfl, by decide +kernel, rfl, by decide +kernel, by decide +kernel⟩
theorem ok_XI2 {P : Program} {w : World} {K : PySem.W.Frag} {mg : Str → Option Value} {base : Heap} {f C : Addr} {fd : FuncData} (F : Fun K "__init__" "TooLarge.__init__" sXI2 f fd) (T : OexG K C) (hn : PySem.W.findIn K (.ref C) "word" = some none) : FnOk P w K mg base CX0 1 f fd PXI2 (spX C "word") := by
  refine F.ok scXI2 (fun vs H Q E h => ?_) fun cdv A outer s H vs Q E hr h => ⟨_, pss_one (ps_ostG (pv 0) (pv 1)), ?_⟩
  · obtain ⟨a, v, rfl, _⟩ := h; rfl
  · obtain ⟨a, v, rfl, ea, q⟩ := h; exact ⟨_, rfl, _, rfl, a, C, rfl, T, hn, ea, q⟩
structure ErrH (P : Program) (w : World) (K : PySem.W.Frag) (mg : Str → Option Value) (base : Heap) (C : Nat → Addr) : Prop where
  h0 : HasX P w K mg base 1 "InvalidText" (C 0) "value"
  h1 : HasX P w K mg base 1 "InvalidSyntax" (C 1) "position"
  h2 : HasX P w K mg base 1 "TooLarge" (C 2) "word"
open PyProof.Rows in
/-- as Fun.ok, for a def that errors leave -/
theorem Fun.okN {P : Program} {w : World} {K : PySem.W.Frag} {mg : Str → Option Value} {base : Heap} {x qual : Str} {st : Stmt} {f : Addr} {fd : FuncData} {N ps : List Str} {k : Nat} {sp : Sp} (F : Fun K x qual st f fd) (S : FnScope N ps (defScope st)) (len : ∀ vs H Q E, sp vs H Q E → vs.length = ps.length)
    (hbody : ∀ (cdv : Value) (A : Around) (outer : List Env) (s : Shared) (H : Hp) (vs : List V) (Q : VK) (E : XK), Room k (A.deeper (envOfC qual (defScope st) s.heap.objs.size f cdv)) → sp vs H Q E →
      ∃ t, PSs (cxOf (L2N.CX P w) P w K mg base N qual (defScope st) f cdv A outer s H E) (defBody st) t ∧ t { nx := fun _ H' => Q .non H', rt := Q } (start N vs) H) : FnOk P w K mg base (L2N.CX P w) (k + 1) f fd ps sp := by
  obtain ⟨oc, od, kV, doc, pm, an, cdv, ct, osl, rfl, lk, hcd⟩ := F.ex
  exact fn_of lk hcd S len fun A outer s H vs Q E hr hsp => hbody cdv A outer s H vs Q E hr hsp
theorem pe_callSH {X : Cx} {CX : CXT} {k : Nat} {x : Str} {ps : List Str} {sp : Sp} {E : L2.St → XK} {e : Expr} {es : List Expr} {t : TA} {p pos : Pos} (F : Has X.prog X.w X.K X.mg X.base CX k x ps sp) (hr : Room k X.A) (hg : Gl X x) (hx : ∀ σ, PassesAt CX X σ (E σ)) (ha : PA X (e :: es) t)
    (hd : (x == ("__debug__" : Str)) = false := by decide) (he : starEach (e :: es) X.env = (false, eval e X.env) :: starEach es X.env := by rfl) (hpl : (backTo pos (starEach es X.env)).any (·.1) = false := by rfl) :
    PE X (.Call (.Name x p) (e :: es) [] pos) (tCallS sp E t) := by
  obtain ⟨f, fd, F, m, kp, b⟩ := F.ex
  exact pe_callS F hr hg m kp b hx ha hd he hpl
/-- raise C(e) in a def that errors leave -/
theorem ps_raiseX {X : Cx} {W : WX} {x : Str} {C : Addr} {f : Str} {k : Nat} {e : Expr} {ta : TA} {p pos pos' : Pos} (hc : X.calm = true) (tk : L2N.Takes X W) (T : HasX X.prog X.w X.K X.mg X.base k x C f) (hr : Room (k + 1) X.A) (hg : Gl X x) (ha : PA X [e] ta)
    (hdb : (x == ("__debug__" : Str)) = false := by decide) (he : starEach [e] X.env = (false, eval e X.env) :: starEach [] X.env := by rfl) : PS X (.Raise (some (.Call (.Name x p) [e] [] pos)) none pos') (fun _ σ H => tMkX C f ta σ H fun cls d H' => W cls d σ H') :=
  L2N.ps_raise hc tk (pmk_x T hr hg ha hdb he)

/-! ### what the Reader accepts, and where it stops -/
/-- how reading a text ends where it is none -/
inductive RdE where
  | syn (p : Nat) | large (w : Str)
abbrev Tl := List TK
abbrev RdR := Except RdE Tl
def kindH : Tl → Str
  | [] => ""
  | k :: _ => k.1
def textH : Tl → Str
  | [] => ""
  | k :: _ => k.2.1
def posH : Tl → Nat
  | [] => 0
  | k :: _ => k.2.2
def isW (w : Str) (l : Tl) : Bool := decide (kindH l = "mark") && decide (textH l = w)
def isN (l : Tl) : Bool := decide (kindH l = "name")
def synE (l : Tl) : RdR := .error (.syn (posH l))
def andR (r : RdR) (k : Tl → RdR) : RdR := match r with
  | .error e => .error e
  | .ok l => k l
def rExp (w : Str) (l : Tl) : RdR := if isW w l then .ok l.tail else synE l
def rName (l : Tl) : RdR := if isN l then .ok l.tail else synE l
/-- a token and what belongs to it, again and again -/
def rLoop (c : Tl → Bool) (f : Tl → RdR) : Nat → Tl → RdR
  | 0, l => .ok l
  | n + 1, l => if c l then andR (f l.tail) (rLoop c f n) else .ok l
/-- more of the same behind commas -/
abbrev rMore (f : Tl → RdR) : Nat → Tl → RdR := rLoop (isW ",") f
def rNames (l : Tl) : RdR := andR (rName l) fun l1 => rMore rName l1.length l1
def rRow (l : Tl) : RdR := andR (rName l) fun l1 => rLoop isN (fun l => .ok l) l1.length l1
def rTerm (l : Tl) : RdR :=
  if isN l then .ok l.tail
  else if kindH l = "number" then
    (if (textH l).length ≤ 12 then (if isW "*" l.tail then rName l.tail.tail else .ok l.tail) else .error (.large "numbers"))
  else synE l
def rSum : Nat → Tl → RdR
  | 0, l => .ok l
  | n + 1, l => andR (rTerm l) fun l1 => if isW "+" l1 then rSum n l1.tail else if isW "-" l1 then rSum n l1.tail else .ok l1
def rExpr (l : Tl) : RdR := rSum (l.length + 1) (if isW "-" l then l.tail else l)
def rArg (l : Tl) : RdR := if isW "&" l then rName l.tail else rExpr l
def rArgs (l : Tl) : RdR := andR (rExp "(" l) fun l1 => if isW ")" l1 then .ok l1.tail else andR (rArg l1) fun l2 => andR (rMore rArg l2.length l2) (rExp ")")
/-- what is set -/
def rSet (l : Tl) : RdR := if isW "?" l then .ok l.tail else if isN l && decide (textH l.tail = "(") then andR (rName l) rArgs else rExpr l
def rAction (l : Tl) : RdR := andR (rName l) fun l1 => if isW "(" l1 then rArgs l1 else andR (rExp "=" l1) rSet
section
variable (blk : Tl → RdR)
def rHand (l : Tl) : RdR := andR (rNames l) blk
def rTry (l : Tl) : RdR := andR (blk l) fun l1 =>
  if isW "except" l1 then andR (rHand blk l1.tail) fun l2 => andR (rLoop (isW "except") (rHand blk) l2.length l2) fun l3 => if isW "finally" l3 then blk l3.tail else .ok l3
  else andR (rExp "finally" l1) blk
def rWith (l : Tl) : RdR := andR (rName l) fun l1 => andR (rArgs l1) fun l2 => andR (rExp "," l2) fun l3 => andR (rName l3) fun l4 => andR (rArgs l4) fun l5 => andR (if isW "swallow" l5 then rNames l5.tail else .ok l5) blk
def rStmt (l : Tl) : RdR :=
  if isN l then rAction l
  else if isW "if" l then andR (blk l.tail) fun l1 => if isW "else" l1 then blk l1.tail else .ok l1
  else if isW "while" l then blk l.tail
  else if isW "risk" l then rNames l.tail
  else if isW "raise" l then rName l.tail
  else if isW "try" l then rTry blk l.tail
  else if isW "undo" l then andR (rNames l.tail) blk
  else if isW "with" l then rWith blk l.tail
  else andR (rExp "return" l) rExpr
def rStmts : Nat → Tl → RdR
  | 0, l => .ok l
  | n + 1, l => if isW "}" l then .ok l.tail else andR (rStmt blk l) (rStmts n)
end
/-- a block with m more blocks allowed within -/
def rBlock : Nat → Tl → RdR
  | 0, l => if isW "{" l then .error (.large "nesting") else synE l
  | m + 1, l => andR (rExp "{" l) fun l1 => rStmts (rBlock m) (l1.length + 1) l1
def rParam (l : Tl) : RdR := rName (if isW "&" l then l.tail else l)
def rFunction (l : Tl) : RdR := andR (rName l) fun l1 => andR (rExp "(" l1) fun l2 => andR (if isW ")" l2 then .ok l2.tail else andR (rParam l2) fun l3 => andR (rMore rParam l3.length l3) (rExp ")")) (rBlock 30)
def rProgram (l : Tl) : RdR := andR (if isW "globals" l then rRow l.tail else .ok l) fun l1 => andR (if isW "kinds" l1 then rRow l1.tail else .ok l1) fun l2 => andR (rLoop (isW "keep") rExpr l2.length l2) fun l3 => andR (rLoop (isW "def") rFunction l3.length l3) fun l4 => if kindH l4 = "end" then .ok l4 else synE l4
/-! #### a text that is cut -/
/-- the token at which no other begins -/
def badT (p : Nat) : TK := ("bad", "", p)
/-- tokens that are no end -/
def Inn (P : Tl) : Prop := ∀ k ∈ P, k.1 ≠ "end" ∧ k.1 ≠ "bad"
/-- what a reader does with a part P of its tokens, followed by what is none: as with all tokens, as long as it stays within P; or it stops at the cut -/
def Cut (f : Tl → RdR) : Prop := ∀ (P Q : Tl) (p : Nat) (R : Tl), Inn P → f (P ++ Q) = .ok R → (∃ P', R = P' ++ Q ∧ P' <:+ P ∧ f (P ++ [badT p]) = .ok (P' ++ [badT p])) ∨ f (P ++ [badT p]) = .ok [badT p] ∨ f (P ++ [badT p]) = .error (.syn p)

/-! ### a text that is cut: the Reader stops at the cut -/
section
variable {f g : Tl → RdR} {b : TK}
/-- at the cut itself -/
def Stop (f : Tl → RdR) : Prop := ∀ p : Nat, f [badT p] = .ok [badT p] ∨ f [badT p] = .error (.syn p)
/-- what is left is an end part of what was there -/
def Suf (f : Tl → RdR) : Prop := ∀ l R, f l = .ok R → R <:+ l
theorem and_ok {r : RdR} {k : Tl → RdR} {R : Tl} (h : andR r k = .ok R) : ∃ M, r = .ok M ∧ k M = .ok R := by
  cases r with
  | error e => cases h
  | ok M => exact ⟨M, rfl, h⟩
theorem Suf.and (hf : Suf f) (hg : Suf g) : Suf fun l => andR (f l) g := fun l R h => by
  obtain ⟨M, h1, h2⟩ := and_ok h
  exact (hg M R h2).trans (hf l M h1)
theorem Stop.and (hf : Stop f) (hg : Stop g) : Stop fun l => andR (f l) g := fun p => by
  rcases hf p with e | e
  · show andR (f [badT p]) g = _ ∨ andR (f [badT p]) g = _
    rw [e]
    exact hg p
  · show andR (f [badT p]) g = _ ∨ andR (f [badT p]) g = _
    rw [e]
    exact .inr rfl
theorem Inn.suf {P P' : Tl} (h : Inn P) (s : P' <:+ P) : Inn P' := fun k hk => h k (s.subset hk)
/-- one part done, and then another -/
theorem Cut.and (hf : Cut f) (hg : Cut g) (sg : Stop g) : Cut fun l => andR (f l) g := fun P Q p R hP h => by
  obtain ⟨M, h1, h2⟩ := and_ok h
  show (∃ P', R = P' ++ Q ∧ P' <:+ P ∧ andR (f (P ++ [badT p])) g = _) ∨ andR (f (P ++ [badT p])) g = _ ∨ andR (f (P ++ [badT p])) g = _
  rcases hf P Q p M hP h1 with ⟨P', rfl, s, e⟩ | e | e
  · rw [e]
    rcases hg P' Q p R (hP.suf s) h2 with ⟨P2, rfl, s2, e2⟩ | e2 | e2
    · exact .inl ⟨P2, rfl, s2.trans s, e2⟩
    · exact .inr (.inl e2)
    · exact .inr (.inr e2)
  · rw [e]
    rcases sg p with e2 | e2
    · exact .inr (.inl e2)
    · exact .inr (.inr e2)
  · rw [e]
    exact .inr (.inr rfl)
/-- where the part is empty, the cut itself is looked at -/
theorem Cut.of (sf : Stop f) (h : ∀ (x : TK) (P Q : Tl) (p : Nat) (R : Tl), x.1 ≠ "end" → x.1 ≠ "bad" → Inn P → f (x :: (P ++ Q)) = .ok R → (∃ P', R = P' ++ Q ∧ P' <:+ x :: P ∧ f (x :: (P ++ [badT p])) = .ok (P' ++ [badT p])) ∨ f (x :: (P ++ [badT p])) = .ok [badT p] ∨ f (x :: (P ++ [badT p])) = .error (.syn p)) : Cut f := fun P Q p R hP e => by
  cases P with
  | nil =>
    rcases sf p with z | z
    · exact .inr (.inl z)
    · exact .inr (.inr z)
  | cons x P => exact h x P Q p R (hP x List.mem_cons_self).1 (hP x List.mem_cons_self).2 (fun k hk => hP k (List.mem_cons_of_mem _ hk)) e
theorem Cut.ok : Cut fun l => (.ok l : RdR) := fun P Q p R _ h => .inl ⟨P, by cases h; rfl, List.suffix_refl _, rfl⟩
/-- behind one token -/
theorem cut_tail {x : TK} {P Q : Tl} {p : Nat} {R : Tl} {h : Tl → RdR} (hc : Cut h) (hP : Inn P) (e : h (P ++ Q) = .ok R) : (∃ P', R = P' ++ Q ∧ P' <:+ x :: P ∧ h (P ++ [badT p]) = .ok (P' ++ [badT p])) ∨ h (P ++ [badT p]) = .ok [badT p] ∨ h (P ++ [badT p]) = .error (.syn p) := by
  rcases hc P Q p R hP e with ⟨P', h1, h2, h3⟩ | z | z
  · exact .inl ⟨P', h1, h2.trans (List.suffix_cons _ _), h3⟩
  · exact .inr (.inl z)
  · exact .inr (.inr z)
theorem kind_bad (p : Nat) : kindH [badT p] = "bad" := rfl
theorem isW_bad (w : Str) (p : Nat) : isW w [badT p] = false := by
  unfold isW
  rw [kind_bad, decide_eq_false (by decide +kernel), Bool.false_and]
theorem isN_bad (p : Nat) : isN [badT p] = false := by
  unfold isN
  rw [kind_bad]
  decide +kernel
/-- a choice by the first token -/
theorem Cut.ite {c : Tl → Bool} (hc : ∀ (x : TK) (l m : Tl), c (x :: l) = c (x :: m)) (hf : Cut f) (hg : Cut g) (st : Stop fun l => if c l = true then f l else g l) : Cut fun l => if c l = true then f l else g l := Cut.of st fun x P Q p R h1 h2 hP e => by
  have e : (if c (x :: (P ++ Q)) = true then f (x :: (P ++ Q)) else g (x :: (P ++ Q))) = .ok R := e
  show (∃ P', R = P' ++ Q ∧ P' <:+ x :: P ∧ (if c (x :: (P ++ [badT p])) = true then f (x :: (P ++ [badT p])) else g (x :: (P ++ [badT p]))) = _) ∨ (if c (x :: (P ++ [badT p])) = true then f (x :: (P ++ [badT p])) else g (x :: (P ++ [badT p]))) = _ ∨ (if c (x :: (P ++ [badT p])) = true then f (x :: (P ++ [badT p])) else g (x :: (P ++ [badT p]))) = _
  have hx : Inn (x :: P) := fun k hk => by
    rcases List.mem_cons.mp hk with rfl | z
    · exact ⟨h1, h2⟩
    · exact hP k z
  rw [hc x (P ++ [badT p]) (P ++ Q)]
  by_cases z : c (x :: (P ++ Q)) = true
  · rw [if_pos z] at e
    rw [if_pos z]
    exact hf (x :: P) Q p R hx e
  · rw [if_neg z] at e
    rw [if_neg z]
    exact hg (x :: P) Q p R hx e
theorem isW_hd (w : Str) (x : TK) (l m : Tl) : isW w (x :: l) = isW w (x :: m) := rfl
theorem isN_hd (x : TK) (l m : Tl) : isN (x :: l) = isN (x :: m) := rfl
/-- behind the first token, where it is one of those that are no end -/
theorem Cut.tl {c : Tl → Bool} (hc : ∀ (x : TK) (l m : Tl), c (x :: l) = c (x :: m)) (cb : ∀ p, c [badT p] = false) (hf : Cut f) (hg : Cut g) (sg : Stop g) : Cut fun l => if c l = true then f l.tail else g l := by
  have st : Stop fun l => if c l = true then f l.tail else g l := fun p => by
    show (if c [badT p] = true then _ else g [badT p]) = _ ∨ (if c [badT p] = true then _ else g [badT p]) = _
    rw [cb p, if_neg (by decide)]
    exact sg p
  refine Cut.of st fun x P Q p R h1 h2 hP e => ?_
  have e : (if c (x :: (P ++ Q)) = true then f (P ++ Q) else g (x :: (P ++ Q))) = .ok R := e
  show (∃ P', R = P' ++ Q ∧ P' <:+ x :: P ∧ (if c (x :: (P ++ [badT p])) = true then f (P ++ [badT p]) else g (x :: (P ++ [badT p]))) = _) ∨ (if c (x :: (P ++ [badT p])) = true then f (P ++ [badT p]) else g (x :: (P ++ [badT p]))) = _ ∨ (if c (x :: (P ++ [badT p])) = true then f (P ++ [badT p]) else g (x :: (P ++ [badT p]))) = _
  have hx : Inn (x :: P) := fun k hk => by
    rcases List.mem_cons.mp hk with rfl | z
    · exact ⟨h1, h2⟩
    · exact hP k z
  rw [hc x (P ++ [badT p]) (P ++ Q)]
  by_cases z : c (x :: (P ++ Q)) = true
  · rw [if_pos z] at e
    rw [if_pos z]
    exact cut_tail hf hP e
  · rw [if_neg z] at e
    rw [if_neg z]
    exact hg (x :: P) Q p R hx e
theorem Stop.tl {c : Tl → Bool} (cb : ∀ p, c [badT p] = false) (sg : Stop g) : Stop fun l => if c l = true then f l.tail else g l := fun p => by
  show (if c [badT p] = true then _ else g [badT p]) = _ ∨ (if c [badT p] = true then _ else g [badT p]) = _
  rw [cb p, if_neg (by decide)]
  exact sg p
theorem Stop.ok : Stop fun l => (.ok l : RdR) := fun _ => .inl rfl
theorem Stop.syn : Stop synE := fun _ => .inr rfl
theorem Cut.syn : Cut synE := fun _ _ _ _ _ h => nomatch h
theorem cut_exp (w : Str) : Cut (rExp w) := Cut.tl (f := fun l => .ok l) (isW_hd w) (isW_bad w) Cut.ok Cut.syn Stop.syn
theorem stop_exp (w : Str) : Stop (rExp w) := Stop.tl (f := fun l => .ok l) (isW_bad w) Stop.syn
theorem cut_name : Cut rName := Cut.tl (f := fun l => .ok l) isN_hd isN_bad Cut.ok Cut.syn Stop.syn
theorem stop_name : Stop rName := Stop.tl (f := fun l => .ok l) isN_bad Stop.syn
theorem tail_suf (l : Tl) : l.tail <:+ l := List.tail_suffix l
theorem Suf.tl {c : Tl → Bool} (hf : Suf f) (hg : Suf g) : Suf fun l => if c l = true then f l.tail else g l := fun l R h => by
  have h : (if c l = true then f l.tail else g l) = .ok R := h
  split at h
  · exact (hf _ _ h).trans (tail_suf l)
  · exact hg _ _ h
theorem Suf.ok : Suf fun l => (.ok l : RdR) := fun l R h => by cases h; exact List.suffix_refl _
theorem Suf.syn : Suf synE := fun _ _ h => nomatch h
theorem suf_exp (w : Str) : Suf (rExp w) := Suf.tl (f := fun l => .ok l) Suf.ok Suf.syn
theorem suf_name : Suf rName := Suf.tl (f := fun l => .ok l) Suf.ok Suf.syn
end

/-! ### the Reader's parts stop at the cut -/
section
variable {f g blk : Tl → RdR}
/-- what is said of a part and the same part cut -/
abbrev CutE (P Q : Tl) (p : Nat) (R : Tl) (r : RdR) : Prop := (∃ P', R = P' ++ Q ∧ P' <:+ P ∧ r = .ok (P' ++ [badT p])) ∨ r = .ok [badT p] ∨ r = .error (.syn p)
theorem CutE.up {P P1 Q : Tl} {p : Nat} {R : Tl} {r : RdR} (h : CutE P1 Q p R r) (s : P1 <:+ P) : CutE P Q p R r := by
  rcases h with ⟨P', h1, h2, h3⟩ | h | h
  · exact .inl ⟨P', h1, h2.trans s, h3⟩
  · exact .inr (.inl h)
  · exact .inr (.inr h)
theorem CutE.of_stop {P Q : Tl} {p : Nat} {R : Tl} (hf : Stop f) : CutE P Q p R (f [badT p]) := by
  rcases hf p with z | z
  · exact .inr (.inl z)
  · exact .inr (.inr z)
theorem suf_loop {c : Tl → Bool} (hf : Suf f) : ∀ n, Suf (rLoop c f n)
  | 0 => Suf.ok
  | n + 1 => fun l R h => by
    have h : (if c l = true then andR (f l.tail) (rLoop c f n) else .ok l) = .ok R := h
    split at h
    · obtain ⟨M, h1, h2⟩ := and_ok h
      exact (suf_loop hf n M R h2).trans ((hf _ _ h1).trans (tail_suf l))
    · cases h; exact List.suffix_refl _
theorem stop_loop {c : Tl → Bool} (cb : ∀ p, c [badT p] = false) (n p : Nat) : rLoop c f n [badT p] = .ok [badT p] := by
  cases n with
  | zero => rfl
  | succ n =>
    show (if c [badT p] = true then _ else _) = _
    rw [cb, if_neg (by decide)]
theorem cut_loop {c : Tl → Bool} (hc : ∀ (x : TK) (l m : Tl), c (x :: l) = c (x :: m)) (cb : ∀ p, c [badT p] = false) (hf : Cut f) (sf : Suf f) : ∀ (k : Nat) (P Q : Tl) (p : Nat) (R : Tl) (n m : Nat), P.length ≤ k → Inn P → (P ++ Q).length ≤ n → P.length + 1 ≤ m → rLoop c f n (P ++ Q) = .ok R → CutE P Q p R (rLoop c f m (P ++ [badT p]))
  | k, [], Q, p, R, n, m, _, _, _, _, _ => .inr (.inl (stop_loop cb m p))
  | 0, x :: P, Q, p, R, n, m, hk, _, _, _, _ => absurd hk (Nat.not_succ_le_zero _)
  | k + 1, x :: P, Q, p, R, n, m, hk, hP, hn, hm, e => by
    have hk : P.length + 1 ≤ k + 1 := hk
    have hn : (P ++ Q).length + 1 ≤ n := hn
    have hm : P.length + 1 + 1 ≤ m := hm
    obtain ⟨n, rfl⟩ : ∃ n', n = n' + 1 := ⟨n - 1, by omega⟩
    obtain ⟨m, rfl⟩ : ∃ m', m = m' + 1 := ⟨m - 1, by omega⟩
    have hP1 : Inn P := fun k hk => hP k (List.mem_cons_of_mem _ hk)
    have e : (if c (x :: (P ++ Q)) = true then andR (f (P ++ Q)) (rLoop c f n) else .ok (x :: (P ++ Q))) = .ok R := e
    show CutE (x :: P) Q p R (if c (x :: (P ++ [badT p])) = true then andR (f (P ++ [badT p])) (rLoop c f m) else .ok (x :: (P ++ [badT p])))
    rw [hc x (P ++ [badT p]) (P ++ Q)]
    by_cases z : c (x :: (P ++ Q)) = true
    · rw [if_pos z] at e
      rw [if_pos z]
      obtain ⟨M, h1, h2⟩ := and_ok e
      rcases hf P Q p M hP1 h1 with ⟨P', rfl, s, e2⟩ | e2 | e2
      · rw [e2]
        have ls := s.length_le
        refine (cut_loop hc cb hf sf k P' Q p R n m (by omega) (hP1.suf s) (by rw [List.length_append] at hn ⊢; omega) (by omega) h2).up (s.trans (List.suffix_cons _ _))
      · rw [e2]
        exact .inr (.inl (stop_loop cb m p))
      · rw [e2]
        exact .inr (.inr rfl)
    · rw [if_neg z] at e
      rw [if_neg z]
      cases e
      exact .inl ⟨x :: P, rfl, List.suffix_refl _, rfl⟩
theorem cut_more {c : Tl → Bool} (hc : ∀ (x : TK) (l m : Tl), c (x :: l) = c (x :: m)) (cb : ∀ p, c [badT p] = false) (hf : Cut f) (sf : Suf f) : Cut fun l => rLoop c f l.length l := fun P Q p R hP e => cut_loop hc cb hf sf P.length P Q p R _ _ (Nat.le_refl _) hP (Nat.le_refl _) (by rw [List.length_append]; exact Nat.le_refl _) e
theorem stop_more {c : Tl → Bool} (cb : ∀ p, c [badT p] = false) : Stop fun l => rLoop c f l.length l := fun p => .inl (stop_loop cb _ p)
theorem suf_more {c : Tl → Bool} (sf : Suf f) : Suf fun l => rLoop c f l.length l := fun l R h => suf_loop sf _ l R h
theorem cut_names : Cut rNames := cut_name.and (cut_more (isW_hd _) (isW_bad _) cut_name suf_name) (stop_more (isW_bad _))
theorem stop_names : Stop rNames := stop_name.and (stop_more (isW_bad _))
theorem suf_names : Suf rNames := suf_name.and (suf_more suf_name)
theorem cut_row : Cut rRow := cut_name.and (cut_more isN_hd isN_bad Cut.ok Suf.ok) (stop_more isN_bad)
theorem stop_row : Stop rRow := stop_name.and (stop_more isN_bad)
theorem suf_row : Suf rRow := suf_name.and (suf_more Suf.ok)
theorem suf_ite {c : Tl → Bool} (hf : Suf f) (hg : Suf g) : Suf fun l => if c l = true then f l else g l := fun l R h => by
  have h : (if c l = true then f l else g l) = .ok R := h
  split at h
  · exact hf _ _ h
  · exact hg _ _ h
theorem suf_tail (hf : Suf f) : Suf fun l => f l.tail := fun l R h => (hf _ _ h).trans (tail_suf l)
/-- a number, and a name behind a star -/
def rNum (l : Tl) : RdR := if (textH l).length ≤ 12 then (if isW "*" l.tail then rName l.tail.tail else .ok l.tail) else .error (.large "numbers")
theorem rTerm_eq (l : Tl) : rTerm l = if isN l = true then .ok l.tail else if decide (kindH l = "number") = true then rNum l else synE l := by
  unfold rTerm rNum
  by_cases h : kindH l = "number"
  · rw [if_pos h, if_pos (decide_eq_true h)]
  · rw [if_neg h, if_neg (fun z => h (of_decide_eq_true z))]
theorem stop_term : Stop rTerm := fun p => by
  rw [rTerm_eq, isN_bad, if_neg (by decide), kind_bad, if_neg (by decide +kernel)]
  exact .inr rfl
theorem suf_term : Suf rTerm := fun l R h => by
  rw [rTerm_eq] at h
  split at h
  · cases h; exact tail_suf l
  · split at h
    · unfold rNum at h
      split at h
      · split at h
        · exact (suf_name _ _ h).trans ((tail_suf _).trans (tail_suf _))
        · cases h; exact tail_suf l
      · cases h
    · cases h
theorem star_cut : Cut fun l => if isW "*" l = true then rName l.tail else .ok l := Cut.tl (isW_hd _) (isW_bad _) cut_name Cut.ok Stop.ok
theorem cut_term : Cut rTerm := Cut.of stop_term fun x P Q p R h1 h2 hP e => by
  rw [rTerm_eq] at e
  show CutE (x :: P) Q p R (rTerm (x :: (P ++ [badT p])))
  rw [rTerm_eq, isN_hd x (P ++ [badT p]) (P ++ Q)]
  by_cases z : isN (x :: (P ++ Q)) = true
  · rw [if_pos z] at e
    rw [if_pos z]
    cases e
    exact .inl ⟨P, rfl, List.suffix_cons _ _, rfl⟩
  · rw [if_neg z] at e
    rw [if_neg z]
    by_cases y : x.1 = "number"
    · have e : (if decide (x.1 = "number") = true then rNum (x :: (P ++ Q)) else synE (x :: (P ++ Q))) = .ok R := e
      show CutE (x :: P) Q p R (if decide (x.1 = "number") = true then rNum (x :: (P ++ [badT p])) else synE (x :: (P ++ [badT p])))
      rw [if_pos (decide_eq_true y)] at e
      rw [if_pos (decide_eq_true y)]
      have e : (if x.2.1.length ≤ 12 then (if isW "*" (P ++ Q) = true then rName (P ++ Q).tail else .ok (P ++ Q)) else .error (.large "numbers")) = .ok R := e
      show CutE (x :: P) Q p R (if x.2.1.length ≤ 12 then (if isW "*" (P ++ [badT p]) = true then rName (P ++ [badT p]).tail else .ok (P ++ [badT p])) else .error (.large "numbers"))
      by_cases u : x.2.1.length ≤ 12
      · rw [if_pos u] at e
        rw [if_pos u]
        exact cut_tail star_cut hP e
      · rw [if_neg u] at e
        cases e
    · have e : (if decide (x.1 = "number") = true then rNum (x :: (P ++ Q)) else synE (x :: (P ++ Q))) = .ok R := e
      rw [if_neg (fun z => y (of_decide_eq_true z))] at e
      cases e
theorem suf_sum : ∀ n, Suf (rSum n)
  | 0 => Suf.ok
  | n + 1 => fun l R h => by
    have h : andR (rTerm l) (fun l1 => if isW "+" l1 = true then rSum n l1.tail else if isW "-" l1 = true then rSum n l1.tail else .ok l1) = .ok R := h
    obtain ⟨M, h1, h2⟩ := and_ok h
    refine List.IsSuffix.trans ?_ (suf_term _ _ h1)
    split at h2
    · exact (suf_sum n _ _ h2).trans (tail_suf _)
    · split at h2
      · exact (suf_sum n _ _ h2).trans (tail_suf _)
      · cases h2; exact List.suffix_refl _
theorem cut_sum : ∀ (k : Nat) (P Q : Tl) (p : Nat) (R : Tl) (n m : Nat), P.length ≤ k → Inn P → (P ++ Q).length + 1 ≤ n → P.length + 1 ≤ m → rSum n (P ++ Q) = .ok R → CutE P Q p R (rSum m (P ++ [badT p]))
  | k, P, Q, p, R, n, m, hk, hP, hn, hm, e => by
    obtain ⟨n, rfl⟩ : ∃ n', n = n' + 1 := ⟨n - 1, by omega⟩
    obtain ⟨m, rfl⟩ : ∃ m', m = m' + 1 := ⟨m - 1, by omega⟩
    have e : andR (rTerm (P ++ Q)) (fun l1 => if isW "+" l1 = true then rSum n l1.tail else if isW "-" l1 = true then rSum n l1.tail else .ok l1) = .ok R := e
    obtain ⟨M, h1, h2⟩ := and_ok e
    show CutE P Q p R (andR (rTerm (P ++ [badT p])) (fun l1 => if isW "+" l1 = true then rSum m l1.tail else if isW "-" l1 = true then rSum m l1.tail else .ok l1))
    have at_bad : (if isW "+" [badT p] = true then rSum m [badT p].tail else if isW "-" [badT p] = true then rSum m [badT p].tail else .ok [badT p]) = (.ok [badT p] : RdR) := by
      rw [isW_bad, isW_bad, if_neg (by decide), if_neg (by decide)]
    rcases cut_term P Q p M hP h1 with ⟨P', rfl, s, e2⟩ | e2 | e2
    · rw [e2]
      show CutE P Q p R (if isW "+" (P' ++ [badT p]) = true then rSum m (P' ++ [badT p]).tail else if isW "-" (P' ++ [badT p]) = true then rSum m (P' ++ [badT p]).tail else .ok (P' ++ [badT p]))
      cases P' with
      | nil => exact .inr (.inl at_bad)
      | cons y P2 =>
        have ls := s.length_le
        have ls : P2.length + 1 ≤ P.length := ls
        obtain ⟨k, rfl⟩ : ∃ k', k = k' + 1 := ⟨k - 1, by omega⟩
        have s2 : P2 <:+ P := (List.suffix_cons _ _).trans s
        have h2 : (if isW "+" (y :: (P2 ++ Q)) = true then rSum n (P2 ++ Q) else if isW "-" (y :: (P2 ++ Q)) = true then rSum n (P2 ++ Q) else .ok (y :: (P2 ++ Q))) = .ok R := h2
        show CutE P Q p R (if isW "+" (y :: (P2 ++ [badT p])) = true then rSum m (P2 ++ [badT p]) else if isW "-" (y :: (P2 ++ [badT p])) = true then rSum m (P2 ++ [badT p]) else .ok (y :: (P2 ++ [badT p])))
        rw [isW_hd "+" y (P2 ++ [badT p]) (P2 ++ Q), isW_hd "-" y (P2 ++ [badT p]) (P2 ++ Q)]
        have go := fun h => (cut_sum k P2 Q p R n m (by omega) (hP.suf s2) (by rw [List.length_append] at hn ⊢; omega) (by omega) h).up s2
        by_cases z : isW "+" (y :: (P2 ++ Q)) = true
        · rw [if_pos z] at h2
          rw [if_pos z]
          exact go h2
        · rw [if_neg z] at h2
          rw [if_neg z]
          by_cases z2 : isW "-" (y :: (P2 ++ Q)) = true
          · rw [if_pos z2] at h2
            rw [if_pos z2]
            exact go h2
          · rw [if_neg z2] at h2
            rw [if_neg z2]
            cases h2
            exact .inl ⟨y :: P2, rfl, s, rfl⟩
    · rw [e2]
      exact .inr (.inl at_bad)
    · rw [e2]
      exact .inr (.inr rfl)
end

/-! ### statements, blocks and the whole text stop at the cut -/
section
variable {f g blk : Tl → RdR}
def Dec (f : Tl → RdR) : Prop := ∀ l R, f l = .ok R → R.length < l.length
theorem nonnil_W {w : Str} {l : Tl} (h : isW w l = true) : l ≠ [] := fun e => by
  subst e
  have := (Bool.and_eq_true_iff.mp h).1
  exact absurd (of_decide_eq_true this) (by decide +kernel)
theorem nonnil_N {l : Tl} (h : isN l = true) : l ≠ [] := fun e => by
  subst e
  exact absurd (of_decide_eq_true h) (by decide +kernel)
theorem tail_lt {l : Tl} (h : l ≠ []) : l.tail.length < l.length := by
  cases l with
  | nil => exact absurd rfl h
  | cons x l => exact Nat.lt_succ_self _
theorem dec_name : Dec rName := fun l R h => by
  unfold rName at h
  split at h
  · rename_i z
    cases h
    exact tail_lt (nonnil_N z)
  · cases h
theorem dec_exp (w : Str) : Dec (rExp w) := fun l R h => by
  unfold rExp at h
  split at h
  · rename_i z
    cases h
    exact tail_lt (nonnil_W z)
  · cases h
theorem Dec.and (hf : Dec f) (hg : Suf g) : Dec fun l => andR (f l) g := fun l R h => by
  obtain ⟨M, h1, h2⟩ := and_ok h
  exact Nat.lt_of_le_of_lt (hg _ _ h2).length_le (hf _ _ h1)
theorem suf_expr : Suf rExpr := fun l R h => by
  have h : rSum (l.length + 1) (if isW "-" l = true then l.tail else l) = .ok R := h
  split at h
  · exact (suf_sum _ _ _ h).trans (tail_suf l)
  · exact suf_sum _ _ _ h
theorem stop_expr : Stop rExpr := fun p => by
  have e : rExpr [badT p] = rSum 2 [badT p] := by
    show rSum 2 (if isW "-" [badT p] = true then _ else [badT p]) = _
    rw [isW_bad, if_neg (by decide)]
  rw [e]
  show andR (rTerm [badT p]) _ = _ ∨ andR (rTerm [badT p]) _ = _
  have e2 : rTerm [badT p] = .error (.syn p) := by
    rw [rTerm_eq, isN_bad, if_neg (by decide), kind_bad, if_neg (by decide +kernel)]
    rfl
  rw [e2]
  exact .inr rfl
theorem cut_expr : Cut rExpr := Cut.of stop_expr fun x P Q p R h1 h2 hP e => by
  have hx : Inn (x :: P) := fun k hk => by
    rcases List.mem_cons.mp hk with rfl | z
    · exact ⟨h1, h2⟩
    · exact hP k z
  have e : rSum ((P ++ Q).length + 1 + 1) (if isW "-" (x :: (P ++ Q)) = true then P ++ Q else x :: (P ++ Q)) = .ok R := e
  show CutE (x :: P) Q p R (rSum ((P ++ [badT p]).length + 1 + 1) (if isW "-" (x :: (P ++ [badT p])) = true then P ++ [badT p] else x :: (P ++ [badT p])))
  rw [isW_hd "-" x (P ++ [badT p]) (P ++ Q)]
  by_cases z : isW "-" (x :: (P ++ Q)) = true
  · rw [if_pos z] at e
    rw [if_pos z]
    exact (cut_sum P.length P Q p R _ _ (Nat.le_refl _) hP (by omega) (by rw [List.length_append]; omega) e).up (List.suffix_cons _ _)
  · rw [if_neg z] at e
    rw [if_neg z]
    exact cut_sum (P.length + 1) (x :: P) Q p R _ _ (Nat.le_refl _) hx (by show (P ++ Q).length + 1 + 1 ≤ _; omega) (by rw [List.length_append]; show P.length + 1 + 1 ≤ _; omega) e
theorem cut_arg : Cut rArg := Cut.tl (isW_hd _) (isW_bad _) cut_name cut_expr stop_expr
theorem stop_arg : Stop rArg := Stop.tl (isW_bad _) stop_expr
theorem suf_arg : Suf rArg := Suf.tl suf_name suf_expr
/-- a list in parentheses -/
theorem cut_list (hf : Cut f) (sf : Stop f) (uf : Suf f) : Cut fun l => if isW ")" l = true then (.ok l.tail : RdR) else andR (f l) fun l2 => andR (rMore f l2.length l2) (rExp ")") :=
  Cut.tl (f := fun l => .ok l) (isW_hd _) (isW_bad _) Cut.ok (hf.and ((cut_more (isW_hd _) (isW_bad _) hf uf).and (cut_exp _) (stop_exp _)) ((stop_more (isW_bad _)).and (stop_exp _))) (sf.and ((stop_more (isW_bad _)).and (stop_exp _)))
theorem stop_list (sf : Stop f) : Stop fun l => if isW ")" l = true then (.ok l.tail : RdR) else andR (f l) fun l2 => andR (rMore f l2.length l2) (rExp ")") := Stop.tl (f := fun l => .ok l) (isW_bad _) (sf.and ((stop_more (isW_bad _)).and (stop_exp _)))
theorem suf_list (uf : Suf f) : Suf fun l => if isW ")" l = true then (.ok l.tail : RdR) else andR (f l) fun l2 => andR (rMore f l2.length l2) (rExp ")") := Suf.tl (f := fun l => .ok l) Suf.ok (uf.and ((suf_more uf).and (suf_exp _)))
theorem cut_args : Cut rArgs := (cut_exp _).and (cut_list cut_arg stop_arg suf_arg) (stop_list stop_arg)
theorem stop_args : Stop rArgs := (stop_exp _).and (stop_list stop_arg)
theorem suf_args : Suf rArgs := (suf_exp _).and (suf_list suf_arg)
theorem stop_set : Stop rSet := fun p => by
  have e : rSet [badT p] = rExpr [badT p] := by
    show (if isW "?" [badT p] = true then _ else if (isN [badT p] && _) = true then _ else rExpr [badT p]) = _
    rw [isW_bad, if_neg (by decide), isN_bad, Bool.false_and, if_neg (by decide)]
  rw [e]
  exact stop_expr p
theorem suf_set : Suf rSet := fun l R h => by
  have h : (if isW "?" l = true then .ok l.tail else if (isN l && decide (textH l.tail = "(")) = true then andR (rName l) rArgs else rExpr l) = .ok R := h
  split at h
  · cases h; exact tail_suf l
  · split at h
    · exact (suf_name.and suf_args) _ _ h
    · exact suf_expr _ _ h
/-- a name alone ahead of the cut -/
theorem name_cut {x : TK} (h : x.1 = "name") (p : Nat) : rExpr [x, badT p] = .ok [badT p] := by
  have hw : isW "-" [x, badT p] = false := by
    show (decide (x.1 = "mark") && _) = false
    rw [h, decide_eq_false (by decide +kernel), Bool.false_and]
  have hn : isN [x, badT p] = true := decide_eq_true h
  show rSum 3 (if isW "-" [x, badT p] = true then _ else [x, badT p]) = _
  rw [hw, if_neg (by decide)]
  show andR (rTerm [x, badT p]) _ = _
  have e : rTerm [x, badT p] = .ok [badT p] := by
    rw [rTerm_eq, if_pos hn]
    rfl
  rw [e]
  show (if isW "+" [badT p] = true then rSum 2 [badT p].tail else if isW "-" [badT p] = true then rSum 2 [badT p].tail else (.ok [badT p] : RdR)) = _
  rw [isW_bad, isW_bad, if_neg (by decide), if_neg (by decide)]
theorem cut_set : Cut rSet := Cut.of stop_set fun x P Q p R h1 h2 hP e => by
  have hx : Inn (x :: P) := fun k hk => by
    rcases List.mem_cons.mp hk with rfl | z
    · exact ⟨h1, h2⟩
    · exact hP k z
  have e : (if isW "?" (x :: (P ++ Q)) = true then .ok (P ++ Q) else if (isN (x :: (P ++ Q)) && decide (textH (P ++ Q) = "(")) = true then andR (rName (x :: (P ++ Q))) rArgs else rExpr (x :: (P ++ Q))) = .ok R := e
  show CutE (x :: P) Q p R (if isW "?" (x :: (P ++ [badT p])) = true then .ok (P ++ [badT p]) else if (isN (x :: (P ++ [badT p])) && decide (textH (P ++ [badT p]) = "(")) = true then andR (rName (x :: (P ++ [badT p]))) rArgs else rExpr (x :: (P ++ [badT p])))
  rw [isW_hd "?" x (P ++ [badT p]) (P ++ Q), isN_hd x (P ++ [badT p]) (P ++ Q)]
  by_cases z : isW "?" (x :: (P ++ Q)) = true
  · rw [if_pos z] at e
    rw [if_pos z]
    cases e
    exact .inl ⟨P, rfl, List.suffix_cons _ _, rfl⟩
  · rw [if_neg z] at e
    rw [if_neg z]
    cases P with
    | nil =>
      have e0 : textH ([] ++ [badT p]) = "" := rfl
      rw [e0, decide_eq_false (show ¬ ("" : Str) = "(" by decide +kernel), Bool.and_false, if_neg (by decide)]
      by_cases hn : x.1 = "name"
      · rw [show rExpr (x :: ([] ++ [badT p])) = .ok [badT p] from name_cut hn p]
        exact .inr (.inl rfl)
      · have hn2 : isN (x :: ([] ++ Q)) = false := decide_eq_false hn
        rw [hn2, Bool.false_and, if_neg (by decide)] at e
        exact cut_expr [x] Q p R hx e
    | cons y P2 =>
      have et : textH (y :: P2 ++ [badT p]) = textH (y :: P2 ++ Q) := rfl
      rw [et]
      by_cases y2 : (isN (x :: (y :: P2 ++ Q)) && decide (textH (y :: P2 ++ Q) = "(")) = true
      · rw [if_pos y2] at e
        rw [if_pos y2]
        exact (cut_name.and cut_args stop_args) (x :: y :: P2) Q p R hx e
      · rw [if_neg y2] at e
        rw [if_neg y2]
        exact cut_expr (x :: y :: P2) Q p R hx e
theorem stop_ite {c : Tl → Bool} (cb : ∀ p, c [badT p] = false) (sg : Stop g) : Stop fun l => if c l = true then f l else g l := fun p => by
  show (if c [badT p] = true then _ else g [badT p]) = _ ∨ (if c [badT p] = true then _ else g [badT p]) = _
  rw [cb p, if_neg (by decide)]
  exact sg p
theorem cut_action : Cut rAction := cut_name.and (Cut.ite (isW_hd _) cut_args ((cut_exp _).and cut_set stop_set) (stop_ite (isW_bad _) ((stop_exp _).and stop_set))) (stop_ite (isW_bad _) ((stop_exp _).and stop_set))
theorem stop_action : Stop rAction := stop_name.and (stop_ite (isW_bad _) ((stop_exp _).and stop_set))
theorem suf_action2 : Suf fun l1 => if isW "(" l1 = true then rArgs l1 else andR (rExp "=" l1) rSet := suf_ite suf_args ((suf_exp _).and suf_set)
theorem suf_action : Suf rAction := suf_name.and suf_action2
theorem dec_action : Dec rAction := dec_name.and suf_action2
/-- all that is known of a part of the Reader -/
structure Rd3 (f : Tl → RdR) : Prop where
  c : Cut f
  s : Stop f
  u : Suf f
theorem hand3 (h : Rd3 blk) : Rd3 (rHand blk) := ⟨cut_names.and h.c h.s, stop_names.and h.s, suf_names.and h.u⟩
theorem Rd3.opt {w : Str} (h : Rd3 f) : Rd3 fun l => if isW w l = true then f l.tail else .ok l := ⟨Cut.tl (isW_hd _) (isW_bad _) h.c Cut.ok Stop.ok, Stop.tl (isW_bad _) Stop.ok, Suf.tl h.u Suf.ok⟩
theorem Rd3.and (h : Rd3 f) (k : Rd3 g) : Rd3 fun l => andR (f l) g := ⟨h.c.and k.c k.s, h.s.and k.s, h.u.and k.u⟩
theorem Rd3.tl {w : Str} (h : Rd3 f) (k : Rd3 g) : Rd3 fun l => if isW w l = true then f l.tail else g l := ⟨Cut.tl (isW_hd _) (isW_bad _) h.c k.c k.s, Stop.tl (isW_bad _) k.s, Suf.tl h.u k.u⟩
theorem exp3 (w : Str) : Rd3 (rExp w) := ⟨cut_exp w, stop_exp w, suf_exp w⟩
theorem name3 : Rd3 rName := ⟨cut_name, stop_name, suf_name⟩
theorem names3 : Rd3 rNames := ⟨cut_names, stop_names, suf_names⟩
theorem args3 : Rd3 rArgs := ⟨cut_args, stop_args, suf_args⟩
theorem expr3 : Rd3 rExpr := ⟨cut_expr, stop_expr, suf_expr⟩
theorem row3 : Rd3 rRow := ⟨cut_row, stop_row, suf_row⟩
theorem more3 {w : Str} (h : Rd3 f) : Rd3 fun l => rLoop (isW w) f l.length l := ⟨cut_more (isW_hd _) (isW_bad _) h.c h.u, stop_more (isW_bad _), suf_more h.u⟩
theorem try3 (h : Rd3 blk) : Rd3 (rTry blk) := h.and (Rd3.tl ((hand3 h).and ((more3 (hand3 h)).and (Rd3.opt h))) ((exp3 _).and h))
theorem with3 (h : Rd3 blk) : Rd3 (rWith blk) := name3.and (args3.and ((exp3 _).and (name3.and (args3.and ((Rd3.opt names3).and h)))))
theorem stmt3 (h : Rd3 blk) : Rd3 (rStmt blk) := by
  have k : Rd3 fun l => if isW "if" l = true then andR (blk l.tail) (fun l1 => if isW "else" l1 = true then blk l1.tail else .ok l1) else if isW "while" l = true then blk l.tail else if isW "risk" l = true then rNames l.tail else if isW "raise" l = true then rName l.tail else if isW "try" l = true then rTry blk l.tail else if isW "undo" l = true then andR (rNames l.tail) blk else if isW "with" l = true then rWith blk l.tail else andR (rExp "return" l) rExpr :=
    Rd3.tl (f := fun l => andR (blk l) fun l1 => if isW "else" l1 = true then blk l1.tail else .ok l1) (h.and (Rd3.opt h)) (Rd3.tl h (Rd3.tl names3 (Rd3.tl name3 (Rd3.tl (try3 h) (Rd3.tl (f := fun l => andR (rNames l) blk) (names3.and h) (Rd3.tl (with3 h) ((exp3 _).and expr3)))))))
  exact ⟨Cut.ite isN_hd cut_action k.c (stop_ite isN_bad k.s), stop_ite isN_bad k.s, suf_ite suf_action k.u⟩
theorem stmt_bad (p : Nat) : rStmt blk [badT p] = .error (.syn p) := by
  unfold rStmt
  simp only [isN_bad, isW_bad, Bool.false_eq_true, if_false]
  show andR (rExp "return" [badT p]) rExpr = _
  unfold rExp
  rw [isW_bad, if_neg (by decide)]
  rfl
theorem dec_tl {w : Str} {l R : Tl} (z : isW w l = true) (s : R <:+ l.tail) : R.length < l.length := Nat.lt_of_le_of_lt s.length_le (tail_lt (nonnil_W z))
theorem dec_stmt (h : Rd3 blk) : Dec (rStmt blk) := fun l R e => by
  unfold rStmt at e
  split at e
  · exact dec_action _ _ e
  · split at e
    · rename_i z; exact dec_tl z ((h.and (Rd3.opt h)).u _ _ e)
    · split at e
      · rename_i z; exact dec_tl z (h.u _ _ e)
      · split at e
        · rename_i z; exact dec_tl z (suf_names _ _ e)
        · split at e
          · rename_i z; exact dec_tl z (suf_name _ _ e)
          · split at e
            · rename_i z; exact dec_tl z ((try3 h).u _ _ e)
            · split at e
              · rename_i z; exact dec_tl z ((names3.and h).u _ _ e)
              · split at e
                · rename_i z; exact dec_tl z ((with3 h).u _ _ e)
                · exact ((dec_exp _).and suf_expr) _ _ e
theorem suf_stmts (h : Rd3 blk) : ∀ n, Suf (rStmts blk n)
  | 0 => Suf.ok
  | n + 1 => fun l R e => by
    have e : (if isW "}" l = true then .ok l.tail else andR (rStmt blk l) (rStmts blk n)) = .ok R := e
    split at e
    · cases e; exact tail_suf l
    · obtain ⟨M, h1, h2⟩ := and_ok e
      exact (suf_stmts h n _ _ h2).trans ((stmt3 h).u _ _ h1)
theorem stop_stmts (n p : Nat) : rStmts blk (n + 1) [badT p] = .error (.syn p) := by
  show (if isW "}" [badT p] = true then _ else andR (rStmt blk [badT p]) (rStmts blk n)) = _
  rw [isW_bad, if_neg (by decide), stmt_bad]
  rfl
theorem cut_stmts (h : Rd3 blk) : ∀ (k : Nat) (P Q : Tl) (p : Nat) (R : Tl) (n m : Nat), P.length ≤ k → Inn P → (P ++ Q).length + 1 ≤ n → P.length + 1 + 1 ≤ m → rStmts blk n (P ++ Q) = .ok R → CutE P Q p R (rStmts blk m (P ++ [badT p]))
  | k, [], Q, p, R, n, m, _, _, _, hm, _ => by
    obtain ⟨m, rfl⟩ : ∃ m', m = m' + 1 := ⟨m - 1, by omega⟩
    exact .inr (.inr (stop_stmts m p))
  | 0, x :: P, Q, p, R, n, m, hk, _, _, _, _ => absurd hk (Nat.not_succ_le_zero _)
  | k + 1, x :: P, Q, p, R, n, m, hk, hP, hn, hm, e => by
    have hk : P.length + 1 ≤ k + 1 := hk
    have hn : (P ++ Q).length + 1 + 1 ≤ n := hn
    have hm : P.length + 1 + 1 + 1 ≤ m := hm
    obtain ⟨n, rfl⟩ : ∃ n', n = n' + 1 := ⟨n - 1, by omega⟩
    obtain ⟨m, rfl⟩ : ∃ m', m = m' + 1 := ⟨m - 1, by omega⟩
    have e : (if isW "}" (x :: (P ++ Q)) = true then .ok (P ++ Q) else andR (rStmt blk (x :: (P ++ Q))) (rStmts blk n)) = .ok R := e
    show CutE (x :: P) Q p R (if isW "}" (x :: (P ++ [badT p])) = true then .ok (P ++ [badT p]) else andR (rStmt blk (x :: (P ++ [badT p]))) (rStmts blk m))
    rw [isW_hd "}" x (P ++ [badT p]) (P ++ Q)]
    by_cases z : isW "}" (x :: (P ++ Q)) = true
    · rw [if_pos z] at e
      rw [if_pos z]
      cases e
      exact .inl ⟨P, rfl, List.suffix_cons _ _, rfl⟩
    · rw [if_neg z] at e
      rw [if_neg z]
      obtain ⟨M, h1, h2⟩ := and_ok e
      have hd := dec_stmt h _ _ h1
      have hd : M.length < (P ++ Q).length + 1 := hd
      have key := (stmt3 h).c (x :: P) Q p M hP h1
      have hl : ∀ R', rStmt blk (x :: (P ++ [badT p])) = .ok R' → R'.length < (P ++ [badT p]).length + 1 := fun R' e => dec_stmt h _ _ e
      have key : CutE (x :: P) Q p M (rStmt blk (x :: (P ++ [badT p]))) := key
      rcases key with ⟨P', rfl, s, e2⟩ | e2 | e2
      · have hl2 := hl _ e2
        rw [e2]
        rw [List.length_append, List.length_append] at hl2
        rw [List.length_append] at hd
        refine (cut_stmts h k P' Q p R n m (by omega) (hP.suf s) (by rw [List.length_append] at hn ⊢; omega) (by omega) h2).up s
      · rw [e2]
        obtain ⟨m, rfl⟩ : ∃ m', m = m' + 1 := ⟨m - 1, by omega⟩
        exact .inr (.inr (stop_stmts m p))
      · rw [e2]
        exact .inr (.inr rfl)
theorem block3 : ∀ m, Rd3 (rBlock m)
  | 0 => by
    refine ⟨fun P Q p R _ e => ?_, fun p => ?_, fun l R e => ?_⟩
    · have e : (if isW "{" (P ++ Q) = true then .error (.large "nesting") else synE (P ++ Q)) = .ok R := e
      split at e <;> cases e
    · show (if isW "{" [badT p] = true then .error (.large "nesting") else synE [badT p]) = _ ∨ (if isW "{" [badT p] = true then .error (.large "nesting") else synE [badT p]) = _
      rw [isW_bad, if_neg (by decide)]
      exact .inr rfl
    · have e : (if isW "{" l = true then .error (.large "nesting") else synE l) = .ok R := e
      split at e <;> cases e
  | m + 1 => (exp3 "{").and (g := fun l1 => rStmts (rBlock m) (l1.length + 1) l1) ⟨fun P Q p R hP e => cut_stmts (block3 m) P.length P Q p R _ _ (Nat.le_refl _) hP (Nat.le_refl _) (by rw [List.length_append]; exact Nat.le_refl _) e, fun p => .inr (stop_stmts _ p), fun l R e => suf_stmts (block3 m) _ l R e⟩
theorem param3 : Rd3 rParam := by
  have h : Rd3 fun l => if isW "&" l = true then rName l.tail else rName l := Rd3.tl name3 name3
  have e : rParam = fun l => if isW "&" l = true then rName l.tail else rName l := funext fun l => by
    unfold rParam
    split <;> rfl
  rw [e]
  exact h
theorem function3 : Rd3 rFunction := name3.and ((exp3 _).and (Rd3.and (f := fun l2 => if isW ")" l2 = true then (.ok l2.tail : RdR) else andR (rParam l2) fun l3 => andR (rMore rParam l3.length l3) (rExp ")")) ⟨cut_list param3.c param3.s param3.u, stop_list param3.s, suf_list param3.u⟩ (block3 30)))
/-- the end of a text -/
theorem end_cut : Cut fun l4 => if kindH l4 = "end" then (.ok l4 : RdR) else synE l4 := fun P Q p R hP e => by
  cases P with
  | nil => exact .inr (.inr rfl)
  | cons x P =>
    have e : (if x.1 = "end" then (.ok (x :: (P ++ Q)) : RdR) else synE (x :: (P ++ Q))) = .ok R := e
    rw [if_neg (hP x List.mem_cons_self).1] at e
    cases e
theorem end_bad (p : Nat) : (if kindH [badT p] = "end" then (.ok [badT p] : RdR) else synE [badT p]) = .error (.syn p) := rfl
/-- a text that is cut is read up to the cut -/
theorem prog_cut {P Q : Tl} {R : Tl} (hP : Inn P) (h : rProgram (P ++ Q) = .ok R) (p : Nat) : rProgram (P ++ [badT p]) = .error (.syn p) := by
  have e3 : Rd3 fun l4 => if kindH l4 = "end" then (.ok l4 : RdR) else synE l4 := ⟨end_cut, fun p => .inr (end_bad p), fun l R e => by
    have e : (if kindH l = "end" then (.ok l : RdR) else synE l) = .ok R := e
    split at e
    · cases e; exact List.suffix_refl _
    · cases e⟩
  have c := ((Rd3.opt (w := "globals") row3).and ((Rd3.opt (w := "kinds") row3).and ((more3 (w := "keep") expr3).and ((more3 (w := "def") function3).and e3)))).c P Q p R hP h
  have fin : ∀ l, rProgram l = .ok l → False ∨ kindH l = "end" := fun l e => .inr (by
    obtain ⟨M, _, h2⟩ := and_ok e
    obtain ⟨M2, _, h3⟩ := and_ok h2
    obtain ⟨M3, _, h4⟩ := and_ok h3
    obtain ⟨M4, _, h5⟩ := and_ok h4
    split at h5
    · rename_i z
      cases h5
      exact z
    · cases h5)
  have kend : ∀ l R, rProgram l = .ok R → kindH R = "end" := fun l R e => by
    obtain ⟨M, _, h2⟩ := and_ok e
    obtain ⟨M2, _, h3⟩ := and_ok h2
    obtain ⟨M3, _, h4⟩ := and_ok h3
    obtain ⟨M4, _, h5⟩ := and_ok h4
    split at h5
    · rename_i z
      cases h5
      exact z
    · cases h5
  rcases c with ⟨P', _, s, e⟩ | e | e
  · have := kend _ _ e
    cases P' with
    | nil => exact absurd this (by rw [List.nil_append, kind_bad]; decide +kernel)
    | cons y P2 => exact absurd this ((hP.suf s) y List.mem_cons_self).1
  · exact absurd (kend _ _ e) (by rw [kind_bad]; decide +kernel)
  · exact e
end

/-! ### k05: the Reader with its errors -/
abbrev sRExp : Stmt := inClass (topS 16) 4
abbrev NRExp : List Str := ["self", "word"]
abbrev PRExp : List Str := ["self", "word"]
theorem scRExp : FnScope NRExp PRExp (defScope sRExp) := ⟨rfl, rfl, rfl, by decide +kernel, rfl, by decide +kernel, by decide +kernel⟩
/-- the last token alone is an end -/
def EndT (l : Tl) : Prop := ∃ (P : Tl) (k : TK), l = P ++ [k] ∧ Inn P ∧ (k.1 = "end" ∨ k.1 = "bad")
theorem EndT.ne {l : Tl} (h : EndT l) : ∃ x r, l = x :: r := by
  obtain ⟨P, k, rfl, _⟩ := h
  cases P with
  | nil => exact ⟨k, [], rfl⟩
  | cons x P => exact ⟨x, P ++ [k], rfl⟩
theorem EndT.tl {x : TK} {r : Tl} (h : EndT (x :: r)) (h1 : x.1 ≠ "end") (h2 : x.1 ≠ "bad") : EndT r := by
  obtain ⟨P, k, e, hP, hk⟩ := h
  cases P with
  | nil =>
    injection e with e1 e2
    rw [e1] at h1 h2
    rcases hk with z | z
    · exact absurd z h1
    · exact absurd z h2
  | cons y P =>
    injection e with e1 e2
    exact ⟨P, k, e2, fun z hz => hP z (List.mem_cons_of_mem _ hz), hk⟩
theorem EndT.w {l : Tl} {w : Str} (h : EndT l) (z : isW w l = true) : EndT l.tail := by
  obtain ⟨x, r, rfl⟩ := h.ne
  have e : x.1 = "mark" := of_decide_eq_true (Bool.and_eq_true_iff.mp z).1
  exact h.tl (by rw [e]; decide +kernel) (by rw [e]; decide +kernel)
theorem EndT.n {l : Tl} (h : EndT l) (z : isN l = true) : EndT l.tail := by
  obtain ⟨x, r, rfl⟩ := h.ne
  have e : x.1 = "name" := of_decide_eq_true z
  exact h.tl (by rw [e]; decide +kernel) (by rw [e]; decide +kernel)
/-- a name among the tokens -/
def NmIn (ts : Tl) (x : Str) : Prop := ∃ k ∈ ts, k.1 = "name" ∧ k.2.1 = x
/-- tokens that the Reader takes: few names, numbers that int reads -/
structure TsOk (ts : Tl) : Prop where
  len : ts.length ≤ 1000001
  nm : ∃ W : List Str, W.length < 50 ∧ ∀ x, NmIn ts x → x ∈ W
  nb : ∀ k ∈ ts, k.1 = "number" → k.2.1.length ≤ 1000000 ∧ (k.2.1.length ≤ 12 → ∃ n, PySem.intText? k.2.1 = some n)
/-- a reader ahead of the tokens l -/
def RdG (C : Addr) (H : Hp) (S L : Addr) (d : Nat) (ts l : Tl) : Prop := ∃ i : Nat, RdAt C H S L i d ts ∧ ts.drop i = l ∧ EndT l ∧ TsOk ts
/-- an error is raised -/
def ErK (CS CT S : Addr) (H : Hp) (E : XK) : RdE → Prop
  | .syn p => ∀ d' H', Bt S H H' → H' d' = none → E (.ref CS) (some d') (upd H' d' (.xd [("position", .int (p : Nat))]))
  | .large w => ∀ d' H', Bt S H H' → H' d' = none → E (.ref CT) (some d') (upd H' d' (.xd [("word", .str w)]))
theorem ErK.bt {CS CT S : Addr} {H H' : Hp} {E : XK} {e : RdE} (b : Bt S H H') (h : ErK CS CT S H E e) : ErK CS CT S H' E e := by
  cases e with
  | syn p => exact fun d' H2 b2 n => h d' H2 (b.trans b2) n
  | large w => exact fun d' H2 b2 n => h d' H2 (b.trans b2) n
section
variable {C S L : Addr} {H H' : Hp} {d : Nat} {ts l : Tl}
theorem RdG.same (h : RdG C H S L d ts l) (s : Same H H') : RdG C H' S L d ts l := let ⟨i, a, b⟩ := h; ⟨i, a.same s, b⟩
theorem RdG.tok (h : RdG C H S L d ts l) : ∃ (i : Nat) (x : TK) (r : Tl), l = x :: r ∧ RdAt C H S L i d ts ∧ ts[i]? = some x ∧ ts.drop (i + 1) = r := by
  obtain ⟨i, h1, h2, h3, _⟩ := h
  obtain ⟨x, r, rfl⟩ := h3.ne
  have hl : i < ts.length := by
    rcases Nat.lt_or_ge i ts.length with z | z
    · exact z
    · rw [List.drop_of_length_le z] at h2; cases h2
  rw [List.drop_eq_getElem_cons hl] at h2
  injection h2 with e1 e2
  exact ⟨i, x, r, rfl, h1, by rw [List.getElem?_eq_getElem hl, e1], e2⟩
theorem RdG.len (h : RdG C H S L d ts l) : l.length ≤ 1000001 := by
  obtain ⟨i, _, rfl, _, h4⟩ := h
  rw [List.length_drop]
  have := h4.len
  omega
theorem RdG.ins (h : RdG C H S L d ts l) : ∃ dx i, H S = some (.ins C dx (rdF L i d)) := by
  obtain ⟨i, ⟨dx, xs, e, _⟩, _⟩ := h
  exact ⟨dx, i, e⟩
end
def spCurG (C : Addr) : Sp := fun vs H Q _ => ∃ (S L : Addr) (d : Nat) (ts l : Tl), vs = [.ref S] ∧ RdG C H S L d ts l ∧ ∀ p, H p = some (.tup [.str (kindH l), .str (textH l), .int (posH l : Nat)]) → Q (.ref p) H
def spNxtG (C : Addr) : Sp := fun vs H Q _ => ∃ (S L : Addr) (d : Nat) (ts l : Tl) (wd : Str), vs = [.ref S, .str wd] ∧ RdG C H S L d ts l ∧ Q (.bl (isW wd l)) H
def spAccG (C : Addr) : Sp := fun vs H Q _ => ∃ (S L : Addr) (d : Nat) (ts l : Tl) (wd : Str), vs = [.ref S, .str wd] ∧ RdG C H S L d ts l ∧ (isW wd l = false → Q (.bl false) H) ∧ (isW wd l = true → ∀ H', Bt S H H' → RdG C H' S L d ts l.tail → Q (.bl true) H')
/-- what a part of the Reader does: it reads on, or raises -/
def spRd (CS CT C : Addr) (r : Tl → RdR) : Sp := fun vs H Q E => ∃ (S L : Addr) (d : Nat) (ts l : Tl), vs = [.ref S] ∧ RdG C H S L d ts l ∧ (∀ l', r l = .ok l' → ∀ (v : V) (H' : Hp), Bt S H H' → RdG C H' S L d ts l' → Q v H') ∧ ∀ e, r l = .error e → ErK CS CT S H E e
def spRdN (CS CT C : Addr) (r : Tl → RdR) : Sp := fun vs H Q E => ∃ (S L : Addr) (d : Nat) (ts l : Tl), vs = [.ref S] ∧ RdG C H S L d ts l ∧ (∀ l', r l = .ok l' → ∀ (H' : Hp), Bt S H H' → RdG C H' S L d ts l' → Q (.str (textH l)) H') ∧ ∀ e, r l = .error e → ErK CS CT S H E e
def spExpG (CS CT C : Addr) : Sp := fun vs H Q E => ∃ (S L : Addr) (d : Nat) (ts l : Tl) (wd : Str), vs = [.ref S, .str wd] ∧ RdG C H S L d ts l ∧ (∀ l', rExp wd l = .ok l' → ∀ (H' : Hp), Bt S H H' → RdG C H' S L d ts l' → Q .non H') ∧ ∀ e, rExp wd l = .error e → ErK CS CT S H E e
section
variable {P : Program} {w : World} {K : PySem.W.Frag} {mg : Str → Option Value} {base : Heap} {C CS CT : Addr} {C' : Nat → Addr}
theorem HasM.imp {CX : CXT} {k : Nat} {m : Str} {ps : List Str} {sp sp' : Sp} (M : HasM P w K mg base CX k C m ps sp) (h : ∀ vs H Q E, sp' vs H Q E → sp vs H Q E) : HasM P w K mg base CX k C m ps sp' :=
  let ⟨f, fd, a, F, b⟩ := M.ex
  ⟨f, fd, a, ⟨fun vs H Q E q => F.len vs H Q E (h _ _ _ _ q), fun A outer s H a us vs Q E hr e0 b r q => F.run A outer s H a us vs Q E hr e0 b r (h _ _ _ _ q)⟩, b⟩
theorem cur_G (M : HasM P w K mg base CX0 1 C "current" PRCur (spCurr C)) : HasM P w K mg base CX0 1 C "current" PRCur (spCurG C) := M.imp fun vs H Q E h => by
  obtain ⟨S, L, d, ts, l, rfl, h, k⟩ := h
  obtain ⟨i, x, r, rfl, ra, ht, _⟩ := h.tok
  exact ⟨S, L, i, d, ts, x, rfl, ra, ht, k⟩
theorem nxt_G (M : HasM P w K mg base CX0 2 C "is_next" PRNext (spNext C)) : HasM P w K mg base CX0 2 C "is_next" PRNext (spNxtG C) := M.imp fun vs H Q E h => by
  obtain ⟨S, L, d, ts, l, wd, rfl, h, k⟩ := h
  obtain ⟨i, x, r, rfl, ra, ht, _⟩ := h.tok
  exact ⟨S, L, i, d, ts, x, wd, rfl, ra, ht, k⟩
theorem acc_G (M : HasM P w K mg base CX0 3 C "accept" PRAcc (spAcc C)) : HasM P w K mg base CX0 3 C "accept" PRAcc (spAccG C) := M.imp fun vs H Q E h => by
  obtain ⟨S, L, d, ts, l, wd, rfl, h, k1, k2⟩ := h
  have he : EndT l ∧ TsOk ts := let ⟨_, _, _, e⟩ := h; e
  obtain ⟨i, x, r, rfl, ra, ht, hd⟩ := h.tok
  refine ⟨S, L, i, d, ts, x, wd, rfl, ra, ht, ?_⟩
  have e : isMark x wd = isW wd (x :: r) := rfl
  rw [e]
  cases hz : isW wd (x :: r) with
  | false => exact .inl ⟨rfl, k1 hz⟩
  | true => exact .inr ⟨rfl, fun H' b ra' => k2 hz H' b ⟨_, ra', hd, he.1.w hz, he.2⟩⟩
theorem ok_RExpG {f : Addr} {fd : FuncData} (F : Fun K "expect" "Reader.expect" sRExp f fd) (TR : TxR K C) (X : ErrH P w K mg base C') (MC : HasM P w K mg base CX0 1 C "current" PRCur (spCurG C)) (MA : HasM P w K mg base CX0 3 C "accept" PRAcc (spAccG C)) : FnOk P w K mg base (L2N.CX P w) 4 f fd PRExp (spExpG (C' 1) CT C) := by
  refine Fun.okN F scRExp (fun vs H Q E h => ?_) (fun cdv A outer s H vs Q E hr h => ?_)
  · obtain ⟨S, L, d, ts, l, wd, rfl, _⟩ := h
    rfl
  · obtain ⟨S, L, d, ts, l, wd, rfl, rg, k1, k2⟩ := h
    have hr1 := hr.mono (j := 1) (by decide)
    have hr3 := hr.mono (j := 3) (by decide)
    obtain ⟨dx, i, eS⟩ := rg.ins
    have tk := L2N.takes_of (X := cxOf (L2N.CX P w) P w K mg base NRExp "Reader.expect" (defScope sRExp) f cdv A outer s H E) (E := E) rfl rfl rfl rfl
    refine ⟨_, (pss_one (ps_if (pt_not (pt_val (pe_methH (pv 0) TR.cl MA hr3 pass0 (pa_cons (pv 1) pa_nil))))
  (pss_one (ps_raiseX rfl tk X.h1 (hr.mono (by decide)) rfl (pa_cons (pe_ix (r := rIxT K) ix_tup (pe_methH0 (pv 0) TR.cl MC hr1 pass0) pe_int (fun _ _ => rfl)) pa_nil)))
  pss_nil)), ?_⟩
    refine ⟨_, rfl, S, dx, _, rfl, eS, rfl, _, rfl, S, L, d, ts, l, wd, rfl, rg, fun hz => ⟨false, rfl, iteT ?_⟩, fun hz H1 b1 rg1 => ⟨true, rfl, iteF ?_⟩⟩
    · refine ⟨_, rfl, S, dx, _, rfl, eS, rfl, S, L, d, ts, l, rfl, rg, fun p hp => ⟨p, _, _, _, rfl, rfl, SqT.of hp, rfl, ?_⟩⟩
      exact ⟨_, rfl, fun d' hd => k2 (.syn (posH l)) (if_neg (by rw [hz]; decide)) d' H Bt.refl hd⟩
    · exact k1 l.tail (if_pos hz) H1 b1 rg1
theorem ok_RNameG {f : Addr} {fd : FuncData} (F : Fun K "read_name" "Reader.read_name" sRName f fd) (TR : TxR K C) (X : ErrH P w K mg base C') (MC : HasM P w K mg base CX0 1 C "current" PRCur (spCurG C)) : FnOk P w K mg base (L2N.CX P w) 3 f fd PRName (spRdN (C' 1) CT C rName) := by
  refine Fun.okN F scRName (fun vs H Q E h => ?_) (fun cdv A outer s H vs Q E hr h => ?_)
  · obtain ⟨S, L, d, ts, l, rfl, _⟩ := h
    rfl
  · obtain ⟨S, L, d, ts, l, rfl, rg, k1, k2⟩ := h
    have hr1 := hr.mono (j := 1) (by decide)
    obtain ⟨dx, i, eS⟩ := rg.ins
    have tk := L2N.takes_of (X := cxOf (L2N.CX P w) P w K mg base NRName "Reader.read_name" (defScope sRName) f cdv A outer s H E) (E := E) rfl rfl rfl rfl
    refine ⟨_, (pss_cons (ps_set (i := 1) scRName.nd rfl (Or.inl rfl) (pe_methH0 (pv 0) TR.cl MC hr1 pass0))
  (pss_cons (ps_if (pt_cmpR op_ne (pe_ix (r := rIxT K) ix_tup (pv 1) pe_int (fun _ _ => rfl)) pe_str (nomark _))
  (pss_one (ps_raiseX rfl tk X.h1 (hr.mono (by decide)) rfl (pa_cons (pe_ix (r := rIxT K) ix_tup (pv 1) pe_int (fun _ _ => rfl)) pa_nil)))
  pss_nil)
  (pss_cons (ps_fldaug (pv 0) pe_int in_add)
  (pss_one (ps_ret (pe_ix (r := rIxT K) ix_tup (pv 1) pe_int (fun _ _ => rfl))))))), ?_⟩
    refine ⟨_, rfl, S, dx, _, rfl, eS, rfl, S, L, d, ts, l, rfl, rg, fun p hp => ?_⟩
    have hE : EndT l ∧ TsOk ts := let ⟨_, _, _, e⟩ := rg; e
    obtain ⟨i1, x, r, el, ra, ht, hd⟩ := rg.tok
    obtain ⟨dx1, xs, e1, _⟩ := id ra
    rw [el] at hp
    have hp : H p = some (.tup [.str x.1, .str x.2.1, .int (x.2.2 : Nat)]) := hp
    by_cases hn : x.1 = "name"
    · refine ⟨_, rfl, p, _, _, _, rfl, rfl, SqT.of hp, rfl, rfl, _, rfl, iteE (by rw [dec_str, decide_eq_true hn]; rfl) ?_⟩
      refine ⟨_, rfl, S, C, dx1, _, _, rfl, e1, TR.cl, TR.nI, rfl, _, _, rfl, rfl, dx1, _, e1, (by show 3 < 1000; decide), ?_⟩
      have e : putF "index_of_token" (.int (((i1 : Nat) : Int) + 1)) (rdF L i1 d) = rdF L (i1 + 1) d := putF_ix L i1 (i1 + 1) d
      rw [e]
      have hz : isN l = true := by rw [el]; exact decide_eq_true hn
      have k1 := k1 l.tail (if_pos hz) _ bt_upd ⟨i1 + 1, ra.step (dx := dx1), by rw [hd, el]; rfl, hE.1.n hz, hE.2⟩
      rw [el] at k1
      exact ⟨_, rfl, p, _, _, _, rfl, rfl, SqT.of (by rw [upd_ne (ne_of hp e1 fun z => by cases z)]; exact hp), rfl, k1⟩
    · refine ⟨_, rfl, p, _, _, _, rfl, rfl, SqT.of hp, rfl, rfl, _, rfl, iteS (by rw [dec_str, decide_eq_false hn]; rfl) ?_⟩
      have hz : ¬ isN l = true := by rw [el]; exact fun z => hn (of_decide_eq_true z)
      have k2 := k2 (.syn (posH l)) (if_neg hz)
      rw [el] at k2
      exact ⟨_, rfl, p, _, _, _, rfl, rfl, SqT.of hp, rfl, _, rfl, fun d' hd' => k2 d' H Bt.refl hd'⟩
end

/-! ### k05: names in a list, in a row -/
abbrev sRNms : Stmt := inClass (topS 16) 6
abbrev NRNms : List Str := ["self", "names"]
abbrev PRNms : List Str := ["self"]
theorem scRNms : FnScope NRNms PRNms (defScope sRNms) := ⟨rfl, rfl, rfl, by decide +kernel, rfl, by decide +kernel, by decide +kernel⟩
section
variable {f g : Tl → RdR}
theorem loop_fuel {c : Tl → Bool} (hf : Suf f) (cn : c [] = false) : ∀ (k : Nat) (l : Tl) (n : Nat), l.length ≤ k → l.length ≤ n → rLoop c f n l = rLoop c f l.length l
  | k, [], n, _, _ => by
    cases n with
    | zero => rfl
    | succ n =>
      show (if c [] = true then _ else _) = _
      rw [cn, if_neg (by decide)]
      rfl
  | 0, x :: r, n, hk, _ => absurd hk (Nat.not_succ_le_zero _)
  | k + 1, x :: r, n, hk, hn => by
    have hk : r.length + 1 ≤ k + 1 := hk
    have hn : r.length + 1 ≤ n := hn
    obtain ⟨n, rfl⟩ : ∃ n', n = n' + 1 := ⟨n - 1, by omega⟩
    show (if c (x :: r) = true then andR (f r) (rLoop c f n) else .ok (x :: r)) = (if c (x :: r) = true then andR (f r) (rLoop c f r.length) else .ok (x :: r))
    by_cases z : c (x :: r) = true
    · rw [if_pos z, if_pos z]
      cases hfr : f r with
      | error e => rfl
      | ok M =>
        have := (hf _ _ hfr).length_le
        show rLoop c f n M = rLoop c f r.length M
        rw [loop_fuel hf cn k M n (by omega) (by omega), loop_fuel hf cn k M r.length (by omega) (by omega)]
    · rw [if_neg z, if_neg z]
/-- a loop, unrolled -/
theorem loop_eq {c : Tl → Bool} (hf : Suf f) (cn : c [] = false) (l : Tl) : rLoop c f l.length l = if c l = true then andR (f l.tail) fun l1 => rLoop c f l1.length l1 else .ok l := by
  cases l with
  | nil =>
    show (.ok [] : RdR) = _
    rw [cn, if_neg (by decide)]
  | cons x r =>
    show (if c (x :: r) = true then andR (f r) (rLoop c f r.length) else .ok (x :: r)) = (if c (x :: r) = true then andR (f r) _ else .ok (x :: r))
    by_cases z : c (x :: r) = true
    · rw [if_pos z, if_pos z]
      cases hfr : f r with
      | error e => rfl
      | ok M => exact loop_fuel hf cn M.length M _ (Nat.le_refl _) (hf _ _ hfr).length_le
    · rw [if_neg z, if_neg z]
end
section
variable {C S L X : Addr} {H H' H1 : Hp} {d : Nat} {ts l : Tl}
/-- a list of the reader's own -/
theorem RdG.ne (h : RdG C H S L d ts l) (n : H X = none) : X ≠ S ∧ X ≠ L := by
  obtain ⟨i, ⟨dx, xs, e1, e2, _⟩, _⟩ := h
  exact ⟨(ne_of_none e1 n).symm, (ne_of_none e2 n).symm⟩
theorem RdG.own {xs : List V} {o : HO} (h : RdG C H S L d ts l) (e : H X = some (.lst xs)) (n1 : X ≠ S) (n2 : X ≠ L) : RdG C (upd H X o) S L d ts l := by
  obtain ⟨i, ⟨dy, ys, y1, y2, y3⟩, z⟩ := h
  exact ⟨i, ⟨dy, ys, by rw [upd_ne n1.symm]; exact y1, by rw [upd_ne n2.symm]; exact y2, Paired.mapP y3 fun _ _ q => q.same fun b zs eb => by rw [upd_ne (ne_of eb e (by intro z; cases z))]; exact eb⟩, z⟩
end
structure TxTup (mg : Str → Option Value) : Prop where
  n_tuple : mg "tuple" = none
section
variable {P : Program} {w : World} {K : PySem.W.Frag} {mg : Str → Option Value} {base : Heap} {C CS CT : Addr}
theorem ok_RNmsG {f : Addr} {fd : FuncData} (F : Fun K "read_names" "Reader.read_names" sRNms f fd) (T : mg "tuple" = none) (TR : TxR K C) (MA : HasM P w K mg base CX0 3 C "accept" PRAcc (spAccG C)) (MN : HasM P w K mg base (L2N.CX P w) 3 C "read_name" PRName (spRdN CS CT C rName)) : FnOk P w K mg base (L2N.CX P w) 4 f fd PRNms (spRd CS CT C rNames) := by
  refine Fun.okN F scRNms (fun vs H Q E h => ?_) (fun cdv A outer s H vs Q E hr h => ?_)
  · obtain ⟨S, L, d, ts, l, rfl, _⟩ := h
    rfl
  · obtain ⟨S, L, d, ts, l, rfl, rg, k1, k2⟩ := h
    obtain ⟨dx, i, eS⟩ := rg.ins
    have tk := L2N.takes_of (X := cxOf (L2N.CX P w) P w K mg base NRNms "Reader.read_names" (defScope sRNms) f cdv A outer s H E) (E := E) rfl rfl rfl rfl
    have T : TxTup mg := ⟨T⟩
    refine ⟨_, (pss_cons (ps_set (i := 1) scRNms.nd rfl (Or.inl rfl) (pe_lst (pa_cons (pe_methH0 (pv 0) TR.cl MN hr (fun pins σ H1 s1 e s' I c => L2N.passAt tk σ pins H1 s1 e s' I c)) pa_nil)))
  (pss_cons (ps_while (passes_of rfl) (pt_val (pe_methH (pv 0) TR.cl MA hr pass0 (pa_cons pe_str pa_nil)))
  (pss_one (ps_expr (pe_bm PySem.F.plainAttrs_list PySem.F.slot_list_append PySem.F.type_list_append mt_append (pv 1) (pa_cons (pe_methH0 (pv 0) TR.cl MN hr (fun pins σ H1 s1 e s' I c => L2N.passAt tk σ pins H1 s1 e s' I c)) pa_nil)))))
  (pss_one (ps_ret (pe_callTy call_tuple_of (by rfl) T.n_tuple bb_tuple (pa_cons (pv 1) pa_nil)))))), ?_⟩
    have cn : isW "," [] = false := by decide +kernel
    refine ⟨_, rfl, S, dx, _, rfl, eS, rfl, S, L, d, ts, l, rfl, rg, fun l1 h1 H1 b1 rg1 => ⟨(by show 1 ≤ sizeLine; decide), fun X hX => ?_⟩, fun e h1 => k2 e (by unfold rNames; rw [h1]; rfl)⟩
    have e1 : rNames l = rLoop (isW ",") rName l1.length l1 := by unfold rNames; rw [h1]; rfl
    obtain ⟨XS, XL⟩ := rg1.ne hX
    have s2 := same_new (o := .lst [.str (textH l)]) hX
    have newX : ∀ b o, H b = some o → b ≠ S → b ≠ X := fun b o e hb => ne_of_none (b1 _ _ e hb) hX
    refine ⟨fun m σ H' => ∃ (l2 : Tl) (xs : List V), m = l2.length ∧ σ = [some (.ref S), some (.ref X)] ∧ Bt S H H' ∧ RdG C H' S L d ts l2 ∧ H' X = some (.lst xs) ∧ xs.length + l2.length ≤ 1000002 ∧ rNames l = rLoop (isW ",") rName l2.length l2, ⟨_, l1, _, rfl, rfl, b1.trans (.of s2), rg1.same s2, upd_same, by have := rg1.len; show 1 + _ ≤ _; omega, e1⟩, ?_⟩
    rintro m σ H3 ⟨l2, xs, rfl, rfl, b3, rg3, eX, lx, eq⟩
    obtain ⟨dx3, i3, eS3⟩ := rg3.ins
    rw [loop_eq suf_name cn] at eq
    refine ⟨_, rfl, S, dx3, _, rfl, eS3, rfl, S, L, d, ts, l2, ",", rfl, rg3, fun hz => ⟨false, rfl, iteF ?_⟩, fun hz H4 b4 rg4 => ⟨true, rfl, iteT ?_⟩⟩
    · rw [if_neg (by rw [hz]; decide)] at eq
      refine ⟨_, rfl, X, xs, rfl, .inl ⟨SqL.of eX, fun q hq => ?_⟩⟩
      have s4 := same_new (o := .tup xs) hq
      exact k1 l2 eq _ _ (b3.trans (.of s4)) (rg3.same s4)
    · rw [if_pos hz] at eq
      obtain ⟨dx4, i4, eS4⟩ := rg4.ins
      have eX4 := b4 _ _ eX XS
      have lt4 := tail_lt (nonnil_W hz)
      refine ⟨fun σ' H' => ∃ (l5 : Tl) (xs' : List V), l5.length < l2.length ∧ σ' = [some (.ref S), some (.ref X)] ∧ Bt S H H' ∧ RdG C H' S L d ts l5 ∧ H' X = some (.lst xs') ∧ xs'.length + l5.length ≤ 1000002 ∧ rNames l = rLoop (isW ",") rName l5.length l5, fun σ' H' ⟨l5, xs', u0, u1, u2, u3, u4, u5, u6⟩ => ⟨l5.length, u0, l5, xs', rfl, u1, u2, u3, u4, u5, u6⟩, ?_⟩
      refine ⟨_, rfl, .inl ⟨rfl, _, SqL.of eX4⟩, _, rfl, S, dx4, _, rfl, eS4, rfl, S, L, d, ts, l2.tail, rfl, rg4, fun l5 h5 H5 b5 rg5 => ?_, fun e h5 => (k2 e (by rw [eq, h5]; rfl)).bt (b3.trans b4)⟩
      rw [h5] at eq
      have eX5 := b5 _ _ eX4 XS
      have l5t := (suf_name _ _ h5).length_le
      refine ⟨X, xs, _, rfl, rfl, eX5, Nat.lt_of_le_of_lt (show xs.length ≤ 1000002 by omega) (by decide), l5, xs ++ [.str (textH l2.tail)], by omega, rfl, fun c o e hc => ?_, rg5.own eX5 XS XL, upd_same, by rw [List.length_append]; show xs.length + 1 + _ ≤ _; omega, eq⟩
      rw [upd_ne (newX _ _ e hc)]
      exact b5 _ _ (b4 _ _ (b3 _ _ e hc) hc) hc
end

section
variable {P : Program} {w : World} {K : PySem.W.Frag} {mg : Str → Option Value} {base : Heap} {C CS CT : Addr}
theorem ok_RRowG {f : Addr} {fd : FuncData} (F : Fun K "read_row" "Reader.read_row" sRRow f fd) (T : mg "tuple" = none) (TR : TxR K C) (MC : HasM P w K mg base CX0 1 C "current" PRCur (spCurG C)) (MN : HasM P w K mg base (L2N.CX P w) 3 C "read_name" PRName (spRdN CS CT C rName)) : FnOk P w K mg base (L2N.CX P w) 4 f fd PRRow (spRd CS CT C rRow) := by
  refine Fun.okN F scRRow (fun vs H Q E h => ?_) (fun cdv A outer s H vs Q E hr h => ?_)
  · obtain ⟨S, L, d, ts, l, rfl, _⟩ := h
    rfl
  · obtain ⟨S, L, d, ts, l, rfl, rg, k1, k2⟩ := h
    obtain ⟨dx, i, eS⟩ := rg.ins
    have hr1 := hr.mono (j := 1) (by decide)
    have tk := L2N.takes_of (X := cxOf (L2N.CX P w) P w K mg base NRRow "Reader.read_row" (defScope sRRow) f cdv A outer s H E) (E := E) rfl rfl rfl rfl
    have T : TxTup mg := ⟨T⟩
    refine ⟨_, (pss_cons (ps_set (i := 1) scRRow.nd rfl (Or.inl rfl) (pe_lst (pa_cons (pe_methH0 (pv 0) TR.cl MN hr (fun pins σ H1 s1 e s' I c => L2N.passAt tk σ pins H1 s1 e s' I c)) pa_nil)))
  (pss_cons (ps_while (passes_of rfl) (pt_cmpR op_eq (pe_ix (r := rIxT K) ix_tup (pe_methH0 (pv 0) TR.cl MC hr1 pass0) pe_int (fun _ _ => rfl)) pe_str (nomark _))
  (pss_one (ps_expr (pe_bm PySem.F.plainAttrs_list PySem.F.slot_list_append PySem.F.type_list_append mt_append (pv 1) (pa_cons (pe_methH0 (pv 0) TR.cl MN hr (fun pins σ H1 s1 e s' I c => L2N.passAt tk σ pins H1 s1 e s' I c)) pa_nil)))))
  (pss_one (ps_ret (pe_callTy call_tuple_of (by rfl) T.n_tuple bb_tuple (pa_cons (pv 1) pa_nil)))))), ?_⟩
    have cn : isN [] = false := by decide +kernel
    refine ⟨_, rfl, S, dx, _, rfl, eS, rfl, S, L, d, ts, l, rfl, rg, fun l1 h1 H1 b1 rg1 => ⟨(by show 1 ≤ sizeLine; decide), fun X hX => ?_⟩, fun e h1 => k2 e (by unfold rRow; rw [h1]; rfl)⟩
    have e1 : rRow l = rLoop isN (fun l => .ok l) l1.length l1 := by unfold rRow; rw [h1]; rfl
    obtain ⟨XS, XL⟩ := rg1.ne hX
    have s2 := same_new (o := .lst [.str (textH l)]) hX
    have newX : ∀ b o, H b = some o → b ≠ S → b ≠ X := fun b o e hb => ne_of_none (b1 _ _ e hb) hX
    refine ⟨fun m σ H' => ∃ (l2 : Tl) (xs : List V), m = l2.length ∧ σ = [some (.ref S), some (.ref X)] ∧ Bt S H H' ∧ RdG C H' S L d ts l2 ∧ H' X = some (.lst xs) ∧ xs.length + l2.length ≤ 1000002 ∧ rRow l = rLoop isN (fun l => .ok l) l2.length l2, ⟨_, l1, _, rfl, rfl, b1.trans (.of s2), rg1.same s2, upd_same, by have := rg1.len; show 1 + _ ≤ _; omega, e1⟩, ?_⟩
    rintro m σ H3 ⟨l2, xs, rfl, rfl, b3, rg3, eX, lx, eq⟩
    obtain ⟨dx3, i3, eS3⟩ := rg3.ins
    rw [loop_eq Suf.ok cn] at eq
    refine ⟨_, rfl, S, dx3, _, rfl, eS3, rfl, S, L, d, ts, l2, rfl, rg3, fun p hp => ⟨p, _, _, _, rfl, rfl, SqT.of hp, rfl, rfl, _, rfl, ?_⟩⟩
    cases hz : isN l2 with
    | false =>
      have hn : ¬ kindH l2 = "name" := of_decide_eq_false hz
      refine iteE (by rw [dec_str, decide_eq_false hn]) ?_
      rw [if_neg (by rw [hz]; decide)] at eq
      refine ⟨_, rfl, X, xs, rfl, .inl ⟨SqL.of eX, fun q hq => ?_⟩⟩
      have s4 := same_new (o := .tup xs) hq
      exact k1 l2 eq _ _ (b3.trans (.of s4)) (rg3.same s4)
    | true =>
      have hn : kindH l2 = "name" := of_decide_eq_true hz
      refine iteS (by rw [dec_str, decide_eq_true hn]) ?_
      rw [if_pos hz] at eq
      have lt4 := tail_lt (nonnil_N hz)
      refine ⟨fun σ' H' => ∃ (l5 : Tl) (xs' : List V), l5.length < l2.length ∧ σ' = [some (.ref S), some (.ref X)] ∧ Bt S H H' ∧ RdG C H' S L d ts l5 ∧ H' X = some (.lst xs') ∧ xs'.length + l5.length ≤ 1000002 ∧ rRow l = rLoop isN (fun l => .ok l) l5.length l5, fun σ' H' ⟨l5, xs', u0, u1, u2, u3, u4, u5, u6⟩ => ⟨l5.length, u0, l5, xs', rfl, u1, u2, u3, u4, u5, u6⟩, ?_⟩
      refine ⟨_, rfl, .inl ⟨rfl, _, SqL.of eX⟩, _, rfl, S, dx3, _, rfl, eS3, rfl, S, L, d, ts, l2, rfl, rg3, fun l5 h5 H5 b5 rg5 => ?_, fun e h5 => ?_⟩
      · have el5 : l5 = l2.tail := by
          unfold rName at h5
          rw [if_pos hz] at h5
          cases h5
          rfl
        subst el5
        have eX5 := b5 _ _ eX XS
        refine ⟨X, xs, _, rfl, rfl, eX5, Nat.lt_of_le_of_lt (show xs.length ≤ 1000002 by omega) (by decide), l2.tail, xs ++ [.str (textH l2)], lt4, rfl, fun c o e hc => ?_, rg5.own eX5 XS XL, upd_same, by rw [List.length_append]; show xs.length + 1 + _ ≤ _; omega, eq⟩
        rw [upd_ne (newX _ _ e hc)]
        exact b5 _ _ (b3 _ _ e hc) hc
      · unfold rName at h5
        rw [if_pos hz] at h5
        cases h5
end

/-! ### k05: read_term -/
theorem mem_of_at {ts : Tl} {i : Nat} {x : TK} (h : ts[i]? = some x) : x ∈ ts := List.mem_of_getElem? h
theorem RdG.nmIn {C S L : Addr} {H : Hp} {d : Nat} {ts l : Tl} (h : RdG C H S L d ts l) (z : isN l = true) : NmIn ts (textH l) := by
  obtain ⟨i, x, r, rfl, _, ht, _⟩ := h.tok
  exact ⟨x, mem_of_at ht, of_decide_eq_true z, rfl⟩
theorem RdG.ok {C S L : Addr} {H : Hp} {d : Nat} {ts l : Tl} (h : RdG C H S L d ts l) : TsOk ts := let ⟨_, _, _, _, e⟩ := h; e
abbrev sExprOf : Stmt := topS 15
abbrev NExprOf : List Str := ["constant", "factors", "name"]
abbrev PExprOf : List Str := ["constant", "factors"]
theorem scExprOf : FnScope NExprOf PExprOf (defScope sExprOf) := ⟨rfl, rfl, rfl, by decide +kernel, rfl, by decide +kernel, by decide +kernel⟩
abbrev sRExpr : Stmt := inClass (topS 16) 9
abbrev NRExpr : List Str := ["self", "constant", "factors", "sign", "name", "number"]
abbrev PRExpr : List Str := ["self"]
theorem scRExpr : FnScope NRExpr PRExpr (defScope sRExpr) := ⟨rfl, rfl, rfl, by decide +kernel, rfl, by decide +kernel, by decide +kernel⟩
def optS : Option Str → V
  | none => .non
  | some s => .str s
structure TxRd (mg : Str → Option Value) : Prop where
  n_tuple : mg "tuple" = none
  n_len : mg "len" = none
  n_int : mg "int" = none
  n_sorted : mg "sorted" = none
structure TxSum (mg : Str → Option Value) : Prop extends TxRd mg where
  c_LONGEST : ∃ u, mg "LONGEST" = some u ∧ RelV (.int 12) u
theorem nn_ne : ¬ (("number" : Str) = "name") := by decide +kernel
def spTermG (CS CT C : Addr) : Sp := fun vs H Q E => ∃ (S L : Addr) (d : Nat) (ts l : Tl), vs = [.ref S] ∧ RdG C H S L d ts l ∧ (∀ l', rTerm l = .ok l' → ∀ (nm : Option Str) (n : Int) (p : Addr) (H' : Hp), (∀ x, nm = some x → NmIn ts x) → Bt S H H' → RdG C H' S L d ts l' → H' p = some (.tup [optS nm, .int n]) → Q (.ref p) H') ∧ ∀ e, rTerm l = .error e → ErK CS CT S H E e
section
variable {P : Program} {w : World} {K : PySem.W.Frag} {mg : Str → Option Value} {base : Heap} {C CS CT : Addr} {C' : Nat → Addr}
theorem ok_RTermG {f : Addr} {fd : FuncData} (F : Fun K "read_term" "Reader.read_term" sRTerm f fd) (T : TxSum mg) (TR : TxR K C) (X : ErrH P w K mg base C') (MC : HasM P w K mg base CX0 1 C "current" PRCur (spCurG C)) (MA : HasM P w K mg base CX0 3 C "accept" PRAcc (spAccG C)) (MN : HasM P w K mg base (L2N.CX P w) 3 C "read_name" PRName (spRdN (C' 1) (C' 2) C rName)) : FnOk P w K mg base (L2N.CX P w) 4 f fd PRTerm (spTermG (C' 1) (C' 2) C) := by
  refine Fun.okN F scRTerm (fun vs H Q E h => ?_) (fun cdv A outer s H vs Q E hr h => ?_)
  · obtain ⟨S, L, d, ts, l, rfl, _⟩ := h
    rfl
  · obtain ⟨S, L, d, ts, l, rfl, rg, k1, k2⟩ := h
    have hr1 := hr.mono (j := 1) (by decide)
    obtain ⟨dx, i, eS⟩ := rg.ins
    have tk := L2N.takes_of (X := cxOf (L2N.CX P w) P w K mg base NRTerm "Reader.read_term" (defScope sRTerm) f cdv A outer s H E) (E := E) rfl rfl rfl rfl
    refine ⟨_, (pss_cons (ps_set (i := 1) scRTerm.nd rfl (Or.inl rfl) (pe_methH0 (pv 0) TR.cl MC hr1 pass0))
  (pss_cons (ps_if (pt_cmpR op_eq (pe_ix (r := rIxT K) ix_tup (pv 1) pe_int (fun _ _ => rfl)) pe_str (nomark _))
  (pss_one (ps_ret (pe_tup (pa_cons (pe_methH0 (pv 0) TR.cl MN hr (fun pins σ H1 s1 e s' I c => L2N.passAt tk σ pins H1 s1 e s' I c)) (pa_cons pe_int pa_nil)))))
  pss_nil)
  (pss_cons (ps_if (pt_cmpR op_ne (pe_ix (r := rIxT K) ix_tup (pv 1) pe_int (fun _ _ => rfl)) pe_str (nomark _))
  (pss_one (ps_raiseX rfl tk X.h1 (hr.mono (by decide)) rfl (pa_cons (pe_ix (r := rIxT K) ix_tup (pv 1) pe_int (fun _ _ => rfl)) pa_nil)))
  pss_nil)
  (pss_cons (ps_if (pt_cmpR op_gt (pe_callB call_len_str (by rfl) T.n_len bb_len (pa_cons (pe_ix (r := rIxT K) ix_tup (pv 1) pe_int (fun _ _ => rfl)) pa_nil)) (pe_globE rfl T.c_LONGEST) (nomark _))
  (pss_one (ps_raiseX rfl tk X.h2 (hr.mono (by decide)) rfl (pa_cons pe_str pa_nil)))
  pss_nil)
  (pss_cons (ps_fldaug (pv 0) pe_int in_add)
  (pss_cons (ps_if (pt_val (pe_methH (pv 0) TR.cl MA hr pass0 (pa_cons pe_str pa_nil)))
  (pss_one (ps_ret (pe_tup (pa_cons (pe_methH0 (pv 0) TR.cl MN hr (fun pins σ H1 s1 e s' I c => L2N.passAt tk σ pins H1 s1 e s' I c)) (pa_cons (pe_callTy call_int_str (by rfl) T.n_int bb_int (pa_cons (pe_ix (r := rIxT K) ix_tup (pv 1) pe_int (fun _ _ => rfl)) pa_nil)) pa_nil)))))
  pss_nil)
  (pss_one (ps_ret (pe_tup (pa_cons pe_non (pa_cons (pe_callTy call_int_str (by rfl) T.n_int bb_int (pa_cons (pe_ix (r := rIxT K) ix_tup (pv 1) pe_int (fun _ _ => rfl)) pa_nil)) pa_nil))))))))))), ?_⟩
    refine ⟨_, rfl, S, dx, _, rfl, eS, rfl, S, L, d, ts, l, rfl, rg, fun p hp => ?_⟩
    have hE : EndT l ∧ TsOk ts := let ⟨_, _, _, e⟩ := rg; e
    obtain ⟨i1, x, r, el, ra, ht, hd⟩ := rg.tok
    obtain ⟨dx1, xs, e1, _⟩ := id ra
    rw [el] at hp
    have hp : H p = some (.tup [.str x.1, .str x.2.1, .int (x.2.2 : Nat)]) := hp
    have syn : ∀ e, rTerm l = .error e → ErK (C' 1) (C' 2) S H E e := k2
    by_cases hn : x.1 = "name"
    · have hz : isN l = true := by rw [el]; exact decide_eq_true hn
      have ok : rTerm l = .ok l.tail := if_pos hz
      refine ⟨_, rfl, p, _, _, _, rfl, rfl, SqT.of hp, rfl, rfl, _, rfl, iteS (by rw [dec_str, decide_eq_true hn]) ?_⟩
      refine ⟨_, rfl, S, dx, _, rfl, eS, rfl, S, L, d, ts, l, rfl, rg, fun l1 h1 H1 b1 rg1 => ⟨(by show 2 ≤ sizeLine; decide), fun q hq => ?_⟩, fun e h1 => ?_⟩
      · have el1 : l1 = l.tail := by
          unfold rName at h1
          rw [if_pos hz] at h1
          cases h1
          rfl
        subst el1
        have s2 := same_new (o := .tup [.str (textH l), .int 1]) hq
        exact k1 _ ok (some (textH l)) 1 q _ (fun y ey => by cases ey; exact rg.nmIn hz) (b1.trans (.of s2)) (rg1.same s2) upd_same
      · unfold rName at h1
        rw [if_pos hz] at h1
        cases h1
    have hz : ¬ isN l = true := by rw [el]; exact fun z => hn (of_decide_eq_true z)
    refine ⟨_, rfl, p, _, _, _, rfl, rfl, SqT.of hp, rfl, rfl, _, rfl, iteE (by rw [dec_str, decide_eq_false hn]) ?_⟩
    by_cases hb : x.1 = "number"
    case neg =>
      have hk : ¬ kindH l = "number" := by rw [el]; exact hb
      have k2 := k2 (.syn (posH l)) (by unfold rTerm; rw [if_neg hz, if_neg hk]; rfl)
      rw [el] at k2
      refine ⟨_, rfl, p, _, _, _, rfl, rfl, SqT.of hp, rfl, rfl, _, rfl, iteS (by rw [dec_str, decide_eq_false hb]; rfl) ?_⟩
      exact ⟨_, rfl, p, _, _, _, rfl, rfl, SqT.of hp, rfl, _, rfl, fun d' hd' => k2 d' H Bt.refl hd'⟩
    have hk : kindH l = "number" := by rw [el]; exact hb
    obtain ⟨hl, hi⟩ := hE.2.nb x (mem_of_at ht) hb
    have tx : textH l = x.2.1 := by rw [el]; rfl
    refine ⟨_, rfl, p, _, _, _, rfl, rfl, SqT.of hp, rfl, rfl, _, rfl, iteE (by rw [dec_str, decide_eq_true hb]; rfl) ?_⟩
    refine ⟨_, rfl, p, _, _, _, rfl, rfl, SqT.of hp, rfl, _, rfl, Nat.le_trans hl (by decide), _, _, rfl, rfl, ?_⟩
    by_cases h12 : x.2.1.length ≤ 12
    case neg =>
      refine ⟨_, rfl, iteS (decide_eq_true (by omega)) ?_⟩
      exact ⟨_, rfl, fun d' hd' => k2 (.large "numbers") (by unfold rTerm; rw [if_neg hz, if_pos hk, if_neg (by rw [tx]; exact h12)]) d' H Bt.refl hd'⟩
    obtain ⟨n, hn⟩ := hi h12
    have eq : rTerm l = if isW "*" l.tail then rName l.tail.tail else .ok l.tail := by
      unfold rTerm
      rw [if_neg hz, if_pos hk, if_pos (by rw [tx]; exact h12)]
    refine ⟨_, rfl, iteE (decide_eq_false (by omega)) ?_⟩
    refine ⟨_, rfl, S, C, dx1, _, _, rfl, e1, TR.cl, TR.nI, rfl, _, _, rfl, rfl, dx1, _, e1, (by show 3 < 1000; decide), ?_⟩
    have e : putF "index_of_token" (.int (((i1 : Nat) : Int) + 1)) (rdF L i1 d) = rdF L (i1 + 1) d := putF_ix L i1 (i1 + 1) d
    rw [e]
    have xe : x.1 ≠ "end" := by rw [hb]; decide +kernel
    have xb : x.1 ≠ "bad" := by rw [hb]; decide +kernel
    have rg1 : RdG C (upd H S (.ins C dx1 (rdF L (i1 + 1) d))) S L d ts l.tail := ⟨i1 + 1, ra.step (dx := dx1), by rw [hd, el]; rfl, by rw [el]; exact (el ▸ hE.1).tl xe xb, hE.2⟩
    have pS : p ≠ S := ne_of hp e1 fun z => by cases z
    have hp1 := (upd_ne (H := H) (o := .ins C dx1 (rdF L (i1 + 1) d)) pS).trans hp
    have b1 : Bt S H (upd H S (.ins C dx1 (rdF L (i1 + 1) d))) := bt_upd
    have eS1 : upd H S (.ins C dx1 (rdF L (i1 + 1) d)) S = some (.ins C dx1 (rdF L (i1 + 1) d)) := upd_same
    generalize upd H S (.ins C dx1 (rdF L (i1 + 1) d)) = H1 at *
    refine ⟨_, rfl, S, dx1, _, rfl, eS1, rfl, S, L, d, ts, l.tail, "*", rfl, rg1, fun hm => ⟨false, rfl, iteE rfl ?_⟩, fun hm H2 b2 rg2 => ⟨true, rfl, iteS rfl ?_⟩⟩
    · rw [if_neg (by rw [hm]; decide)] at eq
      refine ⟨_, rfl, p, _, _, _, rfl, rfl, SqT.of hp1, rfl, _, _, rfl, hn, Nat.le_trans h12 (by decide), (by show 2 ≤ sizeLine; decide), fun q hq => ?_⟩
      have s2 := same_new (o := .tup [.non, .int n]) hq
      exact k1 _ eq none n q _ (fun y ey => nomatch ey) (b1.trans (.of s2)) (rg1.same s2) upd_same
    · rw [if_pos hm] at eq
      obtain ⟨dx2, i2, eS2⟩ := rg2.ins
      have hp2 := b2 _ _ hp1 pS
      refine ⟨_, rfl, S, dx2, _, rfl, eS2, rfl, S, L, d, ts, l.tail.tail, rfl, rg2, fun l3 h3 H3 b3 rg3 => ?_, fun e h3 => ((k2 e (eq.trans h3)).bt (b1.trans b2))⟩
      have hp3 := b3 _ _ hp2 pS
      refine ⟨_, rfl, p, _, _, _, rfl, rfl, SqT.of hp3, rfl, _, _, rfl, hn, Nat.le_trans h12 (by decide), (by show 2 ≤ sizeLine; decide), fun q hq => ?_⟩
      have s2 := same_new (o := .tup [.str (textH l.tail.tail), .int n]) hq
      have hz2 : isN l.tail.tail = true := by
        unfold rName at h3
        by_cases z : isN l.tail.tail = true
        · exact z
        · rw [if_neg z] at h3; cases h3
      exact k1 _ (eq.trans h3) (some (textH l.tail.tail)) n q _ (fun y ey => by cases ey; exact rg2.nmIn hz2) (((b1.trans b2).trans b3).trans (.of s2)) (rg3.same s2) upd_same
end

/-! expression_of -/
theorem bb_sorted : bootBuiltins "sorted" = some (.builtin "sorted") := by decide +kernel
abbrev Fac := List (Str × Int)
def kvS (fs : Fac) : List (Key × V) := fs.map fun p => (Sum.inr p.1, V.int p.2)
def getF (fs : Fac) (nm : Str) : Int := ((fs.find? fun p => decide (p.1 = nm)).map (·.2)).getD 0
def addF (fs : Fac) (nm : Str) (v : Int) : Fac := if (fs.any fun p => decide (p.1 = nm)) = true then fs.map (fun p => if p.1 = nm then (p.1, p.2 + v) else p) else fs ++ [(nm, v)]
theorem dec_inr (a b : Str) : decide ((Sum.inr a : Key) = Sum.inr b) = decide (a = b) := decide_eq_decide.mpr ⟨fun h => Sum.inr.inj h, fun h => by rw [h]⟩
theorem val_kvS (fs : Fac) (nm : Str) : valV (kvS fs) (Sum.inr nm) = (fs.find? fun p => decide (p.1 = nm)).map fun p => V.int p.2 := by
  unfold valV kvS
  rw [List.find?_map, Option.map_map]
  congr 1
  congr 1
  funext p
  exact dec_inr p.1 nm
theorem val_getD (fs : Fac) (nm : Str) : (valV (kvS fs) (Sum.inr nm)).getD (.int 0) = .int (getF fs nm) := by
  rw [val_kvS]
  unfold getF
  cases fs.find? fun p => decide (p.1 = nm) <;> rfl
theorem any_kvS (fs : Fac) (nm : Str) : ((kvS fs).any fun kv => decide (kv.1 = (Sum.inr nm : Key))) = fs.any fun p => decide (p.1 = nm) := by
  unfold kvS
  rw [List.any_map]
  congr 1
  funext p
  exact dec_inr p.1 nm
def Uniq (fs : Fac) : Prop := (fs.map (·.1)).Nodup
theorem find_uniq {fs : Fac} (u : Uniq fs) {p : Str × Int} (h : p ∈ fs) : (fs.find? fun q => decide (q.1 = p.1)) = some p := by
  induction fs with
  | nil => cases h
  | cons q r ih =>
    have u2 : Uniq r := (List.nodup_cons.mp u).2
    rw [List.find?_cons]
    rcases List.mem_cons.mp h with rfl | h
    · rw [decide_eq_true rfl]
    · have ne : q.1 ≠ p.1 := fun e => (List.nodup_cons.mp u).1 (by show q.1 ∈ _; rw [e]; exact List.mem_map.mpr ⟨p, h, rfl⟩)
      rw [decide_eq_false ne]
      exact ih u2 h
theorem put_kvS {fs : Fac} (u : Uniq fs) (nm : Str) (v : Int) : putK (kvS fs) (Sum.inr nm) (V.int (getF fs nm + v)) = kvS (addF fs nm v) := by
  unfold putK addF
  rw [any_kvS]
  by_cases h : (fs.any fun p => decide (p.1 = nm)) = true
  · rw [if_pos h, if_pos h]
    unfold kvS
    rw [List.map_map, List.map_map]
    refine List.map_congr_left fun p hp => ?_
    show (if (Sum.inr p.1 : Key) = Sum.inr nm then ((Sum.inr p.1 : Key), V.int (getF fs nm + v)) else (Sum.inr p.1, V.int p.2)) = ((Sum.inr (if p.1 = nm then (p.1, p.2 + v) else p).1 : Key), V.int (if p.1 = nm then (p.1, p.2 + v) else p).2)
    by_cases e : p.1 = nm
    · rw [if_pos (by rw [e]), if_pos e]
      have g : getF fs nm = p.2 := by
        unfold getF
        rw [← e, find_uniq u hp]
        rfl
      rw [g]
    · rw [if_neg (fun z => e (Sum.inr.inj z)), if_neg e]
  · rw [if_neg h, if_neg h]
    have g : getF fs nm = 0 := by
      unfold getF
      have : (fs.find? fun p => decide (p.1 = nm)) = none := by
        rw [List.find?_eq_none]
        intro p hp e
        exact h (List.any_eq_true.mpr ⟨p, hp, e⟩)
      rw [this]
      rfl
    unfold kvS
    rw [List.map_append, g, Int.zero_add]
    rfl
theorem names_addF (fs : Fac) (nm : Str) (v : Int) : (addF fs nm v).map (·.1) = if (fs.any fun p => decide (p.1 = nm)) = true then fs.map (·.1) else fs.map (·.1) ++ [nm] := by
  unfold addF
  by_cases h : (fs.any fun p => decide (p.1 = nm)) = true
  · rw [if_pos h, if_pos h, List.map_map]
    refine List.map_congr_left fun p _ => ?_
    show (if p.1 = nm then (p.1, p.2 + v) else p).1 = p.1
    split <;> rfl
  · rw [if_neg h, if_neg h, List.map_append]
    rfl
theorem uniq_addF {fs : Fac} (u : Uniq fs) (nm : Str) (v : Int) : Uniq (addF fs nm v) := by
  unfold Uniq
  rw [names_addF]
  by_cases h : (fs.any fun p => decide (p.1 = nm)) = true
  · rw [if_pos h]
    exact u
  · rw [if_neg h, List.nodup_append]
    refine ⟨u, by simp, fun a ha b hb e => ?_⟩
    rw [List.mem_singleton.mp hb] at e
    obtain ⟨p, hp, rfl⟩ := List.mem_map.mp ha
    exact h (List.any_eq_true.mpr ⟨p, hp, decide_eq_true e⟩)
theorem len_addF (fs : Fac) (nm : Str) (v : Int) : (addF fs nm v).length ≤ fs.length + 1 := by
  unfold addF
  split
  · rw [List.length_map]
    omega
  · rw [List.length_append]
    exact Nat.le_refl _
def PairAt (H : Hp) (v : V) (r : Str × Int) : Prop := ∃ a, v = .ref a ∧ H a = some (.tup [.str r.1, .int r.2])
/-- a sum as a tuple -/
def ExprAt (H : Hp) (v : V) (c : Int) (l : Fac) : Prop := ∃ (p q : Addr) (ys : List V), v = .ref p ∧ H p = some (.tup [.int c, .ref q]) ∧ H q = some (.tup ys) ∧ Paired (PairAt H) ys l
theorem PairAt.same {H H' : Hp} (s : TSame H H') {v : V} {r : Str × Int} (h : PairAt H v r) : PairAt H' v r := let ⟨a, e, q⟩ := h; ⟨a, e, s _ _ q⟩
theorem ExprAt.same {H H' : Hp} (s : TSame H H') {v : V} {c : Int} {l : Fac} (h : ExprAt H v c l) : ExprAt H' v c l := let ⟨p, q, ys, e1, e2, e3, e4⟩ := h; ⟨p, q, ys, e1, s _ _ e2, s _ _ e3, Paired.mapP e4 fun _ _ z => z.same s⟩
/-- the sum with sorted names and without factors 0 -/
def OfF (fs l : Fac) : Prop := ∃ ys : List Str, ys.Perm (fs.map (·.1)) ∧ PyProof.Rows.sortedS ys = true ∧ l = (ys.map fun n => (n, getF fs n)).filter fun p => decide (p.2 ≠ 0)
section
variable {P : Program} {w : World} {K : PySem.W.Frag} {mg : Str → Option Value} {base : Heap} {kw C : Addr}
def spExprOf : Sp := fun vs H Q _ => ∃ (c : Int) (D : Addr) (fs : Fac), vs = [.int c, .ref D] ∧ H D = some (.dK (kvS fs)) ∧ Uniq fs ∧ fs.length < 60 ∧ ∀ (p : Addr) (l : Fac) (H' : Hp), Same H H' → OfF fs l → ExprAt H' (.ref p) c l → Q (.ref p) H'
theorem ok_ExprOf {f : Addr} {fd : FuncData} (F : Fun K "expression_of" "expression_of" sExprOf f fd) (T : TxSum mg) : FnOk P w K mg base CX0 1 f fd PExprOf spExprOf := by
  refine F.ok scExprOf (fun vs H Q E h => ?_) (fun cdv A outer s H vs Q E hr h => ?_)
  · obtain ⟨c, D, fs, rfl, _⟩ := h
    rfl
  · obtain ⟨c, D, fs, rfl, eD, u, lf, k⟩ := h
    have hu := hu_of hr
    refine ⟨_, (pss_one (ps_ret (pe_tup (pa_cons (pv 0) (pa_cons (pe_callTy call_tuple_of (by rfl) T.n_tuple bb_tuple (pa_cons (pe_lc (own := [("name", 2)]) (g := gName 2) rfl scExprOf.nd (pi_list (pe_callB (call_sortedD rfl) (by rfl) T.n_sorted bb_sorted (pa_cons (pv 1) pa_nil))) (blkOk_by (own := [("name", 2)]) (N := NExprOf) (sc := (defScope sExprOf)) (by decide +kernel)) (fun _ _ _ _ _ => (pg_name (i := 2) scExprOf.nd rfl (Or.inl rfl))) (fun _ _ _ _ _ => (pts_one (pt_cmpR op_ne (pe_dget hu (pv 1) (pv 2) (fun _ _ => rfl)) pe_int (nomark _)))) (fun _ _ _ _ _ => (pe_tup (pa_cons (pv 2) (pa_cons (pe_dget hu (pv 1) (pv 2) (fun _ _ => rfl)) pa_nil))))) pa_nil)) pa_nil))))), ?_⟩
    have mem : ∀ {n : Str}, n ∈ fs.map (·.1) → some (V.int (getF fs n)) = valV (kvS fs) (Sum.inr n) := fun {n} h => by
      obtain ⟨p, hp, rfl⟩ := List.mem_map.mp h
      rw [val_kvS]
      unfold getF
      rw [find_uniq u hp]
      rfl
    refine ⟨_, rfl, _, rfl, D, kvS fs, fs.map (·.1), rfl, .inl eD, by unfold kvS; rw [List.map_map, List.map_map]; rfl, by rw [List.length_map]; omega, fun ys p hperm hsort hp => ⟨p, rfl, ⟨_, SqL.of upd_same⟩, fun Z hZ => ?_⟩⟩
    have s1 := same_new (o := .lst (ys.map V.str)) hp
    obtain ⟨H1, eH1⟩ : ∃ H1, H1 = upd H p (.lst (ys.map V.str)) := ⟨_, rfl⟩
    have ep : H1 p = some (.lst (ys.map V.str)) := by rw [eH1, upd_same]
    rw [← eH1] at s1 hZ ⊢
    clear eH1 hp
    have eD1 := s1 _ _ eD
    have lys : ys.length = fs.length := by rw [hperm.length_eq, List.length_map]
    refine lc_it (walk_list (K := K) (a := p) (xs := ys.map V.str)) (fun i H' => Same H1 H' ∧ ∃ zs : List V, H' Z = some (.lst zs) ∧ zs.length ≤ i ∧ Paired (PairAt H') zs (((ys.take i).map fun n => (n, getF fs n)).filter fun p => decide (p.2 ≠ 0))) ⟨same_new hZ, [], upd_same, Nat.le_refl _, .nil⟩ (fun i H' _ h' => SqL.of (h'.1 _ _ ep)) ?_ ?_
    · rintro i x H2 H3 hi ⟨s2, zs, eZ, lz, hz⟩ ⟨rfl, hx⟩
      rw [List.getElem?_map] at hx
      obtain ⟨n, hn, rfl⟩ : ∃ n, ys[i]? = some n ∧ x = V.str n := by
        cases q : ys[i]? with
        | none => rw [q] at hx; cases hx
        | some n => rw [q] at hx; exact ⟨n, rfl, (Option.some.inj hx).symm⟩
      have hm := mem (hperm.mem_iff.mp (List.mem_of_getElem? hn))
      have ft : (((ys.take (i + 1)).map fun n => (n, getF fs n)).filter fun p => decide (p.2 ≠ 0)) = (((ys.take i).map fun n => (n, getF fs n)).filter fun p => decide (p.2 ≠ 0)) ++ (if getF fs n ≠ 0 then [(n, getF fs n)] else []) := by
        rw [take_snoc hn, List.map_append, List.filter_append]
        congr 1
        by_cases q : getF fs n = 0
        · simp [q]
        · simp [q]
      refine ⟨rfl, _, rfl, _, rfl, D, _, rfl, .inl ⟨kvS fs, Sum.inr n, .inl (s2 _ _ eD1), rfl, hm⟩, rfl, _, rfl, ite2 (fun hne => ?_) (fun hne => ?_)⟩
      · have gne : getF fs n ≠ 0 := fun q => by rw [q] at hne; exact absurd hne (by decide)
        refine ⟨_, rfl, _, rfl, _, rfl, D, _, rfl, .inl ⟨kvS fs, Sum.inr n, .inl (s2 _ _ eD1), rfl, hm⟩, (by show 2 ≤ sizeLine; decide), fun t ht => ?_⟩
        have s3 := same_new (o := .tup [.str n, .int (getF fs n)]) ht
        have eZ3 := s3 _ _ eZ
        rw [List.length_map] at hi
        refine ⟨zs, eZ3, small1000 (by omega), fun b o e => by rw [upd_ne (ne_of_none e hZ)]; exact s3 _ _ (s2 _ _ e), zs ++ [.ref t], upd_same, by rw [List.length_append]; show zs.length + 1 ≤ i + 1; omega, ?_⟩
        rw [ft, if_pos gne]
        have ts : TSame H3 (upd (upd H3 t (.tup [.str n, .int (getF fs n)])) Z (.lst (zs ++ [.ref t]))) := fun b xs e => by
          rw [upd_ne (ne_of (s3 _ _ e) eZ3 fun z => by cases z)]
          exact s3 _ _ e
        refine Paired.snocP (Paired.mapP hz fun _ _ q => q.same ts) ⟨t, rfl, ?_⟩
        show upd (upd H3 t _) Z _ t = _
        rw [upd_ne (fun z => by rw [z, eZ] at ht; cases ht), upd_same]
      · have ge : getF fs n = 0 := by
          by_cases q : getF fs n = 0
          · exact q
          · exact absurd (show (!decide (V.int (getF fs n) = V.int 0)) = true by rw [decide_eq_false (fun q' => by injection q' with q'; exact q q')]; rfl) hne
        refine ⟨s2, zs, eZ, by omega, ?_⟩
        rw [ft, if_neg (fun q => q ge), List.append_nil]
        exact hz
    · rintro H2 ⟨s2, zs, eZ, lz, hz⟩
      rw [List.length_map, List.take_length] at hz
      refine ⟨Z, _, rfl, .inl ⟨SqL.of eZ, fun q hq => ⟨(by show 2 ≤ sizeLine; decide), fun r hr' => ?_⟩⟩⟩
      have s3 := same_new (o := .tup zs) hq
      have s4 := same_new (o := .tup [.int c, .ref q]) hr'
      exact k r _ _ (((s1.trans s2).trans s3).trans s4) ⟨ys, hperm, hsort, rfl⟩ ⟨r, q, zs, rfl, upd_same, s4 _ _ upd_same, Paired.mapP hz fun _ _ z => z.same (TSame.of (s3.trans s4))⟩
end

/-! ### k05: read_expression -/
def sgn (b : Bool) : Int := if b = true then -1 else 1
theorem sgn_lt (b : Bool) : -(2 ^ 64) < sgn b ∧ sgn b < 2 ^ 64 := by cases b <;> decide
theorem nd_len {α : Type} [DecidableEq α] : ∀ {l m : List α}, l.Nodup → (∀ x ∈ l, x ∈ m) → l.length ≤ m.length
  | [], _, _, _ => Nat.zero_le _
  | x :: r, m, nd, h => by
    obtain ⟨h1, h2⟩ := List.nodup_cons.mp nd
    have ih := nd_len (l := r) (m := m.erase x) h2 fun y hy => (List.mem_erase_of_ne (fun z : y = x => h1 (by rw [← z]; exact hy))).mpr (h y (List.mem_cons_of_mem _ hy))
    have hx := h x List.mem_cons_self
    rw [List.length_erase_of_mem hx] at ih
    have := List.length_pos_of_mem hx
    rw [List.length_cons]
    omega
theorem isW_lt {w : Str} {l : Tl} (z : isW w l = true) : l.tail.length < l.length := tail_lt (nonnil_W z)
theorem sum_fuel : ∀ (k : Nat) (l : Tl) (n m : Nat), l.length ≤ k → l.length < n → l.length < m → rSum n l = rSum m l := fun k => by
  induction k using Nat.strongRecOn with
  | _ k ih =>
    intro l n m hk hn hm
    obtain ⟨n, rfl⟩ : ∃ n', n = n' + 1 := ⟨n - 1, by omega⟩
    obtain ⟨m, rfl⟩ : ∃ m', m = m' + 1 := ⟨m - 1, by omega⟩
    show andR (rTerm l) _ = andR (rTerm l) _
    cases h : rTerm l with
    | error e => rfl
    | ok l1 =>
      have h1 := (suf_term _ _ h).length_le
      show (if isW "+" l1 = true then rSum n l1.tail else if isW "-" l1 = true then rSum n l1.tail else .ok l1) = if isW "+" l1 = true then rSum m l1.tail else if isW "-" l1 = true then rSum m l1.tail else .ok l1
      by_cases p : isW "+" l1 = true
      · have := isW_lt p
        rw [if_pos p, if_pos p]
        exact ih l1.tail.length (by omega) l1.tail n m (Nat.le_refl _) (by omega) (by omega)
      · rw [if_neg p, if_neg p]
        by_cases q : isW "-" l1 = true
        · have := isW_lt q
          rw [if_pos q, if_pos q]
          exact ih l1.tail.length (by omega) l1.tail n m (Nat.le_refl _) (by omega) (by omega)
        · rw [if_neg q, if_neg q]
/-- a sum, with just enough fuel -/
def rSums (l : Tl) : RdR := rSum (l.length + 1) l
def sumT (l1 : Tl) : RdR := if isW "+" l1 = true then rSums l1.tail else if isW "-" l1 = true then rSums l1.tail else .ok l1
theorem sums_eq (l : Tl) : rSums l = andR (rTerm l) sumT := by
  show andR (rTerm l) _ = _
  cases h : rTerm l with
  | error e => rfl
  | ok l1 =>
    have h1 := (suf_term _ _ h).length_le
    show (if isW "+" l1 = true then rSum l.length l1.tail else if isW "-" l1 = true then rSum l.length l1.tail else .ok l1) = sumT l1
    unfold sumT
    by_cases p : isW "+" l1 = true
    · have := isW_lt p
      rw [if_pos p, if_pos p]
      exact sum_fuel _ _ _ _ (Nat.le_refl _) (by omega) (by omega)
    · rw [if_neg p, if_neg p]
      by_cases q : isW "-" l1 = true
      · have := isW_lt q
        rw [if_pos q, if_pos q]
        exact sum_fuel _ _ _ _ (Nat.le_refl _) (by omega) (by omega)
      · rw [if_neg q, if_neg q]
theorem expr_eq (l : Tl) : rExpr l = rSums (if isW "-" l = true then l.tail else l) := by
  unfold rExpr rSums
  by_cases p : isW "-" l = true
  · have := isW_lt p
    rw [if_pos p]
    exact sum_fuel _ _ _ _ (Nat.le_refl _) (by omega) (by omega)
  · rw [if_neg p]
section
variable {C S L X : Addr} {H H' H1 : Hp} {d : Nat} {ts l : Tl}
theorem RdG.ownK {xs : List (Key × V)} {o : HO} (h : RdG C H S L d ts l) (e : H X = some (.dK xs)) (n1 : X ≠ S) (n2 : X ≠ L) : RdG C (upd H X o) S L d ts l := by
  obtain ⟨i, ⟨dy, ys, y1, y2, y3⟩, z⟩ := h
  exact ⟨i, ⟨dy, ys, by rw [upd_ne n1.symm]; exact y1, by rw [upd_ne n2.symm]; exact y2, Paired.mapP y3 fun _ _ q => q.same fun b zs eb => by rw [upd_ne (ne_of eb e (by intro z; cases z))]; exact eb⟩, z⟩
/-- factors by names of the text -/
def FacIn (ts : Tl) (fs : Fac) : Prop := Uniq fs ∧ ∀ p ∈ fs, NmIn ts p.1
theorem FacIn.len {fs : Fac} (h : FacIn ts fs) (t : TsOk ts) : fs.length < 50 := by
  obtain ⟨W, h1, h2⟩ := t.nm
  have nd : (fs.map (·.1)).Nodup := h.1
  have := nd_len (m := W) nd fun x hx => by
    obtain ⟨p, hp, rfl⟩ := List.mem_map.mp hx
    exact h2 _ (h.2 p hp)
  rw [List.length_map] at this
  omega
theorem FacIn.add {fs : Fac} (h : FacIn ts fs) {x : Str} (hx : NmIn ts x) (v : Int) : FacIn ts (addF fs x v) := by
  refine ⟨uniq_addF h.1 x v, fun p hp => ?_⟩
  have hm : p.1 ∈ (addF fs x v).map (·.1) := List.mem_map.mpr ⟨p, hp, rfl⟩
  rw [names_addF] at hm
  have old : p.1 ∈ fs.map (·.1) → NmIn ts p.1 := fun z => by
    obtain ⟨q, hq, e⟩ := List.mem_map.mp z
    rw [← e]
    exact h.2 q hq
  split at hm
  · exact old hm
  · rcases List.mem_append.mp hm with z | z
    · exact old z
    · rw [List.mem_singleton.mp z]
      exact hx
end
def WExpG (C S L D : Addr) (d : Nat) (ts : Tl) (H : Hp) (R : RdR) (m : Nat) (σ : L2.St) (H' : Hp) : Prop := ∃ (l2 : Tl) (sg : Bool) (fs : Fac) (c : Int) (nv xv : Option V), m = l2.length ∧ σ = [some (.ref S), some (.int c), some (.ref D), some (.int (sgn sg)), nv, xv] ∧ Bt S H H' ∧ RdG C H' S L d ts l2 ∧ H' D = some (.dK (kvS fs)) ∧ FacIn ts fs ∧ R = rSums l2
def tTailG (C : Addr) : TS := tIfS (tB (tMeth C "accept" (spAccG C) [] E0 (tVar 0) (tCons (tC (V.str "+")) tNil))) (tAsg (tC (V.int 1)) (gName 3)) (tIfS (tB (tMeth C "accept" (spAccG C) [] E0 (tVar 0) (tCons (tC (V.str "-")) tNil))) (tAsg (tUn (rU fun i => V.int (-i)) (tC (V.int 1))) (gName 3)) (tRet (tCall spExprOf [] E0 (tCons (tVar 1) (tCons (tVar 2) tNil)))))
theorem tail_okG {C S L D : Addr} {d n : Nat} {ts l1 : Tl} {H H5 : Hp} {R : RdR} {fs : Fac} {c : Int} {sv nv xv : Option V} {DD : Ends} (DS : D ≠ S)
    (b5 : Bt S H H5) (rg : RdG C H5 S L d ts l1) (eD : H5 D = some (.dK (kvS fs))) (eq : R = sumT l1) (u : FacIn ts fs) (ln : l1.length ≤ n)
    (hN : ∀ m σ' H', m < n → WExpG C S L D d ts H R m σ' H' → DD.nx σ' H') (hR : ∀ (v : V) (H' : Hp), Bt S H H' → RdG C H' S L d ts l1 → R = .ok l1 → DD.rt v H') :
    tTailG C DD [some (.ref S), some (.int c), some (.ref D), sv, nv, xv] H5 := by
  obtain ⟨dx, i, e1⟩ := rg.ins
  unfold sumT at eq
  refine ⟨_, rfl, S, dx, _, rfl, e1, rfl, S, L, d, ts, l1, "+", rfl, rg, fun hp => ⟨false, rfl, iteE rfl ?_⟩, fun hp H6 b6 rg6 => ⟨true, rfl, iteS rfl ?_⟩⟩
  · rw [if_neg (by rw [hp]; decide)] at eq
    refine ⟨_, rfl, S, dx, _, rfl, e1, rfl, S, L, d, ts, l1, "-", rfl, rg, fun hm => ⟨false, rfl, iteE rfl ?_⟩, fun hm H6 b6 rg6 => ⟨true, rfl, iteS rfl ?_⟩⟩
    · rw [if_neg (by rw [hm]; decide)] at eq
      refine ⟨_, rfl, _, rfl, c, D, fs, rfl, eD, u.1, Nat.lt_trans (u.len rg.ok) (by decide), fun p l H' s1 ho he => ?_⟩
      exact hR _ H' (b5.trans (.of s1)) (rg.same s1) eq
    · rw [if_pos hm] at eq
      have := isW_lt hm
      exact ⟨_, rfl, hN _ _ _ (by omega) ⟨l1.tail, true, fs, c, nv, xv, rfl, rfl, b5.trans b6, rg6, b6 _ _ eD DS, u, eq⟩⟩
  · rw [if_pos hp] at eq
    have := isW_lt hp
    exact hN _ _ _ (by omega) ⟨l1.tail, false, fs, c, nv, xv, rfl, rfl, b5.trans b6, rg6, b6 _ _ eD DS, u, eq⟩
section
variable {P : Program} {w : World} {K : PySem.W.Frag} {mg : Str → Option Value} {base : Heap} {C CS CT : Addr}
theorem ok_RExprG {f : Addr} {fd : FuncData} (F : Fun K "read_expression" "Reader.read_expression" sRExpr f fd) (T : TxSum mg) (TR : TxR K C) (MT : HasM P w K mg base (L2N.CX P w) 4 C "read_term" PRTerm (spTermG CS CT C)) (MA : HasM P w K mg base CX0 3 C "accept" PRAcc (spAccG C)) (GE : Has P w K mg base CX0 1 "expression_of" PExprOf spExprOf) : FnOk P w K mg base (L2N.CX P w) 5 f fd PRExpr (spRd CS CT C rExpr) := by
  refine Fun.okN F scRExpr (fun vs H Q E h => ?_) (fun cdv A outer s H vs Q E hr h => ?_)
  · obtain ⟨S, L, d, ts, l, rfl, _⟩ := h
    rfl
  · obtain ⟨S, L, d, ts, l, rfl, rg, k1, k2⟩ := h
    have hr3 := hr.mono (j := 3) (by decide)
    have hr1 := hr.mono (j := 1) (by decide)
    have hu := hu_of hr
    have tk := L2N.takes_of (X := cxOf (L2N.CX P w) P w K mg base NRExpr "Reader.read_expression" (defScope sRExpr) f cdv A outer s H E) (E := E) rfl rfl rfl rfl
    refine ⟨_, (pss_cons (ps_set (i := 1) scRExpr.nd rfl (Or.inl rfl) pe_int)
  (pss_cons (ps_set (i := 2) scRExpr.nd rfl (Or.inl rfl) pe_dnewK)
  (pss_cons (ps_set (i := 3) scRExpr.nd rfl (Or.inl rfl) (pe_ifExp (pt_val (pe_methH (pv 0) TR.cl MA hr3 pass0 (pa_cons pe_str pa_nil))) (pe_un un_neg pe_int) pe_int))
  (pss_one (ps_while (passes_of rfl) (pt_val pe_bl)
  (pss_cons (ps_asg (pe_methH0 (pv 0) TR.cl MT hr (fun pins σ H1 s1 e s' I c => L2N.passAt tk σ pins H1 s1 e s' I c)) (pg_tup (by rfl) (pgs_cons (pg_name (i := 4) scRExpr.nd rfl (Or.inl rfl)) (pgs_cons (pg_name (i := 5) scRExpr.nd rfl (Or.inl rfl)) pgs_nil))))
  (pss_cons (ps_if (pt_cmpR op_isN (pv 4) pe_non (nomark _))
  (pss_one (ps_aug (i := 1) scRExpr.nd rfl (Or.inl rfl) (pe_op op_mul (pv 3) (pv 5)) ip_add))
  (pss_one (ps_dput hu (pv 2) (pv 4) (pe_op op_add (pe_dget2 hu (pv 2) (pv 4) pe_int ⟨rfl, rfl, rfl, rfl⟩) (pe_op op_mul (pv 3) (pv 5))) rfl)))
  (pss_one (ps_if (pt_val (pe_methH (pv 0) TR.cl MA hr3 pass0 (pa_cons pe_str pa_nil)))
  (pss_one (ps_set (i := 3) scRExpr.nd rfl (Or.inl rfl) pe_int))
  (pss_one (ps_if (pt_val (pe_methH (pv 0) TR.cl MA hr3 pass0 (pa_cons pe_str pa_nil)))
  (pss_one (ps_set (i := 3) scRExpr.nd rfl (Or.inl rfl) (pe_un un_neg pe_int)))
  (pss_one (ps_ret (pe_callH GE hr1 rfl pass0 (pa_cons (pv 1) (pa_cons (pv 2) pa_nil)))))))))))))))), ?_⟩
    refine fun D hD => ?_
    have sD := same_new (o := .dK []) hD
    obtain ⟨DS, DL⟩ := rg.ne hD
    have rg0 := rg.same sD
    have eD : upd H D (.dK []) D = some (.dK []) := upd_same
    generalize upd H D (.dK []) = H0 at *
    obtain ⟨dx, i, e1⟩ := rg0.ins
    have xeq := expr_eq l
    refine ⟨_, rfl, S, dx, _, rfl, e1, rfl, S, L, d, ts, l, "-", rfl, rg0, ?_⟩
    refine (fun (key : ∀ (sg : Bool) (l1 : Tl) (H1 : Hp), Bt S H H1 → RdG C H1 S L d ts l1 → H1 D = some (.dK []) → rExpr l = rSums l1 → tWhile _ _ _ [some (.ref S), some (.int 0), some (.ref D), some (.int (sgn sg)), none, none] H1) =>
      ⟨fun hz => ⟨false, rfl, iteE rfl (key false l H0 (.of sD) rg0 eD (by rw [xeq, if_neg (by rw [hz]; decide)]))⟩, fun hz H1 b1 rg1 => ⟨true, rfl, iteS rfl ⟨_, rfl, key true l.tail H1 ((Bt.of sD).trans b1) rg1 (b1 _ _ eD DS) (by rw [xeq, if_pos hz])⟩⟩⟩) ?_
    intro sg0 l0 H1 b1 rg1 eD1 eq0
    refine ⟨WExpG C S L D d ts H (rExpr l), ⟨_, l0, sg0, [], 0, none, none, rfl, rfl, b1, rg1, eD1, ⟨List.nodup_nil, fun p hp => nomatch hp⟩, eq0⟩, ?_⟩
    rintro m σ H2 ⟨l2, sg, fs, c, nv, xv, rfl, rfl, b2, rg2, eD2, u, eq⟩
    obtain ⟨dx2, i2, e2⟩ := rg2.ins
    rw [sums_eq] at eq
    refine ⟨true, rfl, iteS rfl ⟨fun σ' H' => ∃ m', m' < l2.length ∧ WExpG C S L D d ts H (rExpr l) m' σ' H', fun _ _ h => h, ?_⟩⟩
    refine ⟨_, rfl, S, dx2, _, rfl, e2, rfl, S, L, d, ts, l2, rfl, rg2, fun l3 h3 nm n p H3 hnm b3 rg3 hp => ⟨p, _, rfl, SqT.of hp, rfl, _, _, rfl, _, _, rfl, rfl, ?_⟩, fun e h3 => (k2 e (eq.trans (by rw [h3]; rfl))).bt b2⟩
    have eD3 := b3 _ _ eD2 DS
    have ln := (suf_term _ _ h3).length_le
    rw [h3] at eq
    have eq : rExpr l = sumT l3 := eq
    cases nm with
    | none =>
      refine ⟨_, rfl, rfl, _, rfl, iteS (decide_eq_true rfl) ?_⟩
      refine ⟨_, rfl, _, rfl, _, rfl, _, _, rfl, rfl, .inl (sgn_lt sg), _, _, rfl, rfl, ?_⟩
      exact tail_okG DS (b2.trans b3) rg3 eD3 eq u ln (fun m σ' H' h1 h2 => ⟨m, h1, h2⟩) (fun v H' b' r' e' => k1 _ e' v H' b' r')
    | some x =>
      refine ⟨_, rfl, rfl, _, rfl, iteE (decide_eq_false fun z => by cases z) ?_⟩
      refine ⟨_, rfl, D, rfl, .inl ⟨_, .inl eD3⟩, _, rfl, valV (kvS fs) (Sum.inr x), .inl ⟨kvS fs, Sum.inr x, .inl eD3, rfl, rfl⟩, ?_⟩
      rw [val_getD]
      have u5 := u.add (hnm x rfl) (sgn sg * n)
      have b5 : Bt S H (upd H3 D (.dK (kvS (addF fs x (sgn sg * n))))) := fun b o e h => by
        have bD : b ≠ D := fun z => by rw [z, hD] at e; cases e
        rw [upd_ne bD]
        exact b3 _ _ (b2 _ _ e h) h
      have rg5 : RdG C (upd H3 D (.dK (kvS (addF fs x (sgn sg * n))))) S L d ts l3 := rg3.ownK eD3 DS DL
      have lf := u.len rg3.ok
      refine ⟨_, rfl, _, rfl, _, _, rfl, rfl, .inl (sgn_lt sg), _, _, rfl, rfl, _, rfl, _, rfl, D, _, rfl, .inl ⟨kvS fs, Sum.inr x, eD3, rfl, small1000 (by unfold kvS; rw [List.length_map]; omega), rfl⟩, ?_⟩
      rw [put_kvS u.1]
      exact tail_okG DS b5 rg5 upd_same eq u5 ln (fun m σ' H' h1 h2 => ⟨m, h1, h2⟩) (fun v H' b' r' e' => k1 _ e' v H' b' r')
end

/-! ### k05: read_arg, read_param, read_args -/
abbrev sRArg : Stmt := inClass (topS 16) 10
abbrev NRArg : List Str := ["self"]
abbrev PRArg : List Str := ["self"]
theorem scRArg : FnScope NRArg PRArg (defScope sRArg) := ⟨rfl, rfl, rfl, by decide +kernel, rfl, by decide +kernel, by decide +kernel⟩
abbrev sRArgs : Stmt := inClass (topS 16) 11
abbrev NRArgs : List Str := ["self", "args"]
abbrev PRArgs : List Str := ["self"]
theorem scRArgs : FnScope NRArgs PRArgs (defScope sRArgs) := ⟨rfl, rfl, rfl, by decide +kernel, rfl, by decide +kernel, by decide +kernel⟩
abbrev sRPar : Stmt := inClass (topS 16) 17
abbrev NRPar : List Str := ["self", "by_place"]
abbrev PRPar : List Str := ["self"]
theorem scRPar : FnScope NRPar PRPar (defScope sRPar) := ⟨rfl, rfl, rfl, by decide +kernel, rfl, by decide +kernel, by decide +kernel⟩
section
variable {C S L X : Addr} {H H' H2 : Hp} {d n : Nat} {ts l2 l3 : Tl} {xs : List V}
/-- a list of the reader's own, with room for n more -/
def LsG (C S L X : Addr) (d : Nat) (ts : Tl) (H H' : Hp) (n : Nat) (l2 : Tl) : Prop := (Bt S H H' ∧ RdG C H' S L d ts l2) ∧ ((∀ b o, H b = some o → b ≠ S → b ≠ X) ∧ X ≠ S ∧ X ≠ L) ∧ ∃ xs, H' X = some (.lst xs) ∧ xs.length + n ≤ 1000002
theorem LsG.new (b : Bt S H H2) (rg : RdG C H2 S L d ts l2) (hX : H2 X = none) (hn : xs.length + n ≤ 1000002) : LsG C S L X d ts H (upd H2 X (.lst xs)) n l2 := by
  have s2 := same_new (o := .lst xs) hX
  exact ⟨⟨b.trans (.of s2), rg.same s2⟩, ⟨fun c o e hc => ne_of_none (b _ _ e hc) hX, rg.ne hX⟩, xs, upd_same, hn⟩
theorem LsG.read (h : LsG C S L X d ts H H' n l2) (b : Bt S H' H2) (rg : RdG C H2 S L d ts l3) : LsG C S L X d ts H H2 n l3 := by
  obtain ⟨⟨h1, _⟩, h3, xs, h4, h5⟩ := h
  exact ⟨⟨h1.trans b, rg⟩, h3, xs, b _ _ h4 h3.2.1, h5⟩
theorem LsG.le {m : Nat} (h : LsG C S L X d ts H H' n l2) (hm : m ≤ n) : LsG C S L X d ts H H' m l2 := by
  obtain ⟨h1, h3, xs, h4, h5⟩ := h
  exact ⟨h1, h3, xs, h4, by omega⟩
theorem LsG.put (h : LsG C S L X d ts H H' (n + 1) l2) (e : H' X = some (.lst xs)) (v : V) : LsG C S L X d ts H (upd H' X (.lst (xs ++ [v]))) n l2 := by
  obtain ⟨⟨h1, h2⟩, h3, ys, h4, h5⟩ := h
  rw [e] at h4
  cases h4
  refine ⟨⟨fun c o e' hc => ?_, h2.own e h3.2.1 h3.2.2⟩, h3, _, upd_same, by rw [List.length_append]; show xs.length + 1 + n ≤ _; omega⟩
  rw [upd_ne (h3.1 c o e' hc)]
  exact h1 c o e' hc
theorem LsG.rg (h : LsG C S L X d ts H H' n l2) : RdG C H' S L d ts l2 := h.1.2
theorem LsG.bt (h : LsG C S L X d ts H H' n l2) : Bt S H H' := h.1.1
theorem LsG.lst (h : LsG C S L X d ts H H' n l2) : ∃ xs, H' X = some (.lst xs) ∧ xs.length + n ≤ 1000002 := h.2.2
end
section
variable {P : Program} {w : World} {K : PySem.W.Frag} {mg : Str → Option Value} {base : Heap} {C CS CT : Addr}
theorem ok_RArgG {f : Addr} {fd : FuncData} (F : Fun K "read_arg" "Reader.read_arg" sRArg f fd) (TR : TxR K C) (MN : HasM P w K mg base (L2N.CX P w) 3 C "read_name" PRName (spRdN CS CT C rName)) (MA : HasM P w K mg base CX0 3 C "accept" PRAcc (spAccG C)) (ME : HasM P w K mg base (L2N.CX P w) 5 C "read_expression" PRExpr (spRd CS CT C rExpr)) : FnOk P w K mg base (L2N.CX P w) 6 f fd PRArg (spRd CS CT C rArg) := by
  refine Fun.okN F scRArg (fun vs H Q E h => ?_) (fun cdv A outer s H vs Q E hr h => ?_)
  · obtain ⟨S, L, d, ts, l, rfl, _⟩ := h
    rfl
  · obtain ⟨S, L, d, ts, l, rfl, rg, k1, k2⟩ := h
    have hr3 := hr.mono (j := 3) (by decide)
    obtain ⟨dx, i, eS⟩ := rg.ins
    have tk := L2N.takes_of (X := cxOf (L2N.CX P w) P w K mg base NRArg "Reader.read_arg" (defScope sRArg) f cdv A outer s H E) (E := E) rfl rfl rfl rfl
    refine ⟨_, (pss_cons (ps_if (pt_val (pe_methH (pv 0) TR.cl MA hr3 pass0 (pa_cons pe_str pa_nil)))
  (pss_one (ps_ret (pe_tup (pa_cons pe_str (pa_cons (pe_methH0 (pv 0) TR.cl MN hr3 (fun pins σ H1 s1 e s' I c => L2N.passAt tk σ pins H1 s1 e s' I c)) pa_nil)))))
  pss_nil)
  (pss_one (ps_ret (pe_tup (pa_cons pe_str (pa_cons (pe_methH0 (pv 0) TR.cl ME hr (fun pins σ H1 s1 e s' I c => L2N.passAt tk σ pins H1 s1 e s' I c)) pa_nil)))))), ?_⟩
    unfold rArg at k1 k2
    refine ⟨_, rfl, S, dx, _, rfl, eS, rfl, S, L, d, ts, l, "&", rfl, rg, fun hz => ⟨false, rfl, iteE rfl ?_⟩, fun hz H1 b1 rg1 => ⟨true, rfl, iteS rfl ?_⟩⟩
    · rw [if_neg (by rw [hz]; decide)] at k1 k2
      refine ⟨_, rfl, S, dx, _, rfl, eS, rfl, S, L, d, ts, l, rfl, rg, fun l' h1 v H2 b2 rg2 => ⟨(by show 2 ≤ sizeLine; decide), fun p hp => ?_⟩, k2⟩
      have s3 := same_new (o := .tup [.str "value", v]) hp
      exact k1 l' h1 _ _ (b2.trans (.of s3)) (rg2.same s3)
    · rw [if_pos hz] at k1 k2
      obtain ⟨dx1, i1, eS1⟩ := rg1.ins
      refine ⟨_, rfl, S, dx1, _, rfl, eS1, rfl, S, L, d, ts, l.tail, rfl, rg1, fun l' h1 H2 b2 rg2 => ⟨(by show 2 ≤ sizeLine; decide), fun p hp => ?_⟩, fun e h1 => (k2 e h1).bt b1⟩
      have s3 := same_new (o := .tup [.str "place", .str (textH l.tail)]) hp
      exact k1 l' h1 _ _ ((b1.trans b2).trans (.of s3)) (rg2.same s3)
theorem ok_RParG {f : Addr} {fd : FuncData} (F : Fun K "read_param" "Reader.read_param" sRPar f fd) (TR : TxR K C) (MN : HasM P w K mg base (L2N.CX P w) 3 C "read_name" PRName (spRdN CS CT C rName)) (MA : HasM P w K mg base CX0 3 C "accept" PRAcc (spAccG C)) : FnOk P w K mg base (L2N.CX P w) 4 f fd PRPar (spRd CS CT C rParam) := by
  refine Fun.okN F scRPar (fun vs H Q E h => ?_) (fun cdv A outer s H vs Q E hr h => ?_)
  · obtain ⟨S, L, d, ts, l, rfl, _⟩ := h
    rfl
  · obtain ⟨S, L, d, ts, l, rfl, rg, k1, k2⟩ := h
    obtain ⟨dx, i, eS⟩ := rg.ins
    have tk := L2N.takes_of (X := cxOf (L2N.CX P w) P w K mg base NRPar "Reader.read_param" (defScope sRPar) f cdv A outer s H E) (E := E) rfl rfl rfl rfl
    refine ⟨_, (pss_cons (ps_set (i := 1) scRPar.nd rfl (Or.inl rfl) (pe_methH (pv 0) TR.cl MA hr pass0 (pa_cons pe_str pa_nil)))
  (pss_one (ps_ret (pe_tup (pa_cons (pe_methH0 (pv 0) TR.cl MN hr (fun pins σ H1 s1 e s' I c => L2N.passAt tk σ pins H1 s1 e s' I c)) (pa_cons (pv 1) pa_nil)))))), ?_⟩
    unfold rParam at k1 k2
    refine ⟨_, rfl, S, dx, _, rfl, eS, rfl, S, L, d, ts, l, "&", rfl, rg, fun hz => ?_, fun hz H1 b1 rg1 => ?_⟩
    · rw [if_neg (by rw [hz]; decide)] at k1 k2
      refine ⟨_, rfl, S, dx, _, rfl, eS, rfl, S, L, d, ts, l, rfl, rg, fun l' h1 H2 b2 rg2 => ⟨_, rfl, (by show 2 ≤ sizeLine; decide), fun p hp => ?_⟩, k2⟩
      have s3 := same_new (o := .tup [.str (textH l), .bl false]) hp
      exact k1 l' h1 _ _ (b2.trans (.of s3)) (rg2.same s3)
    · rw [if_pos hz] at k1 k2
      obtain ⟨dx1, i1, eS1⟩ := rg1.ins
      refine ⟨_, rfl, S, dx1, _, rfl, eS1, rfl, S, L, d, ts, l.tail, rfl, rg1, fun l' h1 H2 b2 rg2 => ⟨_, rfl, (by show 2 ≤ sizeLine; decide), fun p hp => ?_⟩, fun e h1 => (k2 e h1).bt b1⟩
      have s3 := same_new (o := .tup [.str (textH l.tail), .bl true]) hp
      exact k1 l' h1 _ _ ((b1.trans b2).trans (.of s3)) (rg2.same s3)
theorem ok_RArgsG {f : Addr} {fd : FuncData} (F : Fun K "read_args" "Reader.read_args" sRArgs f fd) (T : TxRd mg) (TR : TxR K C) (MG : HasM P w K mg base (L2N.CX P w) 6 C "read_arg" PRArg (spRd CS CT C rArg)) (MA : HasM P w K mg base CX0 3 C "accept" PRAcc (spAccG C)) (MX : HasM P w K mg base (L2N.CX P w) 4 C "expect" PRExp (spExpG CS CT C)) : FnOk P w K mg base (L2N.CX P w) 7 f fd PRArgs (spRd CS CT C rArgs) := by
  refine Fun.okN F scRArgs (fun vs H Q E h => ?_) (fun cdv A outer s H vs Q E hr h => ?_)
  · obtain ⟨S, L, d, ts, l, rfl, _⟩ := h
    rfl
  · obtain ⟨S, L, d, ts, l, rfl, rg, k1, k2⟩ := h
    have hr3 := hr.mono (j := 3) (by decide)
    have hr4 := hr.mono (j := 4) (by decide)
    obtain ⟨dx, i, eS⟩ := rg.ins
    have tk := L2N.takes_of (X := cxOf (L2N.CX P w) P w K mg base NRArgs "Reader.read_args" (defScope sRArgs) f cdv A outer s H E) (E := E) rfl rfl rfl rfl
    refine ⟨_, (pss_cons (ps_expr (pe_methH (pv 0) TR.cl MX hr4 (fun pins σ H1 s1 e s' I c => L2N.passAt tk σ pins H1 s1 e s' I c) (pa_cons pe_str pa_nil)))
  (pss_cons (ps_set (i := 1) scRArgs.nd rfl (Or.inl rfl) (pe_lst pa_nil))
  (pss_cons (ps_if (pt_val (pe_methH (pv 0) TR.cl MA hr3 pass0 (pa_cons pe_str pa_nil)))
  (pss_one (ps_ret (pe_tup pa_nil)))
  pss_nil)
  (pss_cons (ps_expr (pe_bm PySem.F.plainAttrs_list PySem.F.slot_list_append PySem.F.type_list_append mt_append (pv 1) (pa_cons (pe_methH0 (pv 0) TR.cl MG hr (fun pins σ H1 s1 e s' I c => L2N.passAt tk σ pins H1 s1 e s' I c)) pa_nil)))
  (pss_cons (ps_while (passes_of rfl) (pt_val (pe_methH (pv 0) TR.cl MA hr3 pass0 (pa_cons pe_str pa_nil)))
  (pss_one (ps_expr (pe_bm PySem.F.plainAttrs_list PySem.F.slot_list_append PySem.F.type_list_append mt_append (pv 1) (pa_cons (pe_methH0 (pv 0) TR.cl MG hr (fun pins σ H1 s1 e s' I c => L2N.passAt tk σ pins H1 s1 e s' I c)) pa_nil)))))
  (pss_cons (ps_expr (pe_methH (pv 0) TR.cl MX hr4 (fun pins σ H1 s1 e s' I c => L2N.passAt tk σ pins H1 s1 e s' I c) (pa_cons pe_str pa_nil)))
  (pss_one (ps_ret (pe_callTy call_tuple_of (by rfl) T.n_tuple bb_tuple (pa_cons (pv 1) pa_nil)))))))))), ?_⟩
    have cn : isW "," [] = false := by decide +kernel
    have eq0 : rArgs l = andR (rExp "(" l) fun l1 => if isW ")" l1 = true then .ok l1.tail else andR (rArg l1) fun l2 => andR (rMore rArg l2.length l2) (rExp ")") := rfl
    refine ⟨_, rfl, S, dx, _, rfl, eS, rfl, S, L, d, ts, l, "(", rfl, rg, fun l1 h1 H1 b1 rg1 => ⟨(by show 0 ≤ sizeLine; decide), fun X hX => ?_⟩, fun e h1 => k2 e (by rw [eq0, h1]; rfl)⟩
    rw [h1] at eq0
    have eq0 : rArgs l = if isW ")" l1 = true then .ok l1.tail else andR (rArg l1) fun l2 => andR (rMore rArg l2.length l2) (rExp ")") := eq0
    have lg : LsG C S L X d ts H (upd H1 X (.lst [])) (l1.length + 1) l1 := .new b1 rg1 hX (by have := rg1.len; show 0 + _ ≤ _; omega)
    have eX : upd H1 X (.lst []) X = some (.lst []) := upd_same
    generalize upd H1 X (.lst []) = H2 at *
    obtain ⟨dx2, i2, e2⟩ := lg.rg.ins
    refine ⟨_, rfl, S, dx2, _, rfl, e2, rfl, S, L, d, ts, l1, ")", rfl, lg.rg, fun hz => ⟨false, rfl, iteE rfl ?_⟩, fun hz H3 b3 rg3 => ⟨true, rfl, iteS rfl ⟨(by show 0 ≤ sizeLine; decide), fun t ht => ?_⟩⟩⟩
    case refine_2 =>
      rw [if_pos hz] at eq0
      have s4 := same_new (o := .tup []) ht
      exact k1 _ eq0 _ _ ((lg.bt.trans b3).trans (.of s4)) (rg3.same s4)
    rw [if_neg (by rw [hz]; decide)] at eq0
    refine ⟨_, rfl, .inl ⟨rfl, _, SqL.of eX⟩, _, rfl, S, dx2, _, rfl, e2, rfl, S, L, d, ts, l1, rfl, lg.rg, fun l2 h2 v H3 b3 rg3 => ?_, fun e h2 => (k2 e (by rw [eq0, h2]; rfl)).bt lg.bt⟩
    have n2 := (suf_arg _ _ h2).length_le
    rw [h2] at eq0
    have eq0 : rArgs l = andR (rMore rArg l2.length l2) (rExp ")") := eq0
    have lg3 := (lg.read b3 rg3).le (m := l2.length + 1) (by omega)
    have eX3 := b3 _ _ eX lg.2.1.2.1
    have lg4 := lg3.put eX3 v
    refine ⟨X, _, _, rfl, rfl, eX3, by decide, ?_⟩
    generalize upd H3 X (.lst ([] ++ [v])) = H4 at *
    refine ⟨fun m σ H' => ∃ (l2 : Tl), m = l2.length ∧ σ = [some (.ref S), some (.ref X)] ∧ LsG C S L X d ts H H' l2.length l2 ∧ rArgs l = andR (rMore rArg l2.length l2) (rExp ")"), ⟨_, l2, rfl, rfl, lg4, eq0⟩, ?_⟩
    rintro m σ H5 ⟨l5, rfl, rfl, lg5, eq5⟩
    obtain ⟨dx5, i5, e5⟩ := lg5.rg.ins
    rw [show rMore rArg l5.length l5 = _ from loop_eq suf_arg cn l5] at eq5
    refine ⟨_, rfl, S, dx5, _, rfl, e5, rfl, S, L, d, ts, l5, ",", rfl, lg5.rg, fun hz5 => ⟨false, rfl, iteF ?_⟩, fun hz5 H6 b6 rg6 => ⟨true, rfl, iteT ?_⟩⟩
    · rw [if_neg (by rw [hz5]; decide)] at eq5
      have eq5 : rArgs l = rExp ")" l5 := eq5
      refine ⟨_, rfl, S, dx5, _, rfl, e5, rfl, S, L, d, ts, l5, ")", rfl, lg5.rg, fun l6 h6 H6 b6 rg6 => ?_, fun e h6 => (k2 e (eq5.trans h6)).bt lg5.bt⟩
      have lg6 := lg5.read b6 rg6
      obtain ⟨xs, eX6, _⟩ := lg6.lst
      refine ⟨_, rfl, X, xs, rfl, .inl ⟨SqL.of eX6, fun q hq => ?_⟩⟩
      have s7 := same_new (o := .tup xs) hq
      exact k1 _ (eq5.trans h6) _ _ (lg6.bt.trans (.of s7)) (lg6.rg.same s7)
    · rw [if_pos hz5] at eq5
      have lt5 := isW_lt hz5
      have lg6 := lg5.read b6 rg6
      obtain ⟨dx6, i6, e6⟩ := lg6.rg.ins
      obtain ⟨ys, eX6, _⟩ := lg6.lst
      refine ⟨fun σ' H' => ∃ (l7 : Tl), l7.length < l5.length ∧ σ' = [some (.ref S), some (.ref X)] ∧ LsG C S L X d ts H H' l7.length l7 ∧ rArgs l = andR (rMore rArg l7.length l7) (rExp ")"), fun σ' H' ⟨l7, u0, u1, u2, u3⟩ => ⟨l7.length, u0, l7, rfl, u1, u2, u3⟩, ?_⟩
      refine ⟨_, rfl, .inl ⟨rfl, _, SqL.of eX6⟩, _, rfl, S, dx6, _, rfl, e6, rfl, S, L, d, ts, l5.tail, rfl, lg6.rg, fun l7 h7 v7 H7 b7 rg7 => ?_, fun e h7 => (k2 e (by rw [eq5, h7]; rfl)).bt lg6.bt⟩
      have n7 := (suf_arg _ _ h7).length_le
      have lg7 := (lg6.read b7 rg7).le (m := l7.length + 1) (by omega)
      have eX7 := b7 _ _ eX6 lg6.2.1.2.1
      rw [h7] at eq5
      obtain ⟨zs, eZ, lz⟩ := lg7.lst
      rw [eX7] at eZ
      cases eZ
      refine ⟨X, _, _, rfl, rfl, eX7, Nat.lt_of_le_of_lt (show ys.length ≤ 1000002 by omega) (by decide), l7, by omega, rfl, lg7.put eX7 v7, eq5⟩
end

/-! ### k05: read_action -/
abbrev sRAct : Stmt := inClass (topS 16) 14
abbrev NRAct : List Str := ["self", "name", "callee"]
abbrev PRAct : List Str := ["self"]
theorem scRAct : FnScope NRAct PRAct (defScope sRAct) := ⟨rfl, rfl, rfl, by decide +kernel, rfl, by decide +kernel, by decide +kernel⟩
section
variable {P : Program} {w : World} {K : PySem.W.Frag} {mg : Str → Option Value} {base : Heap} {C CS CT : Addr}
theorem ok_RActG {f : Addr} {fd : FuncData} (F : Fun K "read_action" "Reader.read_action" sRAct f fd) (TR : TxR K C) (MC : HasM P w K mg base CX0 1 C "current" PRCur (spCurG C)) (MI : HasM P w K mg base CX0 2 C "is_next" PRNext (spNxtG C)) (MN : HasM P w K mg base (L2N.CX P w) 3 C "read_name" PRName (spRdN CS CT C rName)) (MA : HasM P w K mg base CX0 3 C "accept" PRAcc (spAccG C)) (MX : HasM P w K mg base (L2N.CX P w) 4 C "expect" PRExp (spExpG CS CT C)) (ME : HasM P w K mg base (L2N.CX P w) 5 C "read_expression" PRExpr (spRd CS CT C rExpr)) (MG : HasM P w K mg base (L2N.CX P w) 7 C "read_args" PRArgs (spRd CS CT C rArgs)) : FnOk P w K mg base (L2N.CX P w) 8 f fd PRAct (spRd CS CT C rAction) := by
  refine Fun.okN F scRAct (fun vs H Q E h => ?_) (fun cdv A outer s H vs Q E hr h => ?_)
  · obtain ⟨S, L, d, ts, l, rfl, _⟩ := h
    rfl
  · obtain ⟨S, L, d, ts, l, rfl, rg, k1, k2⟩ := h
    have hr1 := hr.mono (j := 1) (by decide)
    have hr2 := hr.mono (j := 2) (by decide)
    have hr3 := hr.mono (j := 3) (by decide)
    have hr4 := hr.mono (j := 4) (by decide)
    have hr5 := hr.mono (j := 5) (by decide)
    obtain ⟨dx, i, eS⟩ := rg.ins
    have tk := L2N.takes_of (X := cxOf (L2N.CX P w) P w K mg base NRAct "Reader.read_action" (defScope sRAct) f cdv A outer s H E) (E := E) rfl rfl rfl rfl
    refine ⟨_, (pss_cons (ps_set (i := 1) scRAct.nd rfl (Or.inl rfl) (pe_methH0 (pv 0) TR.cl MN hr3 (fun pins σ H1 s1 e s' I c => L2N.passAt tk σ pins H1 s1 e s' I c)))
  (pss_cons (ps_if (pt_val (pe_methH (pv 0) TR.cl MI hr2 pass0 (pa_cons pe_str pa_nil)))
  (pss_one (ps_ret (pe_tup (pa_cons pe_str (pa_cons pe_non (pa_cons (pv 1) (pa_cons (pe_methH0 (pv 0) TR.cl MG hr (fun pins σ H1 s1 e s' I c => L2N.passAt tk σ pins H1 s1 e s' I c)) pa_nil)))))))
  pss_nil)
  (pss_cons (ps_expr (pe_methH (pv 0) TR.cl MX hr4 (fun pins σ H1 s1 e s' I c => L2N.passAt tk σ pins H1 s1 e s' I c) (pa_cons pe_str pa_nil)))
  (pss_cons (ps_if (pt_val (pe_methH (pv 0) TR.cl MA hr3 pass0 (pa_cons pe_str pa_nil)))
  (pss_one (ps_ret (pe_tup (pa_cons pe_str (pa_cons (pv 1) pa_nil)))))
  pss_nil)
  (pss_cons (ps_if (PW.pt (pw_and (pt_cmpR op_eq (pe_ix (r := rIxT K) ix_tup (pe_methH0 (pv 0) TR.cl MC hr1 pass0) pe_int (fun _ _ => rfl)) pe_str (nomark _)) (pw_and1 (pt_cmpR op_eq (pe_ix (r := rIxT K) ix_tup (pe_ix (r := rIxL K) ix_list (pe_fld (pv 0) rfl) (pe_op op_add (pe_fld (pv 0) rfl) pe_int) (fun _ _ => rfl)) pe_int (fun _ _ => rfl)) pe_str (nomark _)))))
  (pss_cons (ps_set (i := 2) scRAct.nd rfl (Or.inl rfl) (pe_methH0 (pv 0) TR.cl MN hr3 (fun pins σ H1 s1 e s' I c => L2N.passAt tk σ pins H1 s1 e s' I c)))
  (pss_one (ps_ret (pe_tup (pa_cons pe_str (pa_cons (pv 1) (pa_cons (pv 2) (pa_cons (pe_methH0 (pv 0) TR.cl MG hr (fun pins σ H1 s1 e s' I c => L2N.passAt tk σ pins H1 s1 e s' I c)) pa_nil))))))))
  pss_nil)
  (pss_one (ps_ret (pe_tup (pa_cons pe_str (pa_cons (pv 1) (pa_cons (pe_methH0 (pv 0) TR.cl ME hr5 (fun pins σ H1 s1 e s' I c => L2N.passAt tk σ pins H1 s1 e s' I c)) pa_nil))))))))))), ?_⟩
    have eq0 : rAction l = andR (rName l) fun l1 => if isW "(" l1 = true then rArgs l1 else andR (rExp "=" l1) rSet := rfl
    refine ⟨_, rfl, S, dx, _, rfl, eS, rfl, S, L, d, ts, l, rfl, rg, fun l1 h1 H1 b1 rg1 => ?_, fun e h1 => k2 e (by rw [eq0, h1]; rfl)⟩
    rw [h1] at eq0
    have eq0 : rAction l = if isW "(" l1 = true then rArgs l1 else andR (rExp "=" l1) rSet := eq0
    obtain ⟨dx1, i1, eS1⟩ := rg1.ins
    refine ⟨_, rfl, S, dx1, _, rfl, eS1, rfl, S, L, d, ts, l1, "(", rfl, rg1, ?_⟩
    cases hz : isW "(" l1 with
    | true =>
      rw [if_pos hz] at eq0
      refine ⟨true, rfl, iteS rfl ?_⟩
      refine ⟨_, rfl, _, rfl, S, dx1, _, rfl, eS1, rfl, S, L, d, ts, l1, rfl, rg1, fun l2 h2 v H2 b2 rg2 => ⟨(by show 4 ≤ sizeLine; decide), fun p hp => ?_⟩, fun e h2 => (k2 e (eq0.trans h2)).bt b1⟩
      have s3 := same_new (o := .tup [.str "call", .non, .str (textH l), v]) hp
      exact k1 _ (eq0.trans h2) _ _ ((b1.trans b2).trans (.of s3)) (rg2.same s3)
    | false =>
      rw [if_neg (by rw [hz]; decide)] at eq0
      refine ⟨false, rfl, iteE rfl ?_⟩
      refine ⟨_, rfl, S, dx1, _, rfl, eS1, rfl, S, L, d, ts, l1, "=", rfl, rg1, fun l2 h2 H2 b2 rg2 => ?_, fun e h2 => (k2 e (by rw [eq0, h2]; rfl)).bt b1⟩
      rw [h2] at eq0
      have eq0 : rAction l = rSet l2 := eq0
      have b12 := b1.trans b2
      obtain ⟨dx2, i2, eS2⟩ := rg2.ins
      unfold rSet at eq0
      refine ⟨_, rfl, S, dx2, _, rfl, eS2, rfl, S, L, d, ts, l2, "?", rfl, rg2, fun hq => ⟨false, rfl, iteE rfl ?_⟩, fun hq H3 b3 rg3 => ⟨true, rfl, iteS rfl ?_⟩⟩
      case refine_2 =>
        rw [if_pos hq] at eq0
        refine ⟨_, rfl, (by show 2 ≤ sizeLine; decide), fun p hp => ?_⟩
        have s4 := same_new (o := .tup [.str "input", .str (textH l)]) hp
        exact k1 _ eq0 _ _ ((b12.trans b3).trans (.of s4)) (rg3.same s4)
      rw [if_neg (by rw [hq]; decide)] at eq0
      refine ⟨_, rfl, S, dx2, _, rfl, eS2, rfl, S, L, d, ts, l2, rfl, rg2, fun p hp => ⟨p, _, _, _, rfl, rfl, SqT.of hp, rfl, rfl, decide (kindH l2 = "name"), by rw [dec_str], ?_⟩⟩
      by_cases hn : kindH l2 = "name"
      case neg =>
        rw [if_neg (by unfold isN; rw [decide_eq_false hn, Bool.false_and]; decide)] at eq0
        refine iteE (decide_eq_false hn) ?_
        refine ⟨_, rfl, _, rfl, S, dx2, _, rfl, eS2, rfl, S, L, d, ts, l2, rfl, rg2, fun l3 h3 v H3 b3 rg3 => ⟨(by show 3 ≤ sizeLine; decide), fun p hp => ?_⟩, fun e h3 => (k2 e (eq0.trans h3)).bt b12⟩
        have s4 := same_new (o := .tup [.str "set", .str (textH l), v]) hp
        exact k1 _ (eq0.trans h3) _ _ ((b12.trans b3).trans (.of s4)) (rg3.same s4)
      refine iteS (decide_eq_true hn) ?_
      have hN : isN l2 = true := decide_eq_true hn
      have hE : EndT l2 ∧ TsOk ts := let ⟨_, _, _, e⟩ := rg2; e
      obtain ⟨y, r, ey⟩ := (hE.1.n hN).ne
      obtain ⟨j, x, r2, el, ra, ht, hd⟩ := rg2.tok
      have er : ts.drop (j + 1) = y :: r := by rw [hd, ← ey, el]; rfl
      have hu2 : ts[j + 1]? = some y := by
        have := congrArg List.head? er
        rw [List.head?_drop] at this
        exact this
      obtain ⟨dx3, xs3, e3, e4, e5⟩ := id ra
      have hl : j + 1 < xs3.length := by rw [Paired.length e5]; exact (List.getElem?_eq_some_iff.mp hu2).1
      obtain ⟨tk', h1', q, h2', h3'⟩ := Paired.at e5 (List.getElem?_eq_getElem hl)
      rw [hu2] at h1'
      cases h1'
      refine ⟨_, rfl, S, C, dx3, _, _, rfl, e3, TR.cl, TR.nT, rfl, _, rfl, S, C, dx3, _, _, rfl, e3, TR.cl, TR.nI, rfl, _, _, rfl, rfl, L, _, _, _, rfl, rfl, SqL.of e4, ?_, q, _, _, _, rfl, rfl, SqT.of h3', rfl, rfl, decide (y.2.1 = "("), by rw [dec_str], ?_⟩
      · exact (atI_nat (j := j + 1) (by rw [List.getElem?_eq_getElem hl, h2']))
      have ety : textH l2.tail = y.2.1 := by rw [ey]; rfl
      by_cases hp : y.2.1 = "("
      case neg =>
        rw [if_neg (by rw [ety, decide_eq_false hp, Bool.and_false]; decide)] at eq0
        refine iteE (decide_eq_false hp) ?_
        refine ⟨_, rfl, _, rfl, S, dx2, _, rfl, eS2, rfl, S, L, d, ts, l2, rfl, rg2, fun l3 h3 v H3 b3 rg3 => ⟨(by show 3 ≤ sizeLine; decide), fun p hp => ?_⟩, fun e h3 => (k2 e (eq0.trans h3)).bt b12⟩
        have s4 := same_new (o := .tup [.str "set", .str (textH l), v]) hp
        exact k1 _ (eq0.trans h3) _ _ ((b12.trans b3).trans (.of s4)) (rg3.same s4)
      rw [if_pos (by rw [ety, decide_eq_true hp, hN]; rfl)] at eq0
      refine iteS (decide_eq_true hp) ?_
      refine ⟨_, rfl, S, dx2, _, rfl, eS2, rfl, S, L, d, ts, l2, rfl, rg2, fun l3 h3 H3 b3 rg3 => ?_, fun e h3 => (k2 e (by rw [eq0, h3]; rfl)).bt b12⟩
      rw [h3] at eq0
      have eq0 : rAction l = rArgs l3 := eq0
      obtain ⟨dx4, i4, e6⟩ := rg3.ins
      refine ⟨_, rfl, _, rfl, _, rfl, S, dx4, _, rfl, e6, rfl, S, L, d, ts, l3, rfl, rg3, fun l4 h4 v H4 b4 rg4 => ⟨(by show 4 ≤ sizeLine; decide), fun p hp => ?_⟩, fun e h4 => (k2 e (eq0.trans h4)).bt (b12.trans b3)⟩
      have s4 := same_new (o := .tup [.str "call", .str (textH l), .str (textH l2), v]) hp
      exact k1 _ (eq0.trans h4) _ _ (((b12.trans b3).trans b4).trans (.of s4)) (rg4.same s4)
end

/-! ### k05: read_try -/
abbrev sRBlk : Stmt := inClass (topS 16) 12
abbrev NRBlk : List Str := ["self", "statements"]
abbrev PRBlk : List Str := ["self"]
theorem scRBlk : FnScope NRBlk PRBlk (defScope sRBlk) := ⟨rfl, rfl, rfl, by decide +kernel, rfl, by decide +kernel, by decide +kernel⟩
abbrev sRStm : Stmt := inClass (topS 16) 13
abbrev NRStm : List Str := ["self", "first", "names"]
abbrev PRStm : List Str := ["self"]
theorem scRStm : FnScope NRStm PRStm (defScope sRStm) := ⟨rfl, rfl, rfl, by decide +kernel, rfl, by decide +kernel, by decide +kernel⟩
abbrev sRTry : Stmt := inClass (topS 16) 15
abbrev NRTry : List Str := ["self", "block", "handlers", "kinds"]
abbrev PRTry : List Str := ["self"]
theorem scRTry : FnScope NRTry PRTry (defScope sRTry) := ⟨rfl, rfl, rfl, by decide +kernel, rfl, by decide +kernel, by decide +kernel⟩
abbrev sRWth : Stmt := inClass (topS 16) 16
abbrev NRWth : List Str := ["self", "name", "first", "last", "kinds"]
abbrev PRWth : List Str := ["self"]
theorem scRWth : FnScope NRWth PRWth (defScope sRWth) := ⟨rfl, rfl, rfl, by decide +kernel, rfl, by decide +kernel, by decide +kernel⟩
/-- a part of the Reader, with m more blocks allowed -/
def spRdD (CS CT C : Addr) (m : Nat) (r : Tl → RdR) : Sp := fun vs H Q E => ∃ (S L : Addr) (d : Nat) (ts l : Tl), vs = [.ref S] ∧ RdG C H S L d ts l ∧ d + m = 30 ∧ (∀ l', r l = .ok l' → ∀ (v : V) (H' : Hp), Bt S H H' → RdG C H' S L d ts l' → Q v H') ∧ ∀ e, r l = .error e → ErK CS CT S H E e
def fin2 (blk : Tl → RdR) (l3 : Tl) : RdR := if isW "finally" l3 = true then blk l3.tail else .ok l3
/-- what follows the block of a try -/
def tryT (blk : Tl → RdR) (e : Bool) (l2 : Tl) : RdR := if isW "except" l2 = true then andR (rHand blk l2.tail) fun l3 => andR (rLoop (isW "except") (rHand blk) l3.length l3) (fin2 blk) else if e = true then andR (rExp "finally" l2) blk else fin2 blk l2
theorem andR_assoc {r : RdR} {f g : Tl → RdR} : andR (andR r f) g = andR r fun l => andR (f l) g := by
  cases r <;> rfl
theorem try_eq (blk : Tl → RdR) (l : Tl) : rTry blk l = andR (blk l) (tryT blk true) := by
  show andR (blk l) _ = _
  cases blk l with
  | error e => rfl
  | ok l1 =>
    show (if isW "except" l1 = true then _ else _) = tryT blk true l1
    unfold tryT fin2
    rw [if_pos rfl]
theorem tryT_loop {blk : Tl → RdR} (sb : Suf blk) (l : Tl) : andR (rLoop (isW "except") (rHand blk) l.length l) (fin2 blk) = tryT blk false l := by
  have cn : isW "except" [] = false := by decide +kernel
  rw [loop_eq (show Suf (rHand blk) from suf_names.and sb) cn]
  unfold tryT
  by_cases z : isW "except" l = true
  · rw [if_pos z, if_pos z, andR_assoc]
  · rw [if_neg z, if_neg z, if_neg (by decide)]
    rfl
section
variable {P : Program} {w : World} {K : PySem.W.Frag} {mg : Str → Option Value} {base : Heap} {C CS CT : Addr}
theorem ok_RTryG {n : Nat} {blk : Tl → RdR} (sb : Suf blk) {f : Addr} {fd : FuncData} (F : Fun K "read_try" "Reader.read_try" sRTry f fd) (T : TxRd mg) (TR : TxR K C) (MI : HasM P w K mg base CX0 2 C "is_next" PRNext (spNxtG C)) (MA : HasM P w K mg base CX0 3 C "accept" PRAcc (spAccG C)) (MX : HasM P w K mg base (L2N.CX P w) 4 C "expect" PRExp (spExpG CS CT C)) (MN : HasM P w K mg base (L2N.CX P w) 4 C "read_names" PRNms (spRd CS CT C rNames)) (MB : HasM P w K mg base (L2N.CX P w) (9 + 3 * n) C "read_block" PRBlk (spRdD CS CT C n blk)) : FnOk P w K mg base (L2N.CX P w) (9 + 3 * n + 1) f fd PRTry (spRdD CS CT C n (rTry blk)) := by
  refine Fun.okN F scRTry (fun vs H Q E h => ?_) (fun cdv A outer s H vs Q E hr h => ?_)
  · obtain ⟨S, L, d, ts, l, rfl, _⟩ := h
    rfl
  · obtain ⟨S, L, d, ts, l, rfl, rg, hd, k1, k2⟩ := h
    have hr2 := hr.mono (j := 2) (by omega)
    have hr3 := hr.mono (j := 3) (by omega)
    have hr4 := hr.mono (j := 4) (by omega)
    obtain ⟨dx, i, eS⟩ := rg.ins
    have tk := L2N.takes_of (X := cxOf (L2N.CX P w) P w K mg base NRTry "Reader.read_try" (defScope sRTry) f cdv A outer s H E) (E := E) rfl rfl rfl rfl
    refine ⟨_, (pss_cons (ps_set (i := 1) scRTry.nd rfl (Or.inl rfl) (pe_methH0 (pv 0) TR.cl MB hr (fun pins σ H1 s1 e s' I c => L2N.passAt tk σ pins H1 s1 e s' I c)))
  (pss_cons (ps_set (i := 2) scRTry.nd rfl (Or.inl rfl) (pe_lst pa_nil))
  (pss_cons (ps_while (passes_of rfl) (pt_val (pe_methH (pv 0) TR.cl MA hr3 pass0 (pa_cons pe_str pa_nil)))
  (pss_cons (ps_set (i := 3) scRTry.nd rfl (Or.inl rfl) (pe_methH0 (pv 0) TR.cl MN hr4 (fun pins σ H1 s1 e s' I c => L2N.passAt tk σ pins H1 s1 e s' I c)))
  (pss_one (ps_expr (pe_bm PySem.F.plainAttrs_list PySem.F.slot_list_append PySem.F.type_list_append mt_append (pv 2) (pa_cons (pe_tup (pa_cons (pv 3) (pa_cons (pe_methH0 (pv 0) TR.cl MB hr (fun pins σ H1 s1 e s' I c => L2N.passAt tk σ pins H1 s1 e s' I c)) pa_nil))) pa_nil))))))
  (pss_cons (ps_if (PW.pt (pw_and (pt_truth (pv 2) (by intro _; rfl)) (pw_and1 (pt_not (pt_val (pe_methH (pv 0) TR.cl MI hr2 pass0 (pa_cons pe_str pa_nil)))))))
  (pss_one (ps_ret (pe_tup (pa_cons pe_str (pa_cons (pv 1) (pa_cons (pe_callTy call_tuple_of (by rfl) T.n_tuple bb_tuple (pa_cons (pv 2) pa_nil)) (pa_cons (pe_tup pa_nil) pa_nil)))))))
  pss_nil)
  (pss_cons (ps_expr (pe_methH (pv 0) TR.cl MX hr4 (fun pins σ H1 s1 e s' I c => L2N.passAt tk σ pins H1 s1 e s' I c) (pa_cons pe_str pa_nil)))
  (pss_one (ps_ret (pe_tup (pa_cons pe_str (pa_cons (pv 1) (pa_cons (pe_callTy call_tuple_of (by rfl) T.n_tuple bb_tuple (pa_cons (pv 2) pa_nil)) (pa_cons (pe_methH0 (pv 0) TR.cl MB hr (fun pins σ H1 s1 e s' I c => L2N.passAt tk σ pins H1 s1 e s' I c)) pa_nil)))))))))))), ?_⟩
    have eq0 := try_eq blk l
    refine ⟨_, rfl, S, dx, _, rfl, eS, rfl, S, L, d, ts, l, rfl, rg, hd, fun l1 h1 bv H1 b1 rg1 => ⟨(by show 0 ≤ sizeLine; decide), fun X hX => ?_⟩, fun e h1 => k2 e (by rw [eq0, h1]; rfl)⟩
    rw [h1] at eq0
    have eq0 : rTry blk l = tryT blk true l1 := eq0
    have lg : LsG C S L X d ts H (upd H1 X (.lst [])) l1.length l1 := .new b1 rg1 hX (by have := rg1.len; show 0 + _ ≤ _; omega)
    have eX : upd H1 X (.lst []) X = some (.lst []) := upd_same
    generalize upd H1 X (.lst []) = H2 at *
    refine ⟨fun m σ H' => ∃ (l2 : Tl) (xs : List V) (kv : Option V), m = l2.length ∧ σ = [some (.ref S), some bv, some (.ref X), kv] ∧ LsG C S L X d ts H H' l2.length l2 ∧ H' X = some (.lst xs) ∧ rTry blk l = tryT blk xs.isEmpty l2, ⟨_, l1, [], _, rfl, rfl, lg, eX, eq0⟩, ?_⟩
    rintro m σ H5 ⟨l5, xs, kv, rfl, rfl, lg5, eX5, eq5⟩
    obtain ⟨dx5, i5, e5⟩ := lg5.rg.ins
    unfold tryT at eq5
    refine ⟨_, rfl, S, dx5, _, rfl, e5, rfl, S, L, d, ts, l5, "except", rfl, lg5.rg, fun hz5 => ⟨false, rfl, iteF ?_⟩, fun hz5 H6 b6 rg6 => ⟨true, rfl, iteT ?_⟩⟩
    case refine_2 =>
      rw [if_pos hz5] at eq5
      have lt5 := isW_lt hz5
      have lg6 := lg5.read b6 rg6
      obtain ⟨dx6, i6, e6⟩ := lg6.rg.ins
      have eX6 := b6 _ _ eX5 lg5.2.1.2.1
      refine ⟨fun σ' H' => ∃ (l7 : Tl) (xs : List V) (kv : Option V), l7.length < l5.length ∧ σ' = [some (.ref S), some bv, some (.ref X), kv] ∧ LsG C S L X d ts H H' l7.length l7 ∧ H' X = some (.lst xs) ∧ rTry blk l = tryT blk xs.isEmpty l7, fun σ' H' ⟨l7, xs, kv, u0, u1, u2, u3, u4⟩ => ⟨l7.length, u0, l7, xs, kv, rfl, u1, u2, u3, u4⟩, ?_⟩
      unfold rHand at eq5
      rw [andR_assoc] at eq5
      refine ⟨_, rfl, S, dx6, _, rfl, e6, rfl, S, L, d, ts, l5.tail, rfl, lg6.rg, fun l7 h7 v7 H7 b7 rg7 => ?_, fun e h7 => (k2 e (by rw [eq5, h7]; rfl)).bt lg6.bt⟩
      have n7 := (suf_names _ _ h7).length_le
      rw [h7] at eq5
      have lg7 := lg6.read b7 rg7
      have eX7 := b7 _ _ eX6 lg5.2.1.2.1
      obtain ⟨dx7, i7, e7⟩ := lg7.rg.ins
      refine ⟨_, rfl, .inl ⟨rfl, _, SqL.of eX7⟩, _, rfl, _, rfl, S, dx7, _, rfl, e7, rfl, S, L, d, ts, l7, rfl, rg7, hd, fun l8 h8 v8 H8 b8 rg8 => ⟨(by show 2 ≤ sizeLine; decide), fun t ht => ?_⟩, fun e h8 => (k2 e (by rw [eq5]; show andR (blk l7) _ = _; rw [h8]; rfl)).bt lg7.bt⟩
      have n8 := (sb _ _ h8).length_le
      have eq8 : rTry blk l = tryT blk false l8 := by
        rw [eq5, ← tryT_loop sb]
        show andR (blk l7) _ = _
        rw [h8]
        rfl
      have s9 := same_new (o := .tup [v7, v8]) ht
      have lg8 := ((lg7.read b8 rg8).read (.of s9) (rg8.same s9)).le (m := l8.length + 1) (by omega)
      have eX8 := s9 _ _ (b8 _ _ eX7 lg5.2.1.2.1)
      obtain ⟨zs, eZ, lz⟩ := lg8.lst
      rw [eX8] at eZ
      cases eZ
      refine ⟨X, _, _, rfl, rfl, eX8, Nat.lt_of_le_of_lt (show xs.length ≤ 1000002 by omega) (by decide), l8, _, _, by omega, rfl, lg8.put eX8 (.ref t), upd_same, ?_⟩
      rw [eq8]
      cases xs <;> rfl
    rw [if_neg (by rw [hz5]; decide)] at eq5
    refine ⟨_, rfl, !xs.isEmpty, .inl ⟨xs, SqL.of eX5, rfl⟩, ?_⟩
    -- expect('finally') and the last block
    by_cases hf : isW "finally" l5 = true
    case neg =>
      have hf0 : isW "finally" l5 = false := Bool.eq_false_iff.mpr hf
      cases hE : xs.isEmpty with
      | true =>
        rw [hE, if_pos rfl] at eq5
        refine iteE rfl ?_
        refine ⟨_, rfl, S, dx5, _, rfl, e5, rfl, S, L, d, ts, l5, "finally", rfl, lg5.rg, fun l6 h6 => absurd h6 (by unfold rExp; rw [if_neg hf]; exact fun z => by cases z), fun e h6 => (k2 e (by rw [eq5, h6]; rfl)).bt lg5.bt⟩
      | false =>
        rw [hE, if_neg (by decide)] at eq5
        unfold fin2 at eq5
        rw [if_neg hf] at eq5
        refine iteS rfl ?_
        refine ⟨_, rfl, S, dx5, _, rfl, e5, rfl, S, L, d, ts, l5, "finally", rfl, lg5.rg, _, rfl, iteS (by rw [hf0]; rfl) ?_⟩
        refine ⟨_, rfl, _, rfl, X, _, rfl, .inl ⟨SqL.of eX5, fun p hp => ⟨(by show 0 ≤ sizeLine; decide), fun q hq => ⟨(by show 4 ≤ sizeLine; decide), fun t ht => ?_⟩⟩⟩⟩
        have s7 := same_new (o := .tup xs) hp
        have s8 := same_new (o := .tup []) hq
        have s9 := same_new (o := .tup [.str "try", bv, .ref p, .ref q]) ht
        have s79 := (s7.trans s8).trans s9
        exact k1 _ eq5 _ _ (lg5.bt.trans (.of s79)) (lg5.rg.same s79)
    have key : rTry blk l = blk l5.tail := by
      rw [eq5]
      unfold fin2 rExp
      rw [if_pos hf, if_pos hf]
      cases xs.isEmpty <;> rfl
    cases hE : xs.isEmpty with
    | true =>
      refine iteE rfl ?_
      refine ⟨_, rfl, S, dx5, _, rfl, e5, rfl, S, L, d, ts, l5, "finally", rfl, lg5.rg, fun l6 h6 H6 b6 rg6 => ?_, fun e h6 => absurd h6 (by unfold rExp; rw [if_pos hf]; exact fun z => by cases z)⟩
      have e6 : l6 = l5.tail := by unfold rExp at h6; rw [if_pos hf] at h6; cases h6; rfl
      subst e6
      have lg6 := lg5.read b6 rg6
      have eX6 := b6 _ _ eX5 lg5.2.1.2.1
      refine ⟨_, rfl, _, rfl, X, _, rfl, .inl ⟨SqL.of eX6, fun p hp => ?_⟩⟩
      have s7 := same_new (o := .tup xs) hp
      have lg7 := lg6.read (.of s7) (rg6.same s7)
      generalize upd H6 p (.tup xs) = H7 at *
      obtain ⟨dx7, i7, e7⟩ := lg7.rg.ins
      refine ⟨_, rfl, S, dx7, _, rfl, e7, rfl, S, L, d, ts, l5.tail, rfl, lg7.rg, hd, fun l8 h8 v H8 b8 rg8 => ⟨(by show 4 ≤ sizeLine; decide), fun t ht => ?_⟩, fun e h8 => (k2 e (key.trans h8)).bt lg7.bt⟩
      have s9 := same_new (o := .tup [.str "try", bv, .ref p, v]) ht
      exact k1 _ (key.trans h8) _ _ ((lg7.bt.trans b8).trans (.of s9)) (rg8.same s9)
    | false =>
      refine iteS rfl ?_
      refine ⟨_, rfl, S, dx5, _, rfl, e5, rfl, S, L, d, ts, l5, "finally", rfl, lg5.rg, _, rfl, iteE (by rw [hf]; rfl) ?_⟩
      refine ⟨_, rfl, S, dx5, _, rfl, e5, rfl, S, L, d, ts, l5, "finally", rfl, lg5.rg, fun l6 h6 H6 b6 rg6 => ?_, fun e h6 => absurd h6 (by unfold rExp; rw [if_pos hf]; exact fun z => by cases z)⟩
      have e6 : l6 = l5.tail := by unfold rExp at h6; rw [if_pos hf] at h6; cases h6; rfl
      subst e6
      have lg6 := lg5.read b6 rg6
      have eX6 := b6 _ _ eX5 lg5.2.1.2.1
      refine ⟨_, rfl, _, rfl, X, _, rfl, .inl ⟨SqL.of eX6, fun p hp => ?_⟩⟩
      have s7 := same_new (o := .tup xs) hp
      have lg7 := lg6.read (.of s7) (rg6.same s7)
      generalize upd H6 p (.tup xs) = H7 at *
      obtain ⟨dx7, i7, e7⟩ := lg7.rg.ins
      refine ⟨_, rfl, S, dx7, _, rfl, e7, rfl, S, L, d, ts, l5.tail, rfl, lg7.rg, hd, fun l8 h8 v H8 b8 rg8 => ⟨(by show 4 ≤ sizeLine; decide), fun t ht => ?_⟩, fun e h8 => (k2 e (key.trans h8)).bt lg7.bt⟩
      have s9 := same_new (o := .tup [.str "try", bv, .ref p, v]) ht
      exact k1 _ (key.trans h8) _ _ ((lg7.bt.trans b8).trans (.of s9)) (rg8.same s9)
end

/-! ### k05: read_with, read_statement -/
section
variable {P : Program} {w : World} {K : PySem.W.Frag} {mg : Str → Option Value} {base : Heap} {C CS CT : Addr}
theorem ok_RWthG {n : Nat} {blk : Tl → RdR} {f : Addr} {fd : FuncData} (F : Fun K "read_with" "Reader.read_with" sRWth f fd) (TR : TxR K C) (MM : HasM P w K mg base (L2N.CX P w) 3 C "read_name" PRName (spRdN CS CT C rName)) (MA : HasM P w K mg base CX0 3 C "accept" PRAcc (spAccG C)) (MX : HasM P w K mg base (L2N.CX P w) 4 C "expect" PRExp (spExpG CS CT C)) (MN : HasM P w K mg base (L2N.CX P w) 4 C "read_names" PRNms (spRd CS CT C rNames)) (MG : HasM P w K mg base (L2N.CX P w) 7 C "read_args" PRArgs (spRd CS CT C rArgs)) (MB : HasM P w K mg base (L2N.CX P w) (9 + 3 * n) C "read_block" PRBlk (spRdD CS CT C n blk)) : FnOk P w K mg base (L2N.CX P w) (9 + 3 * n + 1) f fd PRWth (spRdD CS CT C n (rWith blk)) := by
  refine Fun.okN F scRWth (fun vs H Q E h => ?_) (fun cdv A outer s H vs Q E hr h => ?_)
  · obtain ⟨S, L, d, ts, l, rfl, _⟩ := h
    rfl
  · obtain ⟨S, L, d, ts, l, rfl, rg, hd, k1, k2⟩ := h
    have hr3 := hr.mono (j := 3) (by omega)
    have hr4 := hr.mono (j := 4) (by omega)
    have hr7 := hr.mono (j := 7) (by omega)
    obtain ⟨dx, i, eS⟩ := rg.ins
    have tk := L2N.takes_of (X := cxOf (L2N.CX P w) P w K mg base NRWth "Reader.read_with" (defScope sRWth) f cdv A outer s H E) (E := E) rfl rfl rfl rfl
    refine ⟨_, (pss_cons (ps_set (i := 1) scRWth.nd rfl (Or.inl rfl) (pe_methH0 (pv 0) TR.cl MM hr3 (fun pins σ H1 s1 e s' I c => L2N.passAt tk σ pins H1 s1 e s' I c)))
  (pss_cons (ps_set (i := 2) scRWth.nd rfl (Or.inl rfl) (pe_tup (pa_cons (pv 1) (pa_cons (pe_methH0 (pv 0) TR.cl MG hr7 (fun pins σ H1 s1 e s' I c => L2N.passAt tk σ pins H1 s1 e s' I c)) pa_nil))))
  (pss_cons (ps_expr (pe_methH (pv 0) TR.cl MX hr4 (fun pins σ H1 s1 e s' I c => L2N.passAt tk σ pins H1 s1 e s' I c) (pa_cons pe_str pa_nil)))
  (pss_cons (ps_set (i := 1) scRWth.nd rfl (Or.inl rfl) (pe_methH0 (pv 0) TR.cl MM hr3 (fun pins σ H1 s1 e s' I c => L2N.passAt tk σ pins H1 s1 e s' I c)))
  (pss_cons (ps_set (i := 3) scRWth.nd rfl (Or.inl rfl) (pe_tup (pa_cons (pv 1) (pa_cons (pe_methH0 (pv 0) TR.cl MG hr7 (fun pins σ H1 s1 e s' I c => L2N.passAt tk σ pins H1 s1 e s' I c)) pa_nil))))
  (pss_cons (ps_set (i := 4) scRWth.nd rfl (Or.inl rfl) (pe_ifExp (pt_val (pe_methH (pv 0) TR.cl MA hr3 pass0 (pa_cons pe_str pa_nil))) (pe_methH0 (pv 0) TR.cl MN hr4 (fun pins σ H1 s1 e s' I c => L2N.passAt tk σ pins H1 s1 e s' I c)) (pe_tup pa_nil)))
  (pss_one (ps_ret (pe_tup (pa_cons pe_str (pa_cons (pv 2) (pa_cons (pv 3) (pa_cons (pv 4) (pa_cons (pe_methH0 (pv 0) TR.cl MB hr (fun pins σ H1 s1 e s' I c => L2N.passAt tk σ pins H1 s1 e s' I c)) pa_nil)))))))))))))), ?_⟩
    have eq0 : rWith blk l = andR (rName l) fun l1 => andR (rArgs l1) fun l2 => andR (rExp "," l2) fun l3 => andR (rName l3) fun l4 => andR (rArgs l4) fun l5 => andR (if isW "swallow" l5 = true then rNames l5.tail else .ok l5) blk := rfl
    refine ⟨_, rfl, S, dx, _, rfl, eS, rfl, S, L, d, ts, l, rfl, rg, fun l1 h1 H1 b1 rg1 => ?_, fun e h1 => k2 e (by rw [eq0, h1]; rfl)⟩
    rw [h1] at eq0
    replace eq0 : rWith blk l = andR (rArgs l1) _ := eq0
    obtain ⟨dx1, i1, e1⟩ := rg1.ins
    refine ⟨_, rfl, _, rfl, S, dx1, _, rfl, e1, rfl, S, L, d, ts, l1, rfl, rg1, fun l2 h2 v1 H2 b2 rg2 => ⟨(by show 2 ≤ sizeLine; decide), fun p hp => ?_⟩, fun e h2 => (k2 e (by rw [eq0, h2]; rfl)).bt b1⟩
    rw [h2] at eq0
    replace eq0 : rWith blk l = andR (rExp "," l2) _ := eq0
    have s3 := same_new (o := .tup [.str (textH l), v1]) hp
    have b3 := (b1.trans b2).trans (.of s3)
    have rg3 := rg2.same s3
    generalize upd H2 p _ = H3 at *
    obtain ⟨dx3, i3, e3⟩ := rg3.ins
    refine ⟨_, rfl, S, dx3, _, rfl, e3, rfl, S, L, d, ts, l2, ",", rfl, rg3, fun l3 h3 H4 b4 rg4 => ?_, fun e h3 => (k2 e (by rw [eq0, h3]; rfl)).bt b3⟩
    rw [h3] at eq0
    replace eq0 : rWith blk l = andR (rName l3) _ := eq0
    replace b4 := b3.trans b4
    obtain ⟨dx4, i4, e4⟩ := rg4.ins
    refine ⟨_, rfl, S, dx4, _, rfl, e4, rfl, S, L, d, ts, l3, rfl, rg4, fun l4 h4 H5 b5 rg5 => ?_, fun e h4 => (k2 e (by rw [eq0, h4]; rfl)).bt b4⟩
    rw [h4] at eq0
    replace eq0 : rWith blk l = andR (rArgs l4) _ := eq0
    replace b5 := b4.trans b5
    obtain ⟨dx5, i5, e5⟩ := rg5.ins
    refine ⟨_, rfl, _, rfl, S, dx5, _, rfl, e5, rfl, S, L, d, ts, l4, rfl, rg5, fun l5 h5 v2 H6 b6 rg6 => ⟨(by show 2 ≤ sizeLine; decide), fun q hq => ?_⟩, fun e h5 => (k2 e (by rw [eq0, h5]; rfl)).bt b5⟩
    rw [h5] at eq0
    replace eq0 : rWith blk l = andR (if isW "swallow" l5 = true then rNames l5.tail else .ok l5) blk := eq0
    have s7 := same_new (o := .tup [.str (textH l3), v2]) hq
    have b7 := (b5.trans b6).trans (.of s7)
    have rg7 := rg6.same s7
    generalize upd H6 q _ = H7 at *
    obtain ⟨dx7, i7, e7⟩ := rg7.ins
    refine ⟨_, rfl, S, dx7, _, rfl, e7, rfl, S, L, d, ts, l5, "swallow", rfl, rg7, fun hz => ⟨false, rfl, iteE rfl ⟨(by show 0 ≤ sizeLine; decide), fun z hzz => ?_⟩⟩, fun hz H8 b8 rg8 => ⟨true, rfl, iteS rfl ?_⟩⟩
    · rw [if_neg (by rw [hz]; decide)] at eq0
      replace eq0 : rWith blk l = blk l5 := eq0
      have s8 := same_new (o := .tup []) hzz
      have b8 := b7.trans (.of s8)
      have rg8 := rg7.same s8
      generalize upd H7 z _ = H8 at *
      obtain ⟨dx8, i8, e8⟩ := rg8.ins
      obtain ⟨kv, ekv⟩ : ∃ kv, kv = V.ref z := ⟨_, rfl⟩
      rw [← ekv]
      obtain ⟨l6, el6⟩ : ∃ l6, l6 = l5 := ⟨_, rfl⟩
      rw [← el6] at eq0 rg8
      refine ⟨_, rfl, _, rfl, _, rfl, _, rfl, S, dx8, _, rfl, e8, rfl, S, L, d, ts, l6, rfl, rg8, hd, fun l9 h9 v H9 b9 rg9 => ⟨(by show 5 ≤ sizeLine; decide), fun t ht => ?_⟩, fun e h9 => (k2 e (eq0.trans h9)).bt b8⟩
      have s9 := same_new (o := .tup [.str "with", .ref p, .ref q, kv, v]) ht
      exact k1 _ (eq0.trans h9) _ _ ((b8.trans b9).trans (.of s9)) (rg9.same s9)
    · rw [if_pos hz] at eq0
      obtain ⟨dx8, i8, e8⟩ := rg8.ins
      refine ⟨_, rfl, S, dx8, _, rfl, e8, rfl, S, L, d, ts, l5.tail, rfl, rg8, fun l6 h6 kv H9 b9 rg9 => ?_, fun e h6 => (k2 e (by rw [eq0, h6]; rfl)).bt (b7.trans b8)⟩
      rw [h6] at eq0
      replace eq0 : rWith blk l = blk l6 := eq0
      replace b8 := (b7.trans b8).trans b9
      replace rg8 := rg9
      obtain ⟨dx8, i8, e8⟩ := rg8.ins
      refine ⟨_, rfl, _, rfl, _, rfl, _, rfl, S, dx8, _, rfl, e8, rfl, S, L, d, ts, l6, rfl, rg8, hd, fun l9 h9 v H9 b9 rg9 => ⟨(by show 5 ≤ sizeLine; decide), fun t ht => ?_⟩, fun e h9 => (k2 e (eq0.trans h9)).bt b8⟩
      have s9 := same_new (o := .tup [.str "with", .ref p, .ref q, kv, v]) ht
      exact k1 _ (eq0.trans h9) _ _ ((b8.trans b9).trans (.of s9)) (rg9.same s9)
theorem ok_RStmG {n : Nat} {blk : Tl → RdR} {f : Addr} {fd : FuncData} (F : Fun K "read_statement" "Reader.read_statement" sRStm f fd) (TR : TxR K C) (MC : HasM P w K mg base CX0 1 C "current" PRCur (spCurG C)) (MM : HasM P w K mg base (L2N.CX P w) 3 C "read_name" PRName (spRdN CS CT C rName)) (MA : HasM P w K mg base CX0 3 C "accept" PRAcc (spAccG C)) (MX : HasM P w K mg base (L2N.CX P w) 4 C "expect" PRExp (spExpG CS CT C)) (MN : HasM P w K mg base (L2N.CX P w) 4 C "read_names" PRNms (spRd CS CT C rNames)) (ME : HasM P w K mg base (L2N.CX P w) 5 C "read_expression" PRExpr (spRd CS CT C rExpr)) (MT : HasM P w K mg base (L2N.CX P w) 8 C "read_action" PRAct (spRd CS CT C rAction)) (MB : HasM P w K mg base (L2N.CX P w) (9 + 3 * n) C "read_block" PRBlk (spRdD CS CT C n blk)) (MY : HasM P w K mg base (L2N.CX P w) (9 + 3 * n + 1) C "read_try" PRTry (spRdD CS CT C n (rTry blk))) (MW : HasM P w K mg base (L2N.CX P w) (9 + 3 * n + 1) C "read_with" PRWth (spRdD CS CT C n (rWith blk))) : FnOk P w K mg base (L2N.CX P w) (9 + 3 * n + 2) f fd PRStm (spRdD CS CT C n (rStmt blk)) := by
  refine Fun.okN F scRStm (fun vs H Q E h => ?_) (fun cdv A outer s H vs Q E hr h => ?_)
  · obtain ⟨S, L, d, ts, l, rfl, _⟩ := h
    rfl
  · obtain ⟨S, L, d, ts, l, rfl, rg, hd, k1, k2⟩ := h
    have hr1 := hr.mono (j := 1) (by omega)
    have hr3 := hr.mono (j := 3) (by omega)
    have hr4 := hr.mono (j := 4) (by omega)
    have hr5 := hr.mono (j := 5) (by omega)
    have hr8 := hr.mono (j := 8) (by omega)
    have hrB := hr.mono (j := 9 + 3 * n) (by omega)
    obtain ⟨dx, i, eS⟩ := rg.ins
    have tk := L2N.takes_of (X := cxOf (L2N.CX P w) P w K mg base NRStm "Reader.read_statement" (defScope sRStm) f cdv A outer s H E) (E := E) rfl rfl rfl rfl
    refine ⟨_, (pss_cons (ps_if (pt_cmpR op_eq (pe_ix (r := rIxT K) ix_tup (pe_methH0 (pv 0) TR.cl MC hr1 pass0) pe_int (fun _ _ => rfl)) pe_str (nomark _))
  (pss_one (ps_ret (pe_methH0 (pv 0) TR.cl MT hr8 (fun pins σ H1 s1 e s' I c => L2N.passAt tk σ pins H1 s1 e s' I c))))
  pss_nil)
  (pss_cons (ps_if (pt_val (pe_methH (pv 0) TR.cl MA hr3 pass0 (pa_cons pe_str pa_nil)))
  (pss_cons (ps_set (i := 1) scRStm.nd rfl (Or.inl rfl) (pe_methH0 (pv 0) TR.cl MB hrB (fun pins σ H1 s1 e s' I c => L2N.passAt tk σ pins H1 s1 e s' I c)))
  (pss_one (ps_ret (pe_tup (pa_cons pe_str (pa_cons (pv 1) (pa_cons (pe_ifExp (pt_val (pe_methH (pv 0) TR.cl MA hr3 pass0 (pa_cons pe_str pa_nil))) (pe_methH0 (pv 0) TR.cl MB hrB (fun pins σ H1 s1 e s' I c => L2N.passAt tk σ pins H1 s1 e s' I c)) (pe_tup pa_nil)) pa_nil)))))))
  pss_nil)
  (pss_cons (ps_if (pt_val (pe_methH (pv 0) TR.cl MA hr3 pass0 (pa_cons pe_str pa_nil)))
  (pss_one (ps_ret (pe_tup (pa_cons pe_str (pa_cons (pe_methH0 (pv 0) TR.cl MB hrB (fun pins σ H1 s1 e s' I c => L2N.passAt tk σ pins H1 s1 e s' I c)) pa_nil)))))
  pss_nil)
  (pss_cons (ps_if (pt_val (pe_methH (pv 0) TR.cl MA hr3 pass0 (pa_cons pe_str pa_nil)))
  (pss_one (ps_ret (pe_tup (pa_cons pe_str (pa_cons (pe_methH0 (pv 0) TR.cl MN hr4 (fun pins σ H1 s1 e s' I c => L2N.passAt tk σ pins H1 s1 e s' I c)) pa_nil)))))
  pss_nil)
  (pss_cons (ps_if (pt_val (pe_methH (pv 0) TR.cl MA hr3 pass0 (pa_cons pe_str pa_nil)))
  (pss_one (ps_ret (pe_tup (pa_cons pe_str (pa_cons (pe_methH0 (pv 0) TR.cl MM hr3 (fun pins σ H1 s1 e s' I c => L2N.passAt tk σ pins H1 s1 e s' I c)) pa_nil)))))
  pss_nil)
  (pss_cons (ps_if (pt_val (pe_methH (pv 0) TR.cl MA hr3 pass0 (pa_cons pe_str pa_nil)))
  (pss_one (ps_ret (pe_methH0 (pv 0) TR.cl MY hr (fun pins σ H1 s1 e s' I c => L2N.passAt tk σ pins H1 s1 e s' I c))))
  pss_nil)
  (pss_cons (ps_if (pt_val (pe_methH (pv 0) TR.cl MA hr3 pass0 (pa_cons pe_str pa_nil)))
  (pss_cons (ps_set (i := 2) scRStm.nd rfl (Or.inl rfl) (pe_methH0 (pv 0) TR.cl MN hr4 (fun pins σ H1 s1 e s' I c => L2N.passAt tk σ pins H1 s1 e s' I c)))
  (pss_one (ps_ret (pe_tup (pa_cons pe_str (pa_cons (pv 2) (pa_cons (pe_methH0 (pv 0) TR.cl MB hrB (fun pins σ H1 s1 e s' I c => L2N.passAt tk σ pins H1 s1 e s' I c)) pa_nil)))))))
  pss_nil)
  (pss_cons (ps_if (pt_val (pe_methH (pv 0) TR.cl MA hr3 pass0 (pa_cons pe_str pa_nil)))
  (pss_one (ps_ret (pe_methH0 (pv 0) TR.cl MW hr (fun pins σ H1 s1 e s' I c => L2N.passAt tk σ pins H1 s1 e s' I c))))
  pss_nil)
  (pss_cons (ps_expr (pe_methH (pv 0) TR.cl MX hr4 (fun pins σ H1 s1 e s' I c => L2N.passAt tk σ pins H1 s1 e s' I c) (pa_cons pe_str pa_nil)))
  (pss_one (ps_ret (pe_tup (pa_cons pe_str (pa_cons (pe_methH0 (pv 0) TR.cl ME hr5 (fun pins σ H1 s1 e s' I c => L2N.passAt tk σ pins H1 s1 e s' I c)) pa_nil)))))))))))))), ?_⟩
    refine ⟨_, rfl, S, dx, _, rfl, eS, rfl, S, L, d, ts, l, rfl, rg, fun p hp => ⟨p, _, _, _, rfl, rfl, SqT.of hp, rfl, rfl, _, rfl, ?_⟩⟩
    by_cases hn : kindH l = "name"
    case pos =>
      have hN : isN l = true := decide_eq_true hn
      have eq : rStmt blk l = rAction l := if_pos hN
      refine iteS (by rw [dec_str]; exact decide_eq_true hn) ?_
      refine ⟨_, rfl, S, dx, _, rfl, eS, rfl, S, L, d, ts, l, rfl, rg, fun l' h1 v H1 b1 rg1 => k1 l' (eq.trans h1) v H1 b1 rg1, fun e h1 => k2 e (eq.trans h1)⟩
    have hN : ¬ isN l = true := fun z => hn (of_decide_eq_true z)
    refine iteE (by rw [dec_str]; exact decide_eq_false hn) ?_
    refine ⟨_, rfl, S, dx, _, rfl, eS, rfl, S, L, d, ts, l, "if", rfl, rg, fun hz0 => ⟨false, rfl, iteE rfl ?_⟩, fun hz0 H1 b1 rg1 => ⟨true, rfl, iteS rfl ?_⟩⟩
    case refine_2 =>
      have eq : rStmt blk l = andR (blk l.tail) fun l1 => if isW "else" l1 = true then blk l1.tail else .ok l1 := by
        unfold rStmt
        rw [if_neg hN, if_pos hz0]
      obtain ⟨dx1, i1, e1⟩ := rg1.ins
      refine ⟨_, rfl, S, dx1, _, rfl, e1, rfl, S, L, d, ts, l.tail, rfl, rg1, hd, fun l2 h2 kv H2 b2 rg2 => ?_, fun e h1 => (k2 e (by rw [eq, h1]; rfl)).bt b1⟩
      rw [h2] at eq
      replace eq : rStmt blk l = if isW "else" l2 = true then blk l2.tail else .ok l2 := eq
      obtain ⟨dx2, i2, e2⟩ := rg2.ins
      refine ⟨_, rfl, _, rfl, S, dx2, _, rfl, e2, rfl, S, L, d, ts, l2, "else", rfl, rg2, fun hz2 => ⟨false, rfl, iteE rfl ⟨(by show 0 ≤ sizeLine; decide), fun q hq => ⟨(by show 3 ≤ sizeLine; decide), fun t ht => ?_⟩⟩⟩, fun hz2 H3 b3 rg3 => ⟨true, rfl, iteS rfl ?_⟩⟩
      · rw [if_neg (by rw [hz2]; decide)] at eq
        have s3 := same_new (o := .tup []) hq
        have s4 := same_new (o := .tup [.str "if", kv, .ref q]) ht
        exact k1 _ eq _ _ ((b1.trans b2).trans (.of (s3.trans s4))) (rg2.same (s3.trans s4))
      · rw [if_pos hz2] at eq
        obtain ⟨dx3, i3, e3⟩ := rg3.ins
        refine ⟨_, rfl, S, dx3, _, rfl, e3, rfl, S, L, d, ts, l2.tail, rfl, rg3, hd, fun l' h1 v H4 b4 rg4 => ⟨(by show 3 ≤ sizeLine; decide), fun t ht => ?_⟩, fun e h1 => (k2 e (eq.trans h1)).bt ((b1.trans b2).trans b3)⟩
        have s4 := same_new (o := .tup [.str "if", kv, v]) ht
        exact k1 _ (eq.trans h1) _ _ ((((b1.trans b2).trans b3).trans b4).trans (.of s4)) (rg4.same s4)
    refine ⟨_, rfl, S, dx, _, rfl, eS, rfl, S, L, d, ts, l, "while", rfl, rg, fun hz1 => ⟨false, rfl, iteE rfl ?_⟩, fun hz1 H1 b1 rg1 => ⟨true, rfl, iteS rfl ?_⟩⟩
    case refine_2 =>
      have eq : rStmt blk l = blk l.tail := by
        unfold rStmt
        rw [if_neg hN, if_neg (by rw [hz0]; decide), if_pos hz1]
      obtain ⟨dx1, i1, e1⟩ := rg1.ins
      refine ⟨_, rfl, S, dx1, _, rfl, e1, rfl, S, L, d, ts, l.tail, rfl, rg1, hd, fun l' h1 v H2 b2 rg2 => ⟨(by show 2 ≤ sizeLine; decide), fun q hq => ?_⟩, fun e h1 => (k2 e (eq.trans h1)).bt b1⟩
      have s3 := same_new (o := .tup [.str "while", v]) hq
      exact k1 l' (eq.trans h1) _ _ ((b1.trans b2).trans (.of s3)) (rg2.same s3)
    refine ⟨_, rfl, S, dx, _, rfl, eS, rfl, S, L, d, ts, l, "risk", rfl, rg, fun hz2 => ⟨false, rfl, iteE rfl ?_⟩, fun hz2 H1 b1 rg1 => ⟨true, rfl, iteS rfl ?_⟩⟩
    case refine_2 =>
      have eq : rStmt blk l = rNames l.tail := by
        unfold rStmt
        rw [if_neg hN, if_neg (by rw [hz0]; decide), if_neg (by rw [hz1]; decide), if_pos hz2]
      obtain ⟨dx1, i1, e1⟩ := rg1.ins
      refine ⟨_, rfl, S, dx1, _, rfl, e1, rfl, S, L, d, ts, l.tail, rfl, rg1, fun l' h1 v H2 b2 rg2 => ⟨(by show 2 ≤ sizeLine; decide), fun q hq => ?_⟩, fun e h1 => (k2 e (eq.trans h1)).bt b1⟩
      have s3 := same_new (o := .tup [.str "risk", v]) hq
      exact k1 l' (eq.trans h1) _ _ ((b1.trans b2).trans (.of s3)) (rg2.same s3)
    refine ⟨_, rfl, S, dx, _, rfl, eS, rfl, S, L, d, ts, l, "raise", rfl, rg, fun hz3 => ⟨false, rfl, iteE rfl ?_⟩, fun hz3 H1 b1 rg1 => ⟨true, rfl, iteS rfl ?_⟩⟩
    case refine_2 =>
      have eq : rStmt blk l = rName l.tail := by
        unfold rStmt
        rw [if_neg hN, if_neg (by rw [hz0]; decide), if_neg (by rw [hz1]; decide), if_neg (by rw [hz2]; decide), if_pos hz3]
      obtain ⟨dx1, i1, e1⟩ := rg1.ins
      refine ⟨_, rfl, S, dx1, _, rfl, e1, rfl, S, L, d, ts, l.tail, rfl, rg1, fun l' h1 H2 b2 rg2 => ⟨(by show 2 ≤ sizeLine; decide), fun q hq => ?_⟩, fun e h1 => (k2 e (eq.trans h1)).bt b1⟩
      have s3 := same_new (o := .tup [.str "raise", .str (textH l.tail)]) hq
      exact k1 l' (eq.trans h1) _ _ ((b1.trans b2).trans (.of s3)) (rg2.same s3)
    refine ⟨_, rfl, S, dx, _, rfl, eS, rfl, S, L, d, ts, l, "try", rfl, rg, fun hz4 => ⟨false, rfl, iteE rfl ?_⟩, fun hz4 H1 b1 rg1 => ⟨true, rfl, iteS rfl ?_⟩⟩
    case refine_2 =>
      have eq : rStmt blk l = rTry blk l.tail := by
        unfold rStmt
        rw [if_neg hN, if_neg (by rw [hz0]; decide), if_neg (by rw [hz1]; decide), if_neg (by rw [hz2]; decide), if_neg (by rw [hz3]; decide), if_pos hz4]
      obtain ⟨dx1, i1, e1⟩ := rg1.ins
      refine ⟨_, rfl, S, dx1, _, rfl, e1, rfl, S, L, d, ts, l.tail, rfl, rg1, hd, fun l' h1 v H2 b2 rg2 => k1 l' (eq.trans h1) v H2 (b1.trans b2) rg2, fun e h1 => (k2 e (eq.trans h1)).bt b1⟩
    refine ⟨_, rfl, S, dx, _, rfl, eS, rfl, S, L, d, ts, l, "undo", rfl, rg, fun hz5 => ⟨false, rfl, iteE rfl ?_⟩, fun hz5 H1 b1 rg1 => ⟨true, rfl, iteS rfl ?_⟩⟩
    case refine_2 =>
      have eq : rStmt blk l = andR (rNames l.tail) blk := by
        unfold rStmt
        rw [if_neg hN, if_neg (by rw [hz0]; decide), if_neg (by rw [hz1]; decide), if_neg (by rw [hz2]; decide), if_neg (by rw [hz3]; decide), if_neg (by rw [hz4]; decide), if_pos hz5]
      obtain ⟨dx1, i1, e1⟩ := rg1.ins
      refine ⟨_, rfl, S, dx1, _, rfl, e1, rfl, S, L, d, ts, l.tail, rfl, rg1, fun l2 h2 kv H2 b2 rg2 => ?_, fun e h1 => (k2 e (by rw [eq, h1]; rfl)).bt b1⟩
      rw [h2] at eq
      replace eq : rStmt blk l = blk l2 := eq
      obtain ⟨dx2, i2, e2⟩ := rg2.ins
      refine ⟨_, rfl, _, rfl, S, dx2, _, rfl, e2, rfl, S, L, d, ts, l2, rfl, rg2, hd, fun l' h1 v H3 b3 rg3 => ⟨(by show 3 ≤ sizeLine; decide), fun q hq => ?_⟩, fun e h1 => (k2 e (eq.trans h1)).bt (b1.trans b2)⟩
      have s3 := same_new (o := .tup [.str "undo", kv, v]) hq
      exact k1 l' (eq.trans h1) _ _ (((b1.trans b2).trans b3).trans (.of s3)) (rg3.same s3)
    refine ⟨_, rfl, S, dx, _, rfl, eS, rfl, S, L, d, ts, l, "with", rfl, rg, fun hz6 => ⟨false, rfl, iteE rfl ?_⟩, fun hz6 H1 b1 rg1 => ⟨true, rfl, iteS rfl ?_⟩⟩
    case refine_2 =>
      have eq : rStmt blk l = rWith blk l.tail := by
        unfold rStmt
        rw [if_neg hN, if_neg (by rw [hz0]; decide), if_neg (by rw [hz1]; decide), if_neg (by rw [hz2]; decide), if_neg (by rw [hz3]; decide), if_neg (by rw [hz4]; decide), if_neg (by rw [hz5]; decide), if_pos hz6]
      obtain ⟨dx1, i1, e1⟩ := rg1.ins
      refine ⟨_, rfl, S, dx1, _, rfl, e1, rfl, S, L, d, ts, l.tail, rfl, rg1, hd, fun l' h1 v H2 b2 rg2 => k1 l' (eq.trans h1) v H2 (b1.trans b2) rg2, fun e h1 => (k2 e (eq.trans h1)).bt b1⟩
    have eq : rStmt blk l = andR (rExp "return" l) rExpr := by
      unfold rStmt
      rw [if_neg hN, if_neg (by rw [hz0]; decide), if_neg (by rw [hz1]; decide), if_neg (by rw [hz2]; decide), if_neg (by rw [hz3]; decide), if_neg (by rw [hz4]; decide), if_neg (by rw [hz5]; decide), if_neg (by rw [hz6]; decide)]
    refine ⟨_, rfl, S, dx, _, rfl, eS, rfl, S, L, d, ts, l, "return", rfl, rg, fun l2 h2 H2 b2 rg2 => ?_, fun e h1 => k2 e (by rw [eq, h1]; rfl)⟩
    rw [h2] at eq
    replace eq : rStmt blk l = rExpr l2 := eq
    obtain ⟨dx2, i2, e2⟩ := rg2.ins
    refine ⟨_, rfl, S, dx2, _, rfl, e2, rfl, S, L, d, ts, l2, rfl, rg2, fun l' h1 v H3 b3 rg3 => ⟨(by show 2 ≤ sizeLine; decide), fun q hq => ?_⟩, fun e h1 => (k2 e (eq.trans h1)).bt b2⟩
    have s3 := same_new (o := .tup [.str "return", v]) hq
    exact k1 l' (eq.trans h1) _ _ ((b2.trans b3).trans (.of s3)) (rg3.same s3)
end

/-! ### k05: read_block -/
section
variable {blk : Tl → RdR}
theorem stmts_fuel (h : Rd3 blk) : ∀ (k : Nat) (l : Tl) (n m : Nat), l.length ≤ k → l.length < n → l.length < m → rStmts blk n l = rStmts blk m l := fun k => by
  induction k using Nat.strongRecOn with
  | _ k ih =>
    intro l n m hk hn hm
    obtain ⟨n, rfl⟩ : ∃ n', n = n' + 1 := ⟨n - 1, by omega⟩
    obtain ⟨m, rfl⟩ : ∃ m', m = m' + 1 := ⟨m - 1, by omega⟩
    show (if isW "}" l = true then _ else andR (rStmt blk l) _) = (if isW "}" l = true then _ else andR (rStmt blk l) _)
    by_cases z : isW "}" l = true
    · rw [if_pos z, if_pos z]
    · rw [if_neg z, if_neg z]
      cases e : rStmt blk l with
      | error e => rfl
      | ok l1 =>
        have h1 := dec_stmt h _ _ e
        exact ih l1.length (by omega) l1 n m (Nat.le_refl _) (by omega) (by omega)
def rStms (blk : Tl → RdR) (l : Tl) : RdR := rStmts blk (l.length + 1) l
theorem stms_eq (h : Rd3 blk) (l : Tl) : rStms blk l = if isW "}" l = true then .ok l.tail else andR (rStmt blk l) (rStms blk) := by
  show (if isW "}" l = true then _ else andR (rStmt blk l) _) = _
  by_cases z : isW "}" l = true
  · rw [if_pos z, if_pos z]
  · rw [if_neg z, if_neg z]
    cases e : rStmt blk l with
    | error e => rfl
    | ok l1 =>
      have h1 := dec_stmt h _ _ e
      exact stmts_fuel h _ l1 _ _ (Nat.le_refl _) (by omega) (by omega)
end
theorem putF_dp (L : Addr) (i d j : Nat) : putF "depth" (.int (j : Nat)) (rdF L i d) = rdF L i j := by
  show (if ("tokens" : Str) = "depth" then _ else (("tokens" : Str), V.ref L) :: (if ("index_of_token" : Str) = "depth" then _ else (("index_of_token" : Str), V.int (i : Nat)) :: (if ("depth" : Str) = "depth" then _ else _))) = _
  rw [if_neg td_ne, if_neg id_ne, if_pos rfl]
  rfl
theorem RdG.depth {C S L dx : Addr} {H : Hp} {d j i : Nat} {ts l : Tl} (h : RdG C H S L d ts l) (e : H S = some (.ins C dx (rdF L i d))) : RdG C (upd H S (.ins C dx (rdF L i j))) S L j ts l := by
  obtain ⟨i', ⟨dy, xs, e1, e2, e3⟩, e4⟩ := h
  have ei : i' = i := by
    rw [e1] at e
    injection e with e
    injection e with _ _ e
    unfold rdF at e
    simp only [List.cons.injEq, Prod.mk.injEq, V.int.injEq, true_and, and_true] at e
    omega
  subst ei
  refine ⟨i', ⟨dx, xs, upd_same, by rw [upd_ne (ne_of e2 e1 fun z => by cases z)]; exact e2, Paired.mapP e3 fun _ _ q => q.same fun b ys e => ?_⟩, e4⟩
  rw [upd_ne (ne_of e e1 fun z => by cases z)]
  exact e
structure TxBlk (mg : Str → Option Value) : Prop extends TxSum mg where
  c_DEEPEST : ∃ u, mg "DEEPEST" = some u ∧ RelV (.int 30) u
section
variable {P : Program} {w : World} {K : PySem.W.Frag} {mg : Str → Option Value} {base : Heap} {C CS CT : Addr} {C' : Nat → Addr}
theorem ok_RBlkG0 {k : Nat} {f : Addr} {fd : FuncData} (F : Fun K "read_block" "Reader.read_block" sRBlk f fd) (T : TxBlk mg) (TR : TxR K C) (X : ErrH P w K mg base C') (MI : HasM P w K mg base CX0 2 C "is_next" PRNext (spNxtG C)) (MA : HasM P w K mg base CX0 3 C "accept" PRAcc (spAccG C)) (MX : HasM P w K mg base (L2N.CX P w) 4 C "expect" PRExp (spExpG (C' 1) (C' 2) C)) : FnOk P w K mg base (L2N.CX P w) (k + 5) f fd PRBlk (spRdD (C' 1) (C' 2) C 0 (rBlock 0)) := by
  refine Fun.okN F scRBlk (fun vs H Q E h => ?_) (fun cdv A outer s H vs Q E hr h => ?_)
  · obtain ⟨S, L, d, ts, l, rfl, _⟩ := h
    rfl
  · obtain ⟨S, L, d, ts, l, rfl, rg, hd, k1, k2⟩ := h
    have hr2 := hr.mono (j := 2) (by omega)
    have hr3 := hr.mono (j := 3) (by omega)
    have hr4 := hr.mono (j := 4) (by omega)
    obtain ⟨dx, i, eS⟩ := rg.ins
    have tk := L2N.takes_of (X := cxOf (L2N.CX P w) P w K mg base NRBlk "Reader.read_block" (defScope sRBlk) f cdv A outer s H E) (E := E) rfl rfl rfl rfl
    refine ⟨_, (pss_cons (ps_if (PW.pt (pw_and (pt_val (pe_methH (pv 0) TR.cl MI hr2 pass0 (pa_cons pe_str pa_nil))) (pw_and1 (pt_cmpR op_eq (pe_fld (pv 0) rfl) (pe_globE rfl T.c_DEEPEST) (nomark _)))))
  (pss_one (ps_raiseX rfl tk X.h2 (hr.mono (by omega)) rfl (pa_cons pe_str pa_nil)))
  pss_nil)
  (pss_cons (ps_expr (pe_methH (pv 0) TR.cl MX hr4 (fun pins σ H1 s1 e s' I c => L2N.passAt tk σ pins H1 s1 e s' I c) (pa_cons pe_str pa_nil)))
  (pss_cons (ps_fldaug (pv 0) pe_int in_add)
  (pss_cons (ps_set (i := 1) scRBlk.nd rfl (Or.inl rfl) (pe_lst pa_nil))
  (pss_cons (ps_while (passes_of rfl) (pt_not (pt_val (pe_methH (pv 0) TR.cl MA hr3 pass0 (pa_cons pe_str pa_nil))))
  (pss_one ps_never))
  (pss_cons (ps_fldaug (pv 0) pe_int in_sub)
  (pss_one (ps_ret (pe_callTy call_tuple_of (by rfl) T.n_tuple bb_tuple (pa_cons (pv 1) pa_nil)))))))))), ?_⟩
    refine ⟨_, rfl, S, dx, _, rfl, eS, rfl, S, L, d, ts, l, "{", rfl, rg, ?_⟩
    cases hz : isW "{" l with
    | true =>
      refine ⟨true, rfl, iteS rfl ?_⟩
      refine ⟨_, rfl, S, C, dx, _, _, rfl, eS, TR.cl, TR.nD, rfl, rfl, _, rfl, iteS (decide_eq_true (by rw [show d = 30 by omega]; rfl)) ?_⟩
      exact ⟨_, rfl, fun d' hd' => k2 (.large "nesting") (if_pos hz) d' H Bt.refl hd'⟩
    | false =>
      refine ⟨false, rfl, iteE rfl ?_⟩
      have he : rExp "{" l = synE l := if_neg (by rw [hz]; decide)
      have hb : rBlock 0 l = synE l := if_neg (by rw [hz]; decide)
      refine ⟨_, rfl, S, dx, _, rfl, eS, rfl, S, L, d, ts, l, "{", rfl, rg, fun l1 h1 => absurd h1 (by rw [he]; exact fun z => by cases z), fun e h1 => k2 e (by rw [hb, ← he]; exact h1)⟩
theorem ok_RBlkG {n : Nat} {f : Addr} {fd : FuncData} (F : Fun K "read_block" "Reader.read_block" sRBlk f fd) (T : TxBlk mg) (TR : TxR K C) (X : ErrH P w K mg base C') (MI : HasM P w K mg base CX0 2 C "is_next" PRNext (spNxtG C)) (MA : HasM P w K mg base CX0 3 C "accept" PRAcc (spAccG C)) (MX : HasM P w K mg base (L2N.CX P w) 4 C "expect" PRExp (spExpG (C' 1) (C' 2) C)) (MS : HasM P w K mg base (L2N.CX P w) (9 + 3 * n + 2) C "read_statement" PRStm (spRdD (C' 1) (C' 2) C n (rStmt (rBlock n)))) : FnOk P w K mg base (L2N.CX P w) (9 + 3 * n + 2 + 1) f fd PRBlk (spRdD (C' 1) (C' 2) C (n + 1) (rBlock (n + 1))) := by
  refine Fun.okN F scRBlk (fun vs H Q E h => ?_) (fun cdv A outer s H vs Q E hr h => ?_)
  · obtain ⟨S, L, d, ts, l, rfl, _⟩ := h
    rfl
  · obtain ⟨S, L, d, ts, l, rfl, rg, hd, k1, k2⟩ := h
    have hr2 := hr.mono (j := 2) (by omega)
    have hr3 := hr.mono (j := 3) (by omega)
    have hr4 := hr.mono (j := 4) (by omega)
    obtain ⟨dx, i, eS⟩ := rg.ins
    have tk := L2N.takes_of (X := cxOf (L2N.CX P w) P w K mg base NRBlk "Reader.read_block" (defScope sRBlk) f cdv A outer s H E) (E := E) rfl rfl rfl rfl
    refine ⟨_, (pss_cons (ps_if (PW.pt (pw_and (pt_val (pe_methH (pv 0) TR.cl MI hr2 pass0 (pa_cons pe_str pa_nil))) (pw_and1 (pt_cmpR op_eq (pe_fld (pv 0) rfl) (pe_globE rfl T.c_DEEPEST) (nomark _)))))
  (pss_one (ps_raiseX rfl tk X.h2 (hr.mono (by omega)) rfl (pa_cons pe_str pa_nil)))
  pss_nil)
  (pss_cons (ps_expr (pe_methH (pv 0) TR.cl MX hr4 (fun pins σ H1 s1 e s' I c => L2N.passAt tk σ pins H1 s1 e s' I c) (pa_cons pe_str pa_nil)))
  (pss_cons (ps_fldaug (pv 0) pe_int in_add)
  (pss_cons (ps_set (i := 1) scRBlk.nd rfl (Or.inl rfl) (pe_lst pa_nil))
  (pss_cons (ps_while (passes_of rfl) (pt_not (pt_val (pe_methH (pv 0) TR.cl MA hr3 pass0 (pa_cons pe_str pa_nil))))
  (pss_one (ps_expr (pe_bm PySem.F.plainAttrs_list PySem.F.slot_list_append PySem.F.type_list_append mt_append (pv 1) (pa_cons (pe_methH0 (pv 0) TR.cl MS hr (fun pins σ H1 s1 e s' I c => L2N.passAt tk σ pins H1 s1 e s' I c)) pa_nil)))))
  (pss_cons (ps_fldaug (pv 0) pe_int in_sub)
  (pss_one (ps_ret (pe_callTy call_tuple_of (by rfl) T.n_tuple bb_tuple (pa_cons (pv 1) pa_nil)))))))))), ?_⟩
    have eq0 : rBlock (n + 1) l = andR (rExp "{" l) (rStms (rBlock n)) := rfl
    refine ⟨_, rfl, S, dx, _, rfl, eS, rfl, S, L, d, ts, l, "{", rfl, rg, ?_⟩
    cases hz : isW "{" l with
    | false =>
      refine ⟨false, rfl, iteE rfl ?_⟩
      have he : rExp "{" l = synE l := if_neg (by rw [hz]; decide)
      have hb : rBlock (n + 1) l = synE l := by rw [eq0, he]; rfl
      refine ⟨_, rfl, S, dx, _, rfl, eS, rfl, S, L, d, ts, l, "{", rfl, rg, fun l1 h1 => absurd h1 (by rw [he]; exact fun z => by cases z), fun e h1 => k2 e (by rw [hb, ← he]; exact h1)⟩
    | true =>
    refine ⟨true, rfl, iteS rfl ?_⟩
    refine ⟨_, rfl, S, C, dx, _, _, rfl, eS, TR.cl, TR.nD, rfl, rfl, _, rfl, iteE (decide_eq_false fun z => by injection z with z; omega) ?_⟩
    refine ⟨_, rfl, S, dx, _, rfl, eS, rfl, S, L, d, ts, l, "{", rfl, rg, fun l1 h1 H1 b1 rg1 => ?_, fun e h1 => k2 e (by rw [eq0, h1]; rfl)⟩
    rw [h1] at eq0
    replace eq0 : rBlock (n + 1) l = rStms (rBlock n) l1 := eq0
    obtain ⟨dx1, i1, e2⟩ := rg1.ins
    refine ⟨_, rfl, S, C, dx1, _, _, rfl, e2, TR.cl, TR.nD, rfl, _, _, rfl, rfl, dx1, _, e2, (by show 3 < 1000; decide), ?_⟩
    rw [show putF "depth" (.int (((d : Nat) : Int) + 1)) (rdF L i1 d) = rdF L i1 (d + 1) from putF_dp L i1 d (d + 1)]
    have rg2 : RdG C (upd H1 S (.ins C dx1 (rdF L i1 (d + 1)))) S L (d + 1) ts l1 := rg1.depth e2
    have b2 : Bt S H (upd H1 S (.ins C dx1 (rdF L i1 (d + 1)))) := b1.trans bt_upd
    generalize upd H1 S (.ins C dx1 (rdF L i1 (d + 1))) = H2 at *
    refine ⟨(by show 0 ≤ sizeLine; decide), fun X' hX => ?_⟩
    have lg : LsG C S L X' (d + 1) ts H (upd H2 X' (.lst [])) (l1.length + 1) l1 := .new b2 rg2 hX (by have := rg2.len; show 0 + _ ≤ _; omega)
    refine ⟨fun m σ H' => ∃ (l2 : Tl), m = l2.length ∧ σ = [some (.ref S), some (.ref X')] ∧ LsG C S L X' (d + 1) ts H H' (l2.length + 1) l2 ∧ rBlock (n + 1) l = rStms (rBlock n) l2, ⟨_, l1, rfl, rfl, lg, eq0⟩, ?_⟩
    rintro m σ H5 ⟨l5, rfl, rfl, lg5, eq5⟩
    obtain ⟨dx5, i5, e5⟩ := lg5.rg.ins
    rw [stms_eq (block3 n)] at eq5
    refine ⟨_, rfl, S, dx5, _, rfl, e5, rfl, S, L, d + 1, ts, l5, "}", rfl, lg5.rg, fun hz5 => ⟨false, rfl, iteT ?_⟩, fun hz5 H6 b6 rg6 => ⟨true, rfl, iteF ?_⟩⟩
    · rw [if_neg (by rw [hz5]; decide)] at eq5
      obtain ⟨ys, eX5, _⟩ := lg5.lst
      refine ⟨fun σ' H' => ∃ (l7 : Tl), l7.length < l5.length ∧ σ' = [some (.ref S), some (.ref X')] ∧ LsG C S L X' (d + 1) ts H H' (l7.length + 1) l7 ∧ rBlock (n + 1) l = rStms (rBlock n) l7, fun σ' H' ⟨l7, u0, u1, u2, u3⟩ => ⟨l7.length, u0, l7, rfl, u1, u2, u3⟩, ?_⟩
      refine ⟨_, rfl, .inl ⟨rfl, _, SqL.of eX5⟩, _, rfl, S, dx5, _, rfl, e5, rfl, S, L, d + 1, ts, l5, rfl, lg5.rg, by omega, fun l7 h7 v7 H7 b7 rg7 => ?_, fun e h7 => (k2 e (by rw [eq5, h7]; rfl)).bt lg5.bt⟩
      have n7 := dec_stmt (block3 n) _ _ h7
      have lg7 := (lg5.read b7 rg7).le (m := l7.length + 1 + 1) (by omega)
      have eX7 := b7 _ _ eX5 lg5.2.1.2.1
      rw [h7] at eq5
      obtain ⟨zs, eZ, lz⟩ := lg7.lst
      rw [eX7] at eZ
      cases eZ
      refine ⟨X', _, _, rfl, rfl, eX7, Nat.lt_of_le_of_lt (show ys.length ≤ 1000002 by omega) (by decide), l7, by omega, rfl, lg7.put eX7 v7, eq5⟩
    · rw [if_pos hz5] at eq5
      have lg6 := lg5.read b6 rg6
      obtain ⟨xs, eX6, _⟩ := lg6.lst
      obtain ⟨dx6, i6, e6⟩ := rg6.ins
      refine ⟨_, rfl, S, C, dx6, _, _, rfl, e6, TR.cl, TR.nD, rfl, _, _, rfl, rfl, dx6, _, e6, (by show 3 < 1000; decide), ?_⟩
      rw [show ((d + 1 : Nat) : Int) - 1 = ((d : Nat) : Int) by omega, putF_dp L i6 (d + 1) d]
      have rg7 : RdG C (upd H6 S (.ins C dx6 (rdF L i6 d))) S L d ts l5.tail := rg6.depth e6
      have eX7 : upd H6 S (.ins C dx6 (rdF L i6 d)) X' = some (.lst xs) := by rw [upd_ne lg5.2.1.2.1]; exact eX6
      refine ⟨_, rfl, X', _, rfl, .inl ⟨SqL.of eX7, fun p hp => ?_⟩⟩
      have s7 := same_new (o := .tup xs) hp
      exact k1 _ eq5 _ _ ((lg6.bt.trans bt_upd).trans (.of s7)) (rg7.same s7)
end

/-! ### k05: blocks of any depth, read_function -/
abbrev sRFun : Stmt := inClass (topS 16) 18
abbrev NRFun : List Str := ["self", "name", "params"]
abbrev PRFun : List Str := ["self"]
theorem scRFun : FnScope NRFun PRFun (defScope sRFun) := ⟨rfl, rfl, rfl, by decide +kernel, rfl, by decide +kernel, by decide +kernel⟩
abbrev sRPrg : Stmt := inClass (topS 16) 19
abbrev NRPrg : List Str := ["self", "names", "kinds", "keeps", "functions"]
abbrev PRPrg : List Str := ["self"]
theorem scRPrg : FnScope NRPrg PRPrg (defScope sRPrg) := ⟨rfl, rfl, rfl, by decide +kernel, rfl, by decide +kernel, by decide +kernel⟩
abbrev sParse : Stmt := topS 17
abbrev NParse : List Str := ["text"]
abbrev PParse : List Str := ["text"]
theorem scParse : FnScope NParse PParse (defScope sParse) := ⟨rfl, rfl, rfl, by decide +kernel, rfl, by decide +kernel, by decide +kernel⟩
section
variable {P : Program} {w : World} {K : PySem.W.Frag} {mg : Str → Option Value} {base : Heap} {C CS CT : Addr} {C' : Nat → Addr}
theorem ok_RBlksG {fb fs ft fw : Addr} {db ds dt dw : FuncData} (FB : Fun K "read_block" "Reader.read_block" sRBlk fb db) (FS : Fun K "read_statement" "Reader.read_statement" sRStm fs ds) (FT : Fun K "read_try" "Reader.read_try" sRTry ft dt) (FW : Fun K "read_with" "Reader.read_with" sRWth fw dw) (T : TxBlk mg) (TR : TxR K C) (X : ErrH P w K mg base C')
    (mb : Meth K C "read_block" fb) (bb : Binds K db PRBlk []) (ms : Meth K C "read_statement" fs) (bs : Binds K ds PRStm []) (mt : Meth K C "read_try" ft) (bt : Binds K dt PRTry []) (mw : Meth K C "read_with" fw) (bw : Binds K dw PRWth [])
    (MC : HasM P w K mg base CX0 1 C "current" PRCur (spCurG C)) (MI : HasM P w K mg base CX0 2 C "is_next" PRNext (spNxtG C)) (MA : HasM P w K mg base CX0 3 C "accept" PRAcc (spAccG C)) (MM : HasM P w K mg base (L2N.CX P w) 3 C "read_name" PRName (spRdN (C' 1) (C' 2) C rName)) (MX : HasM P w K mg base (L2N.CX P w) 4 C "expect" PRExp (spExpG (C' 1) (C' 2) C)) (MN : HasM P w K mg base (L2N.CX P w) 4 C "read_names" PRNms (spRd (C' 1) (C' 2) C rNames)) (ME : HasM P w K mg base (L2N.CX P w) 5 C "read_expression" PRExpr (spRd (C' 1) (C' 2) C rExpr)) (MG : HasM P w K mg base (L2N.CX P w) 7 C "read_args" PRArgs (spRd (C' 1) (C' 2) C rArgs)) (MT : HasM P w K mg base (L2N.CX P w) 8 C "read_action" PRAct (spRd (C' 1) (C' 2) C rAction)) : ∀ n, FnOk P w K mg base (L2N.CX P w) (9 + 3 * n) fb db PRBlk (spRdD (C' 1) (C' 2) C n (rBlock n)) := by
  intro n
  induction n with
  | zero => exact ok_RBlkG0 (k := 4) FB T TR X MI MA MX
  | succ n ih =>
    have MB : HasM P w K mg base (L2N.CX P w) (9 + 3 * n) C "read_block" PRBlk (spRdD (C' 1) (C' 2) C n (rBlock n)) := ⟨fb, db, mb, ih, bb⟩
    have MY : HasM P w K mg base (L2N.CX P w) (9 + 3 * n + 1) C "read_try" PRTry (spRdD (C' 1) (C' 2) C n (rTry (rBlock n))) := ⟨ft, dt, mt, ok_RTryG (block3 n).u FT T.toTxSum.toTxRd TR MI MA MX MN MB, bt⟩
    have MW : HasM P w K mg base (L2N.CX P w) (9 + 3 * n + 1) C "read_with" PRWth (spRdD (C' 1) (C' 2) C n (rWith (rBlock n))) := ⟨fw, dw, mw, ok_RWthG FW TR MM MA MX MN MG MB, bw⟩
    have MZ : HasM P w K mg base (L2N.CX P w) (9 + 3 * n + 2) C "read_statement" PRStm (spRdD (C' 1) (C' 2) C n (rStmt (rBlock n))) := ⟨fs, ds, ms, ok_RStmG FS TR MC MM MA MX MN ME MT MB MY MW, bs⟩
    have r := ok_RBlkG FB T TR X MI MA MX MZ
    rw [show 9 + 3 * n + 2 + 1 = 9 + 3 * (n + 1) by omega] at r
    exact r
theorem ok_RFunG {f : Addr} {fd : FuncData} (F : Fun K "read_function" "Reader.read_function" sRFun f fd) (T : TxRd mg) (TR : TxR K C) (MM : HasM P w K mg base (L2N.CX P w) 3 C "read_name" PRName (spRdN CS CT C rName)) (MA : HasM P w K mg base CX0 3 C "accept" PRAcc (spAccG C)) (MX : HasM P w K mg base (L2N.CX P w) 4 C "expect" PRExp (spExpG CS CT C)) (MP : HasM P w K mg base (L2N.CX P w) 4 C "read_param" PRPar (spRd CS CT C rParam)) (MB : HasM P w K mg base (L2N.CX P w) (9 + 3 * 30) C "read_block" PRBlk (spRdD CS CT C 30 (rBlock 30))) : FnOk P w K mg base (L2N.CX P w) (9 + 3 * 30 + 1) f fd PRFun (spRdD CS CT C 30 rFunction) := by
  refine Fun.okN F scRFun (fun vs H Q E h => ?_) (fun cdv A outer s H vs Q E hr h => ?_)
  · obtain ⟨S, L, d, ts, l, rfl, _⟩ := h
    rfl
  · obtain ⟨S, L, d, ts, l, rfl, rg, hd, k1, k2⟩ := h
    have hr3 := hr.mono (j := 3) (by omega)
    have hr4 := hr.mono (j := 4) (by omega)
    obtain ⟨dx, i, eS⟩ := rg.ins
    have tk := L2N.takes_of (X := cxOf (L2N.CX P w) P w K mg base NRFun "Reader.read_function" (defScope sRFun) f cdv A outer s H E) (E := E) rfl rfl rfl rfl
    refine ⟨_, (pss_cons (ps_set (i := 1) scRFun.nd rfl (Or.inl rfl) (pe_methH0 (pv 0) TR.cl MM hr3 (fun pins σ H1 s1 e s' I c => L2N.passAt tk σ pins H1 s1 e s' I c)))
  (pss_cons (ps_expr (pe_methH (pv 0) TR.cl MX hr4 (fun pins σ H1 s1 e s' I c => L2N.passAt tk σ pins H1 s1 e s' I c) (pa_cons pe_str pa_nil)))
  (pss_cons (ps_set (i := 2) scRFun.nd rfl (Or.inl rfl) (pe_lst pa_nil))
  (C8.pss_cut (ps_if (pt_not (pt_val (pe_methH (pv 0) TR.cl MA hr3 pass0 (pa_cons pe_str pa_nil))))
  (pss_cons (ps_expr (pe_bm PySem.F.plainAttrs_list PySem.F.slot_list_append PySem.F.type_list_append mt_append (pv 2) (pa_cons (pe_methH0 (pv 0) TR.cl MP hr4 (fun pins σ H1 s1 e s' I c => L2N.passAt tk σ pins H1 s1 e s' I c)) pa_nil)))
  (pss_cons (ps_while (passes_of rfl) (pt_val (pe_methH (pv 0) TR.cl MA hr3 pass0 (pa_cons pe_str pa_nil)))
  (pss_one (ps_expr (pe_bm PySem.F.plainAttrs_list PySem.F.slot_list_append PySem.F.type_list_append mt_append (pv 2) (pa_cons (pe_methH0 (pv 0) TR.cl MP hr4 (fun pins σ H1 s1 e s' I c => L2N.passAt tk σ pins H1 s1 e s' I c)) pa_nil)))))
  (pss_one (ps_expr (pe_methH (pv 0) TR.cl MX hr4 (fun pins σ H1 s1 e s' I c => L2N.passAt tk σ pins H1 s1 e s' I c) (pa_cons pe_str pa_nil))))))
  pss_nil)
  (pss_one (ps_ret (pe_tup (pa_cons (pv 1) (pa_cons (pe_callTy call_tuple_of (by rfl) T.n_tuple bb_tuple (pa_cons (pv 2) pa_nil)) (pa_cons (pe_methH0 (pv 0) TR.cl MB hr (fun pins σ H1 s1 e s' I c => L2N.passAt tk σ pins H1 s1 e s' I c)) pa_nil)))))))))), ?_⟩
    have cn : isW "," [] = false := by decide +kernel
    have eq0 : rFunction l = andR (rName l) fun l1 => andR (rExp "(" l1) fun l2 => andR (if isW ")" l2 = true then .ok l2.tail else andR (rParam l2) fun l3 => andR (rMore rParam l3.length l3) (rExp ")")) (rBlock 30) := rfl
    refine ⟨_, rfl, S, dx, _, rfl, eS, rfl, S, L, d, ts, l, rfl, rg, fun l1 h1 H1 b1 rg1 => ?_, fun e h1 => k2 e (by rw [eq0, h1]; rfl)⟩
    rw [h1] at eq0
    replace eq0 : rFunction l = andR (rExp "(" l1) _ := eq0
    obtain ⟨dx1, i1, e1⟩ := rg1.ins
    refine ⟨_, rfl, S, dx1, _, rfl, e1, rfl, S, L, d, ts, l1, "(", rfl, rg1, fun l2 h2 H2 b2 rg2 => ⟨(by show 0 ≤ sizeLine; decide), fun X hX => ?_⟩, fun e h2 => (k2 e (by rw [eq0, h2]; rfl)).bt b1⟩
    rw [h2] at eq0
    replace eq0 : rFunction l = andR (if isW ")" l2 = true then .ok l2.tail else andR (rParam l2) fun l3 => andR (rMore rParam l3.length l3) (rExp ")")) (rBlock 30) := eq0
    have lg : LsG C S L X d ts H (upd H2 X (.lst [])) (l2.length + 1) l2 := .new (b1.trans b2) rg2 hX (by have := rg2.len; show 0 + _ ≤ _; omega)
    have eX : upd H2 X (.lst []) X = some (.lst []) := upd_same
    generalize upd H2 X (.lst []) = H3 at *
    obtain ⟨dx3, i3, e3⟩ := lg.rg.ins
    refine ⟨fun σ H' => ∃ l6 : Tl, σ = [some (.ref S), some (.str (textH l)), some (.ref X)] ∧ LsG C S L X d ts H H' 0 l6 ∧ rFunction l = rBlock 30 l6, ?_, ?_⟩
    · refine ⟨_, rfl, S, dx3, _, rfl, e3, rfl, S, L, d, ts, l2, ")", rfl, lg.rg, fun hz => ⟨false, rfl, iteS rfl ?_⟩, fun hz H4 b4 rg4 => ⟨true, rfl, iteE rfl ?_⟩⟩
      case refine_2 =>
        rw [if_pos hz] at eq0
        exact ⟨_, rfl, (lg.read b4 rg4).le (Nat.zero_le _), eq0⟩
      rw [if_neg (by rw [hz]; decide), andR_assoc] at eq0
      refine ⟨_, rfl, .inl ⟨rfl, _, SqL.of eX⟩, _, rfl, S, dx3, _, rfl, e3, rfl, S, L, d, ts, l2, rfl, lg.rg, fun l3 h3 v H4 b4 rg4 => ?_, fun e h3 => (k2 e (by rw [eq0, h3]; rfl)).bt lg.bt⟩
      have n3 := (param3.u _ _ h3).length_le
      rw [h3] at eq0
      replace eq0 : rFunction l = andR (andR (rMore rParam l3.length l3) (rExp ")")) (rBlock 30) := eq0
      have lg4 := (lg.read b4 rg4).le (m := l3.length + 1) (by omega)
      have eX4 := b4 _ _ eX lg.2.1.2.1
      have lg5 := lg4.put eX4 v
      refine ⟨X, _, _, rfl, rfl, eX4, by decide, ?_⟩
      generalize upd H4 X (.lst ([] ++ [v])) = H5 at *
      refine ⟨fun m σ H' => ∃ (l2 : Tl), m = l2.length ∧ σ = [some (.ref S), some (.str (textH l)), some (.ref X)] ∧ LsG C S L X d ts H H' l2.length l2 ∧ rFunction l = andR (andR (rMore rParam l2.length l2) (rExp ")")) (rBlock 30), ⟨_, l3, rfl, rfl, lg5, eq0⟩, ?_⟩
      rintro m σ H6 ⟨l5, rfl, rfl, lg5, eq5⟩
      obtain ⟨dx5, i5, e5⟩ := lg5.rg.ins
      rw [show rMore rParam l5.length l5 = _ from loop_eq param3.u cn l5] at eq5
      refine ⟨_, rfl, S, dx5, _, rfl, e5, rfl, S, L, d, ts, l5, ",", rfl, lg5.rg, fun hz5 => ⟨false, rfl, iteF ?_⟩, fun hz5 H6 b6 rg6 => ⟨true, rfl, iteT ?_⟩⟩
      · rw [if_neg (by rw [hz5]; decide)] at eq5
        replace eq5 : rFunction l = andR (rExp ")" l5) (rBlock 30) := eq5
        refine ⟨_, rfl, S, dx5, _, rfl, e5, rfl, S, L, d, ts, l5, ")", rfl, lg5.rg, fun l6 h6 H6 b6 rg6 => ?_, fun e h6 => (k2 e (by rw [eq5, h6]; rfl)).bt lg5.bt⟩
        rw [h6] at eq5
        exact ⟨_, rfl, (lg5.read b6 rg6).le (Nat.zero_le _), eq5⟩
      · rw [if_pos hz5] at eq5
        have lt5 := isW_lt hz5
        have lg6 := lg5.read b6 rg6
        obtain ⟨dx6, i6, e6⟩ := lg6.rg.ins
        obtain ⟨ys, eX6, _⟩ := lg6.lst
        refine ⟨fun σ' H' => ∃ (l7 : Tl), l7.length < l5.length ∧ σ' = [some (.ref S), some (.str (textH l)), some (.ref X)] ∧ LsG C S L X d ts H H' l7.length l7 ∧ rFunction l = andR (andR (rMore rParam l7.length l7) (rExp ")")) (rBlock 30), fun σ' H' ⟨l7, u0, u1, u2, u3⟩ => ⟨l7.length, u0, l7, rfl, u1, u2, u3⟩, ?_⟩
        refine ⟨_, rfl, .inl ⟨rfl, _, SqL.of eX6⟩, _, rfl, S, dx6, _, rfl, e6, rfl, S, L, d, ts, l5.tail, rfl, lg6.rg, fun l7 h7 v7 H7 b7 rg7 => ?_, fun e h7 => (k2 e (by rw [eq5, h7]; rfl)).bt lg6.bt⟩
        have n7 := (param3.u _ _ h7).length_le
        have lg7 := (lg6.read b7 rg7).le (m := l7.length + 1) (by omega)
        have eX7 := b7 _ _ eX6 lg6.2.1.2.1
        rw [h7] at eq5
        obtain ⟨zs, eZ, lz⟩ := lg7.lst
        rw [eX7] at eZ
        cases eZ
        refine ⟨X, _, _, rfl, rfl, eX7, Nat.lt_of_le_of_lt (show ys.length ≤ 1000002 by omega) (by decide), l7, by omega, rfl, lg7.put eX7 v7, eq5⟩
    · rintro σ H4 ⟨l6, rfl, lg4, eq⟩
      obtain ⟨xs, eX4, _⟩ := lg4.lst
      refine ⟨_, rfl, _, rfl, X, _, rfl, .inl ⟨SqL.of eX4, fun p hp => ?_⟩⟩
      have s7 := same_new (o := .tup xs) hp
      have lg7 := lg4.read (.of s7) (lg4.rg.same s7)
      generalize upd H4 p (.tup xs) = H7 at *
      obtain ⟨dx7, i7, e7⟩ := lg7.rg.ins
      refine ⟨_, rfl, S, dx7, _, rfl, e7, rfl, S, L, d, ts, l6, rfl, lg7.rg, hd, fun l8 h8 v H8 b8 rg8 => ⟨(by show 3 ≤ sizeLine; decide), fun t ht => ?_⟩, fun e h8 => (k2 e (eq.trans h8)).bt lg7.bt⟩
      have s9 := same_new (o := .tup [.str (textH l), .ref p, v]) ht
      exact k1 _ (eq.trans h8) _ _ ((lg7.bt.trans b8).trans (.of s9)) (rg8.same s9)
end

/-! ### k05: read_program -/
section
variable {P : Program} {w : World} {K : PySem.W.Frag} {mg : Str → Option Value} {base : Heap} {C : Addr} {C' : Nat → Addr}
theorem ok_RPrgG {f : Addr} {fd : FuncData} (F : Fun K "read_program" "Reader.read_program" sRPrg f fd) (T : TxRd mg) (TR : TxR K C) (X : ErrH P w K mg base C') (MC : HasM P w K mg base CX0 1 C "current" PRCur (spCurG C)) (MA : HasM P w K mg base CX0 3 C "accept" PRAcc (spAccG C)) (MR : HasM P w K mg base (L2N.CX P w) 4 C "read_row" PRRow (spRd (C' 1) (C' 2) C rRow)) (ME : HasM P w K mg base (L2N.CX P w) 5 C "read_expression" PRExpr (spRd (C' 1) (C' 2) C rExpr)) (MF : HasM P w K mg base (L2N.CX P w) (9 + 3 * 30 + 1) C "read_function" PRFun (spRdD (C' 1) (C' 2) C 30 rFunction)) : FnOk P w K mg base (L2N.CX P w) (9 + 3 * 30 + 1 + 1) f fd PRPrg (spRdD (C' 1) (C' 2) C 30 rProgram) := by
  refine Fun.okN F scRPrg (fun vs H Q E h => ?_) (fun cdv A outer s H vs Q E hr h => ?_)
  · obtain ⟨S, L, d, ts, l, rfl, _⟩ := h
    rfl
  · obtain ⟨S, L, d, ts, l, rfl, rg, hd, k1, k2⟩ := h
    have hr1 := hr.mono (j := 1) (by omega)
    have hr3 := hr.mono (j := 3) (by omega)
    have hr4 := hr.mono (j := 4) (by omega)
    have hr5 := hr.mono (j := 5) (by omega)
    obtain ⟨dx, i, eS⟩ := rg.ins
    have tk := L2N.takes_of (X := cxOf (L2N.CX P w) P w K mg base NRPrg "Reader.read_program" (defScope sRPrg) f cdv A outer s H E) (E := E) rfl rfl rfl rfl
    refine ⟨_, (C8.pss_cut (ps_set (i := 1) scRPrg.nd rfl (Or.inl rfl) (pe_ifExp (pt_val (pe_methH (pv 0) TR.cl MA hr3 pass0 (pa_cons pe_str pa_nil))) (pe_methH0 (pv 0) TR.cl MR hr4 (fun pins σ H1 s1 e s' I c => L2N.passAt tk σ pins H1 s1 e s' I c)) (pe_tup pa_nil)))
  (C8.pss_cut (ps_set (i := 2) scRPrg.nd rfl (Or.inl rfl) (pe_ifExp (pt_val (pe_methH (pv 0) TR.cl MA hr3 pass0 (pa_cons pe_str pa_nil))) (pe_methH0 (pv 0) TR.cl MR hr4 (fun pins σ H1 s1 e s' I c => L2N.passAt tk σ pins H1 s1 e s' I c)) (pe_tup pa_nil)))
  (pss_cons (ps_set (i := 3) scRPrg.nd rfl (Or.inl rfl) (pe_lst pa_nil))
  (pss_cons (ps_while (passes_of rfl) (pt_val (pe_methH (pv 0) TR.cl MA hr3 pass0 (pa_cons pe_str pa_nil)))
  (pss_one (ps_expr (pe_bm PySem.F.plainAttrs_list PySem.F.slot_list_append PySem.F.type_list_append mt_append (pv 3) (pa_cons (pe_methH0 (pv 0) TR.cl ME hr5 (fun pins σ H1 s1 e s' I c => L2N.passAt tk σ pins H1 s1 e s' I c)) pa_nil)))))
  (pss_cons (ps_set (i := 4) scRPrg.nd rfl (Or.inl rfl) (pe_lst pa_nil))
  (pss_cons (ps_while (passes_of rfl) (pt_val (pe_methH (pv 0) TR.cl MA hr3 pass0 (pa_cons pe_str pa_nil)))
  (pss_one (ps_expr (pe_bm PySem.F.plainAttrs_list PySem.F.slot_list_append PySem.F.type_list_append mt_append (pv 4) (pa_cons (pe_methH0 (pv 0) TR.cl MF hr (fun pins σ H1 s1 e s' I c => L2N.passAt tk σ pins H1 s1 e s' I c)) pa_nil)))))
  (pss_cons (ps_if (pt_cmpR op_ne (pe_ix (r := rIxT K) ix_tup (pe_methH0 (pv 0) TR.cl MC hr1 pass0) pe_int (fun _ _ => rfl)) pe_str (nomark _))
  (pss_one (ps_raiseX rfl tk X.h1 (hr.mono (by decide)) rfl (pa_cons (pe_ix (r := rIxT K) ix_tup (pe_methH0 (pv 0) TR.cl MC hr1 pass0) pe_int (fun _ _ => rfl)) pa_nil)))
  pss_nil)
  (pss_one (ps_ret (pe_tup (pa_cons (pv 1) (pa_cons (pv 2) (pa_cons (pe_callTy call_tuple_of (by rfl) T.n_tuple bb_tuple (pa_cons (pv 3) pa_nil)) (pa_cons (pe_callTy call_tuple_of (by rfl) T.n_tuple bb_tuple (pa_cons (pv 4) pa_nil)) pa_nil)))))))))))))), ?_⟩
    have cnk : isW "keep" [] = false := by decide +kernel
    have cnd : isW "def" [] = false := by decide +kernel
    have eq0 : rProgram l = andR (if isW "globals" l = true then rRow l.tail else .ok l) fun l1 => andR (if isW "kinds" l1 = true then rRow l1.tail else .ok l1) fun l2 => andR (rLoop (isW "keep") rExpr l2.length l2) fun l3 => andR (rLoop (isW "def") rFunction l3.length l3) fun l4 => if kindH l4 = "end" then .ok l4 else synE l4 := rfl
    refine ⟨fun σ H' => ∃ (u : V) (l1 : Tl), σ = [some (.ref S), some u, none, none, none] ∧ Bt S H H' ∧ RdG C H' S L d ts l1 ∧ rProgram l = andR (if isW "kinds" l1 = true then rRow l1.tail else .ok l1) fun l2 => andR (rLoop (isW "keep") rExpr l2.length l2) fun l3 => andR (rLoop (isW "def") rFunction l3.length l3) fun l4 => if kindH l4 = "end" then .ok l4 else synE l4, ?_, ?_⟩
    · refine ⟨_, rfl, S, dx, _, rfl, eS, rfl, S, L, d, ts, l, "globals", rfl, rg, fun hz => ⟨false, rfl, iteE rfl ⟨(by show 0 ≤ sizeLine; decide), fun u hu => ?_⟩⟩, fun hz H1 b1 rg1 => ⟨true, rfl, iteS rfl ?_⟩⟩
      · rw [if_neg (by rw [hz]; decide)] at eq0
        have s2 := same_new (o := .tup []) hu
        exact ⟨_, l, rfl, .of s2, rg.same s2, eq0⟩
      · rw [if_pos hz] at eq0
        obtain ⟨dx1, i1, e1⟩ := rg1.ins
        refine ⟨_, rfl, S, dx1, _, rfl, e1, rfl, S, L, d, ts, l.tail, rfl, rg1, fun l1 h1 u H2 b2 rg2 => ?_, fun e h1 => (k2 e (by rw [eq0, h1]; rfl)).bt b1⟩
        rw [h1] at eq0
        exact ⟨u, l1, rfl, b1.trans b2, rg2, eq0⟩
    clear eq0
    rintro σ H1 ⟨u, l1, rfl, b1, rg1, eq1⟩
    obtain ⟨dx1, i1, e1⟩ := rg1.ins
    refine ⟨fun σ H' => ∃ (v : V) (l2 : Tl), σ = [some (.ref S), some u, some v, none, none] ∧ Bt S H H' ∧ RdG C H' S L d ts l2 ∧ rProgram l = andR (rLoop (isW "keep") rExpr l2.length l2) fun l3 => andR (rLoop (isW "def") rFunction l3.length l3) fun l4 => if kindH l4 = "end" then .ok l4 else synE l4, ?_, ?_⟩
    · refine ⟨_, rfl, S, dx1, _, rfl, e1, rfl, S, L, d, ts, l1, "kinds", rfl, rg1, fun hz => ⟨false, rfl, iteE rfl ⟨(by show 0 ≤ sizeLine; decide), fun v hv => ?_⟩⟩, fun hz H2 b2 rg2 => ⟨true, rfl, iteS rfl ?_⟩⟩
      · rw [if_neg (by rw [hz]; decide)] at eq1
        have s2 := same_new (o := .tup []) hv
        exact ⟨_, l1, rfl, b1.trans (.of s2), rg1.same s2, eq1⟩
      · rw [if_pos hz] at eq1
        obtain ⟨dx2, i2, e2⟩ := rg2.ins
        refine ⟨_, rfl, S, dx2, _, rfl, e2, rfl, S, L, d, ts, l1.tail, rfl, rg2, fun l2 h2 v H3 b3 rg3 => ?_, fun e h2 => (k2 e (by rw [eq1, h2]; rfl)).bt (b1.trans b2)⟩
        rw [h2] at eq1
        exact ⟨v, l2, rfl, (b1.trans b2).trans b3, rg3, eq1⟩
    clear eq1
    rintro σ H2 ⟨v, l2, rfl, b2, rg2, eq2⟩
    refine ⟨(by show 0 ≤ sizeLine; decide), fun X' hX => ?_⟩
    have lg : LsG C S L X' d ts H (upd H2 X' (.lst [])) l2.length l2 := .new b2 rg2 hX (by have := rg2.len; show 0 + _ ≤ _; omega)
    refine ⟨fun m σ H' => ∃ (l3 : Tl), m = l3.length ∧ σ = [some (.ref S), some u, some v, some (.ref X'), none] ∧ LsG C S L X' d ts H H' l3.length l3 ∧ rProgram l = andR (rLoop (isW "keep") rExpr l3.length l3) fun l3 => andR (rLoop (isW "def") rFunction l3.length l3) fun l4 => if kindH l4 = "end" then .ok l4 else synE l4, ⟨_, l2, rfl, rfl, lg, eq2⟩, ?_⟩
    rintro m σ H5 ⟨l5, rfl, rfl, lg5, eq5⟩
    obtain ⟨dx5, i5, e5⟩ := lg5.rg.ins
    rw [show rLoop (isW "keep") rExpr l5.length l5 = _ from loop_eq suf_expr cnk l5] at eq5
    refine ⟨_, rfl, S, dx5, _, rfl, e5, rfl, S, L, d, ts, l5, "keep", rfl, lg5.rg, fun hz5 => ⟨false, rfl, iteF ?_⟩, fun hz5 H6 b6 rg6 => ⟨true, rfl, iteT ?_⟩⟩
    case refine_2 =>
      rw [if_pos hz5] at eq5
      have lt5 := isW_lt hz5
      have lg6 := lg5.read b6 rg6
      obtain ⟨dx6, i6, e6⟩ := lg6.rg.ins
      obtain ⟨ys, eX6, _⟩ := lg6.lst
      refine ⟨fun σ' H' => ∃ (l7 : Tl), l7.length < l5.length ∧ σ' = [some (.ref S), some u, some v, some (.ref X'), none] ∧ LsG C S L X' d ts H H' l7.length l7 ∧ rProgram l = andR (rLoop (isW "keep") rExpr l7.length l7) fun l3 => andR (rLoop (isW "def") rFunction l3.length l3) fun l4 => if kindH l4 = "end" then .ok l4 else synE l4, fun σ' H' ⟨l7, u0, u1, u2, u3⟩ => ⟨l7.length, u0, l7, rfl, u1, u2, u3⟩, ?_⟩
      rw [andR_assoc] at eq5
      refine ⟨_, rfl, .inl ⟨rfl, _, SqL.of eX6⟩, _, rfl, S, dx6, _, rfl, e6, rfl, S, L, d, ts, l5.tail, rfl, lg6.rg, fun l7 h7 v7 H7 b7 rg7 => ?_, fun e h7 => (k2 e (by rw [eq5, h7]; rfl)).bt lg6.bt⟩
      have n7 := (suf_expr _ _ h7).length_le
      have lg7 := (lg6.read b7 rg7).le (m := l7.length + 1) (by omega)
      have eX7 := b7 _ _ eX6 lg6.2.1.2.1
      rw [h7] at eq5
      obtain ⟨zs, eZ, lz⟩ := lg7.lst
      rw [eX7] at eZ
      cases eZ
      refine ⟨X', _, _, rfl, rfl, eX7, Nat.lt_of_le_of_lt (show ys.length ≤ 1000002 by omega) (by decide), l7, by omega, rfl, lg7.put eX7 v7, eq5⟩
    rw [if_neg (by rw [hz5]; decide)] at eq5
    replace eq5 : rProgram l = andR (rLoop (isW "def") rFunction l5.length l5) fun l4 => if kindH l4 = "end" then .ok l4 else synE l4 := eq5
    obtain ⟨ks, eK5, _⟩ := lg5.lst
    refine ⟨(by show 0 ≤ sizeLine; decide), fun Y hY => ?_⟩
    have XY : X' ≠ Y := ne_of_none eK5 hY
    have lgY : LsG C S L Y d ts H (upd H5 Y (.lst [])) l5.length l5 := .new lg5.bt lg5.rg hY (by have := lg5.rg.len; show 0 + _ ≤ _; omega)
    have eKY : upd H5 Y (.lst []) X' = some (.lst ks) := by rw [upd_ne XY]; exact eK5
    refine ⟨fun m σ H' => ∃ (l3 : Tl), m = l3.length ∧ σ = [some (.ref S), some u, some v, some (.ref X'), some (.ref Y)] ∧ LsG C S L Y d ts H H' l3.length l3 ∧ H' X' = some (.lst ks) ∧ rProgram l = andR (rLoop (isW "def") rFunction l3.length l3) fun l4 => if kindH l4 = "end" then .ok l4 else synE l4, ⟨_, l5, rfl, rfl, lgY, eKY, eq5⟩, ?_⟩
    clear eq5 e5 hz5
    rintro m σ H6 ⟨l6, rfl, rfl, lg6, eK6, eq6⟩
    obtain ⟨dx6, i6, e6⟩ := lg6.rg.ins
    rw [show rLoop (isW "def") rFunction l6.length l6 = _ from loop_eq function3.u cnd l6] at eq6
    have XS : X' ≠ S := lg5.2.1.2.1
    refine ⟨_, rfl, S, dx6, _, rfl, e6, rfl, S, L, d, ts, l6, "def", rfl, lg6.rg, fun hz6 => ⟨false, rfl, iteF ?_⟩, fun hz6 H7 b7 rg7 => ⟨true, rfl, iteT ?_⟩⟩
    case refine_2 =>
      rw [if_pos hz6] at eq6
      have lt6 := isW_lt hz6
      have lg7 := lg6.read b7 rg7
      obtain ⟨dx7, i7, e7⟩ := lg7.rg.ins
      obtain ⟨ys, eX7, _⟩ := lg7.lst
      refine ⟨fun σ' H' => ∃ (l7 : Tl), l7.length < l6.length ∧ σ' = [some (.ref S), some u, some v, some (.ref X'), some (.ref Y)] ∧ LsG C S L Y d ts H H' l7.length l7 ∧ H' X' = some (.lst ks) ∧ rProgram l = andR (rLoop (isW "def") rFunction l7.length l7) fun l4 => if kindH l4 = "end" then .ok l4 else synE l4, fun σ' H' ⟨l7, u0, u1, u2, u3, u4⟩ => ⟨l7.length, u0, l7, rfl, u1, u2, u3, u4⟩, ?_⟩
      rw [andR_assoc] at eq6
      refine ⟨_, rfl, .inl ⟨rfl, _, SqL.of eX7⟩, _, rfl, S, dx7, _, rfl, e7, rfl, S, L, d, ts, l6.tail, rfl, lg7.rg, hd, fun l8 h8 v8 H8 b8 rg8 => ?_, fun e h8 => (k2 e (by rw [eq6, h8]; rfl)).bt lg7.bt⟩
      have n8 := (function3.u _ _ h8).length_le
      have lg8 := (lg7.read b8 rg8).le (m := l8.length + 1) (by omega)
      have eX8 := b8 _ _ eX7 lg7.2.1.2.1
      have eK8 := b8 _ _ (b7 _ _ eK6 XS) XS
      rw [h8] at eq6
      obtain ⟨zs, eZ, lz⟩ := lg8.lst
      rw [eX8] at eZ
      cases eZ
      refine ⟨Y, _, _, rfl, rfl, eX8, Nat.lt_of_le_of_lt (show ys.length ≤ 1000002 by omega) (by decide), l8, by omega, rfl, lg8.put eX8 v8, by rw [upd_ne XY]; exact eK8, eq6⟩
    rw [if_neg (by rw [hz6]; decide)] at eq6
    replace eq6 : rProgram l = if kindH l6 = "end" then .ok l6 else synE l6 := eq6
    refine ⟨_, rfl, S, dx6, _, rfl, e6, rfl, S, L, d, ts, l6, rfl, lg6.rg, fun p hp => ⟨p, _, _, _, rfl, rfl, SqT.of hp, rfl, rfl, _, rfl, ?_⟩⟩
    by_cases he : kindH l6 = "end"
    case neg =>
      rw [if_neg he] at eq6
      refine iteS (by rw [dec_str, decide_eq_false he]; rfl) ?_
      refine ⟨_, rfl, S, dx6, _, rfl, e6, rfl, S, L, d, ts, l6, rfl, lg6.rg, fun p hp => ⟨p, _, _, _, rfl, rfl, SqT.of hp, rfl, ?_⟩⟩
      exact ⟨_, rfl, fun d' hd => k2 (.syn (posH l6)) eq6 d' H6 lg6.bt hd⟩
    rw [if_pos he] at eq6
    refine iteE (by rw [dec_str, decide_eq_true he]; rfl) ?_
    obtain ⟨ys, eY6, _⟩ := lg6.lst
    refine ⟨_, rfl, _, rfl, _, rfl, X', _, rfl, .inl ⟨SqL.of eK6, fun k1' hk1 => ?_⟩⟩
    have s8 := same_new (o := .tup ks) hk1
    refine ⟨_, rfl, Y, _, rfl, .inl ⟨SqL.of (s8 _ _ eY6), fun q1 hq1 => ⟨(by show 4 ≤ sizeLine; decide), fun t1 ht1 => ?_⟩⟩⟩
    have s9 := same_new (o := .tup ys) hq1
    have s10 := same_new (o := .tup [u, v, .ref k1', .ref q1]) ht1
    have s11 := (s8.trans s9).trans s10
    exact k1 _ eq6 _ _ (lg6.bt.trans (.of s11)) (lg6.rg.same s11)
end

/-! ### k05: parse, with its errors -/
theorem tkz_len {t : List Nat} {a : Nat} {ts : List TK} (h : Tkz t a ts) : ts.length + a ≤ t.length + 1 := by
  induction h with
  | fin h => subst h; show 1 + _ ≤ _; omega
  | gap _ _ _ ih => omega
  | sign _ _ _ ih => rw [List.length_cons]; omega
  | word _ _ _ lt _ _ ih => rw [List.length_cons]; omega
  | bad h _ _ _ =>
    have := (List.getElem?_eq_some_iff.mp h).1
    show 1 + _ ≤ _
    omega
theorem EndT.one {k : TK} (h : k.1 = "end" ∨ k.1 = "bad") : EndT [k] := ⟨[], k, rfl, (fun _ z => nomatch z), h⟩
theorem EndT.cons {x : TK} {l : Tl} (h : EndT l) (h1 : x.1 ≠ "end") (h2 : x.1 ≠ "bad") : EndT (x :: l) := by
  obtain ⟨P, k, rfl, hP, hk⟩ := h
  refine ⟨x :: P, k, rfl, fun y hy => ?_, hk⟩
  rcases List.mem_cons.mp hy with rfl | z
  · exact ⟨h1, h2⟩
  · exact hP y z
theorem kind_end (w : Str) : kindOf w ≠ "end" := by
  unfold kindOf
  repeat' split
  all_goals decide +kernel
theorem tkz_end {t : List Nat} {a : Nat} {ts : List TK} (h : Tkz t a ts) : EndT ts := by
  induction h with
  | fin h => exact .one (.inl rfl)
  | gap _ _ _ ih => exact ih
  | sign _ _ _ ih => exact ih.cons (by show ("mark" : Str) ≠ "end"; decide +kernel) (by show ("mark" : Str) ≠ "bad"; decide +kernel)
  | word _ _ _ _ k _ ih => exact ih.cons (kind_end _) k
  | bad _ _ _ _ => exact .one (.inr rfl)
/-- no text -/
def NoStr (K : PySem.W.Frag) (H : Hp) (v : V) : Prop := ∃ ty, TyX K H v ty ∧ PySem.W.kitOne K ty (.type "str") = some false
def ErS (CS CT : Addr) (H : Hp) (E : XK) : RdE → Prop
  | .syn p => ∀ d' H', Same H H' → H' d' = none → E (.ref CS) (some d') (upd H' d' (.xd [("position", .int (p : Nat))]))
  | .large w => ∀ d' H', Same H H' → H' d' = none → E (.ref CT) (some d') (upd H' d' (.xd [("word", .str w)]))
def spParseG (K : PySem.W.Frag) (CS CT CV : Addr) : Sp := fun vs H Q E => ∃ v : V, vs = [v] ∧ ((∃ (z : Str) (ts : Tl), v = .str z ∧ z.length ≤ 1000000 ∧ Tkz (TL.tl z) 0 ts ∧ TsOk ts ∧ (∀ l', rProgram ts = .ok l' → ∀ (x : V) (H' : Hp), Same H H' → Q x H') ∧ ∀ e, rProgram ts = .error e → ErS CS CT H E e) ∨
  (NoStr K H v ∧ ∀ d' H', Same H H' → H' d' = none → E (.ref CV) (some d') (upd H' d' (.xd [("value", v)]))))
section
variable {P : Program} {w : World} {K : PySem.W.Frag} {mg : Str → Option Value} {base : Heap} {C : Addr} {C' : Nat → Addr}
theorem ok_ParseG {f : Addr} {fd : FuncData} (F : Fun K "parse" "parse" sParse f fd) (ni : mg "isinstance" = none) (ns : mg "str" = none) (TR : TxR K C) (X : ErrH P w K mg base C') (HC : HasC P w K mg base CX0 3 "Reader" C PRIni (spRIni C)) (MP : HasM P w K mg base (L2N.CX P w) (9 + 3 * 30 + 1 + 1) C "read_program" PRPrg (spRdD (C' 1) (C' 2) C 30 rProgram)) :
    FnOk P w K mg base (L2N.CX P w) (9 + 3 * 30 + 1 + 1 + 1) f fd PParse (spParseG K (C' 1) (C' 2) (C' 0)) := by
  refine Fun.okN F scParse (fun vs H Q E h => ?_) (fun cdv A outer s H vs Q E hr h => ?_)
  · obtain ⟨v, rfl, _⟩ := h
    rfl
  · obtain ⟨v, rfl, h⟩ := h
    have hr4 := hr.mono (j := 4) (by omega)
    have T : mg "isinstance" = none ∧ mg "str" = none := ⟨ni, ns⟩
    have tk := L2N.takes_of (X := cxOf (L2N.CX P w) P w K mg base NParse "parse" (defScope sParse) f cdv A outer s H E) (E := E) rfl rfl rfl rfl
    refine ⟨_, (pss_cons (ps_if (pt_not (pt_val (pe_callB call_isi (by rfl) T.1 bb_isinstance (pa_cons (pv 0) (pa_cons (pe_bltn (v := .ty "str") (by rfl) T.2 bb_str rfl) pa_nil)))))
  (pss_one (ps_raiseX rfl tk X.h0 (hr.mono (by decide)) rfl (pa_cons (pv 0) pa_nil)))
  pss_nil)
  (pss_one (ps_ret (pe_methH0 (pe_makeH HC hr4 rfl pass0 (pa_cons (pv 0) pa_nil)) TR.cl MP hr (fun pins σ H1 s1 e s' I c => L2N.passAt tk σ pins H1 s1 e s' I c))))), ?_⟩
    rcases h with ⟨z, ts, rfl, hz, ht, ho, k1, k2⟩ | ⟨⟨ty, h1, h2⟩, k⟩
    case inr =>
      refine ⟨_, rfl, _, _, _, _, _, rfl, .ty _, h1, h2, _, rfl, iteS rfl ?_⟩
      exact ⟨_, rfl, _, rfl, fun d' hd' => k d' H (fun _ _ e => e) hd'⟩
    have ht : Tkz z.cps.toList 0 ts := ht
    refine ⟨_, rfl, _, _, _, _, _, rfl, .ty _, .base (.str z), kit_ty (r := true) (by decide +kernel), _, rfl, iteE rfl ?_⟩
    refine ⟨_, rfl, fun x dx hx hdx hne => ⟨x, dx, z, ts, rfl, upd_same, hz, ht, ho.len, fun L H1 b1 ra1 => ⟨rfl, ?_⟩⟩⟩
    obtain ⟨dy, _, e1, _⟩ := id ra1
    have same : ∀ H2, Bt x H1 H2 → Same H H2 := fun H2 b2 b o e => by
      have bx : b ≠ x := fun q => by rw [q, hx] at e; cases e
      have bd : b ≠ dx := fun q => by rw [q, hdx] at e; cases e
      exact b2 _ _ (b1 _ _ (by rw [upd_ne bx, upd_ne bd]; exact e) bx) bx
    refine ⟨x, dy, _, rfl, e1, rfl, x, L, 0, ts, ts, rfl, ⟨0, ra1, rfl, tkz_end ht, ho⟩, rfl, fun l' h1 v H2 b2 rg2 => k1 l' h1 v H2 (same H2 b2), fun e h1 => ?_⟩
    have k2 := k2 e h1
    cases e with
    | syn p => exact fun d' H' b' n' => k2 d' H' (same H' b') n'
    | large q => exact fun d' H' b' n' => k2 d' H' (same H' b') n'
end

/-! ### text += text; sign * n -/
section
variable {X : Cx}
theorem ip_addS : PIp X .Add (fun x y H Q => ∃ i j, x = .str i ∧ y = .str j ∧ i.length + j.length ≤ sizeLine ∧ Q (.str (i ++ j)) H) := by
  intro pins s σ H x y v u Q I r1 r2 h
  obtain ⟨i, j, e1, e2, hz, q⟩ := h
  subst e1; subst e2
  obtain ⟨t, rfl⟩ := r1
  obtain ⟨t', rfl⟩ := r2
  exact SB.iadd (fun t' k => ⟨.str _, H, I.tok _, ⟨_, rfl⟩, q⟩) hz
theorem fold_rep (c : Nat) : ∀ (n : Nat) (acc : Array Nat), (List.replicate n (#[c] : Array Nat)).foldl (· ++ ·) acc = acc ++ (List.replicate n c).toArray
  | 0, acc => by simp
  | n + 1, acc => by
    rw [List.replicate_succ, List.foldl_cons, fold_rep c n, List.replicate_succ]
    apply Array.ext'
    simp
theorem op_repS : OpR X (binaryOp .Mult) (fun x y H Q => ∃ (c n : Nat), x = .str ⟨#[c]⟩ ∧ y = .int (n : Nat) ∧ n ≤ 1000 ∧ Q (.str ⟨(List.replicate n c).toArray⟩) H) := by
  intro pins s σ H x y v u Q I rx ry h
  obtain ⟨c, n, rfl, rfl, hn, q⟩ := h
  obtain ⟨t, rfl⟩ := rx
  obtain ⟨t', rfl⟩ := ry
  have e1 : ((⟨#[c]⟩ : Str)).length = 1 := rfl
  refine P.mul_str (by rw [decide_eq_false (by omega), decide_eq_false (by omega)]; rfl) (fun h1 h2 => ?_) (fun h1 h2 => ?_) ?_
  · rw [e1]
    have : (1 : Int) ≤ (2 ^ 63 - 1) / (n : Int) := by
      rw [Int.le_ediv_iff_mul_le (by omega)]
      omega
    omega
  · rw [e1]
    unfold Builtin.Str.tooLong
    refine decide_eq_false ?_
    rw [Int.toNat_natCast, Nat.one_mul]
    show ¬ n > 2 ^ 24
    omega
  · rcases Nat.lt_or_ge n 1 with h0 | h0
    · have en : n = 0 := by omega
      subst en
      rw [if_pos (by decide)]
      exact ⟨by decide, .str _, H, I.tok _, ⟨_, rfl⟩, q⟩
    · rw [if_neg (by omega)]
      rcases Nat.lt_or_ge n 2 with h1 | h1
      · have en : n = 1 := by omega
        subst en
        rw [if_pos (show (((1 : Nat) : Int) == 1 || _) = true from rfl)]
        exact ⟨.str _, H, I, ⟨_, rfl⟩, q⟩
      · have e2 : (((n : Nat) : Int) == 1 || (⟨#[c]⟩ : Str).length == 0) = false := by
          rw [e1]
          have : (((n : Nat) : Int) == 1) = false := by rw [beq_eq_false_iff_ne]; omega
          rw [this]
          rfl
        rw [if_neg (by rw [e2]; decide), Int.toNat_natCast]
        have e3 : (⟨(List.replicate n (⟨#[c]⟩ : Str).cps).foldl (· ++ ·) #[]⟩ : Str) = ⟨(List.replicate n c).toArray⟩ := by
          show (⟨(List.replicate n (#[c] : Array Nat)).foldl (· ++ ·) #[]⟩ : Str) = _
          rw [fold_rep, Array.empty_append]
        rw [e3]
        refine ⟨?_, .str _, H, I.tok _, ⟨_, rfl⟩, q⟩
        show (List.replicate n c).toArray.size ≤ 2 ^ 24
        rw [List.size_toArray, List.length_replicate]
        omega
end

/-! ### _law_names -/
abbrev sNames : Stmt := topS 22
abbrev NNames : List Str := ["_law_pool_here", "_law_letter", "_law_shift", "_law_k"]
abbrev PNames : List Str := ["_law_pool_here"]
theorem scNames : FnScope NNames PNames (defScope sNames) := ⟨rfl, rfl, rfl, by decide +kernel, rfl, by decide +kernel, by decide +kernel⟩
def nm (c : Nat) (i : Int) : Str := (⟨#[c]⟩ : Str) ++ ((toString i : String) : Str)
/-- a list of names as _law_names gives it -/
structure NamesOk (ns : List Str) : Prop where
  nd : ns.Nodup
  name : ∀ n ∈ ns, isName n = true
  len : ∀ n ∈ ns, n.length ≤ 3
  two : ∀ n ∈ ns, 2 ≤ n.length
theorem dig_facts : ∀ k : Fin 16, ((toString ((k.val : Nat) : Int) : String) : Str).cps.toList ≠ [] ∧ (∀ c ∈ ((toString ((k.val : Nat) : Int) : String) : Str).cps.toList, c ∈ DIG.cps.toList) ∧ ((toString ((k.val : Nat) : Int) : String) : Str).cps.toList.length ≤ 2 := by decide +kernel
theorem dig_inj : ∀ k j : Fin 16, ((toString ((k.val : Nat) : Int) : String) : Str) = ((toString ((j.val : Nat) : Int) : String) : Str) → k = j := by decide +kernel
theorem mod_inj : ∀ s k j : Fin 16, (7 * k.val + s.val) % 16 = (7 * j.val + s.val) % 16 → k = j := by decide +kernel
theorem kws_let : ∀ k ∈ KWS, ∀ c ∈ k.cps.toList, c ∈ LET.cps.toList := by decide +kernel
theorem let_dig : ∀ c ∈ DIG.cps.toList, c ∉ LET.cps.toList := by decide +kernel
theorem nm_list (c : Nat) (i : Int) : (nm c i).cps.toList = c :: ((toString i : String) : Str).cps.toList := by
  show (#[c] ++ ((toString i : String) : Str).cps).toList = _
  simp
theorem nm_name {c : Nat} (hc : c ∈ LET.cps.toList) {i : Int} (h0 : 0 ≤ i) (h1 : i < 16) : isName (nm c i) = true ∧ (nm c i).length ≤ 3 := by
  have e : i = (((⟨i.toNat, by omega⟩ : _root_.Fin 16).val : Nat) : Int) := by
    show i = ((i.toNat : Nat) : Int)
    omega
  obtain ⟨d1, d2, d3⟩ := dig_facts ⟨i.toNat, by omega⟩
  rw [← e] at d1 d2 d3
  have hl := nm_list c i
  have h0 : (nm c i).cps.toList[0]? = some c := by rw [hl]; rfl
  constructor
  · rw [isName_at h0, hl]
    simp only [Bool.and_eq_true, decide_eq_true_eq, Bool.not_eq_true']
    refine ⟨⟨hc, ?_⟩, ?_⟩
    · rw [List.all_eq_true]
      intro x hx
      unfold al
      simp only [Bool.or_eq_true, decide_eq_true_eq]
      rcases List.mem_cons.mp hx with q | q
      · rw [q]; exact .inl hc
      · exact .inr (d2 x q)
    · cases q : inV (.str (nm c i)) (KWS.map V.str) with
      | false => rfl
      | true =>
        unfold inV at q
        obtain ⟨v, hv, q⟩ := List.any_eq_true.mp q
        obtain ⟨k, hk, rfl⟩ := List.mem_map.mp hv
        have q : k = nm c i := by
          have q : (k == nm c i) = true := q
          simpa using q
        obtain ⟨x, hx⟩ := List.exists_mem_of_ne_nil _ d1
        exact absurd (kws_let k hk x (by rw [q, hl]; exact List.mem_cons_of_mem _ hx)) (let_dig x (d2 x hx))
  · show (nm c i).cps.size ≤ 3
    rw [← Array.length_toList, hl, List.length_cons]
    omega
theorem nm_inj {c : Nat} {i j : Int} (i0 : 0 ≤ i) (i1 : i < 16) (j0 : 0 ≤ j) (j1 : j < 16) (h : nm c i = nm c j) : i = j := by
  have q : ((toString i : String) : Str).cps.toList = ((toString j : String) : Str).cps.toList := by
    have z := congrArg (fun z : Str => z.cps.toList) h
    simp only [nm_list] at z
    exact (List.cons.inj z).2
  have e : ((toString i : String) : Str) = ((toString j : String) : Str) := by
    have z := congrArg List.toArray q
    simp only [Array.toArray_toList] at z
    cases hx : ((toString i : String) : Str) with
    | mk a =>
      cases hy : ((toString j : String) : Str) with
      | mk b =>
        rw [hx, hy] at z
        rw [show a = b from z]
  have ei : i = (((⟨i.toNat, by omega⟩ : _root_.Fin 16).val : Nat) : Int) := by
    show i = ((i.toNat : Nat) : Int)
    omega
  have ej : j = (((⟨j.toNat, by omega⟩ : _root_.Fin 16).val : Nat) : Int) := by
    show j = ((j.toNat : Nat) : Int)
    omega
  rw [ei, ej] at e
  have f := congrArg Fin.val (dig_inj _ _ e)
  have f : i.toNat = j.toNat := f
  omega
def nms (c : Nat) (s : Int) (n : Nat) : List Str := (List.range n).map fun k => nm c ((7 * (k : Nat) + s) % 16)
theorem nms_ok {c : Nat} (hc : c ∈ LET.cps.toList) {s : Int} (s0 : 0 ≤ s) (s1 : s < 16) {n : Nat} (hn : n ≤ 16) : NamesOk (nms c s n) := by
  have b : ∀ k : Nat, 0 ≤ (7 * (k : Int) + s) % 16 ∧ (7 * (k : Int) + s) % 16 < 16 := fun k => ⟨Int.emod_nonneg _ (by decide), Int.emod_lt_of_pos _ (by decide)⟩
  refine ⟨?_, fun x hx => ?_, fun x hx => ?_, fun x hx => ?_⟩
  · unfold nms
    rw [List.nodup_iff_pairwise_ne, List.pairwise_map]
    refine List.Pairwise.imp_of_mem (fun {i j} hi hj hne z => hne ?_) List.nodup_range
    have hi := List.mem_range.mp hi
    have hj := List.mem_range.mp hj
    have q := nm_inj (b i).1 (b i).2 (b j).1 (b j).2 z
    have m := mod_inj ⟨s.toNat, by omega⟩ ⟨i, by omega⟩ ⟨j, by omega⟩ (by show (7 * i + s.toNat) % 16 = (7 * j + s.toNat) % 16; omega)
    exact congrArg Fin.val m
  · obtain ⟨k, _, rfl⟩ := List.mem_map.mp hx
    exact (nm_name hc (b k).1 (b k).2).1
  · obtain ⟨k, _, rfl⟩ := List.mem_map.mp hx
    exact (nm_name hc (b k).1 (b k).2).2
  · obtain ⟨k, _, rfl⟩ := List.mem_map.mp hx
    have e : (7 * (k : Int) + s) % 16 = (((⟨((7 * (k : Int) + s) % 16).toNat, by have := b k; omega⟩ : _root_.Fin 16).val : Nat) : Int) := by
      show _ = ((((7 * (k : Int) + s) % 16).toNat : Nat) : Int)
      have := b k
      omega
    obtain ⟨d1, _, _⟩ := dig_facts ⟨((7 * (k : Int) + s) % 16).toNat, by have := b k; omega⟩
    rw [← e] at d1
    show 2 ≤ (nm c ((7 * (k : Int) + s) % 16)).cps.size
    rw [← Array.length_toList, nm_list, List.length_cons]
    have := List.length_pos_iff.mpr d1
    omega
def spNames : Sp := fun vs H Q _ => ∃ (p c : Addr) (lim : V) (n : Nat), vs = [.ref p] ∧ PoolAt H p c lim n ∧ n < 100000000000 ∧
  ∀ (q : Addr) (ns : List Str) (H' : Hp), NamesOk ns → ns.length = 16 → PoolAt H' p c lim (n + 2) → But p c H H' → H q = none → H' q = some (.lst (ns.map V.str)) → Q (.ref q) H'
structure TxNames (mg : Str → Option Value) : Prop where
  n_str : mg "str" = none
  n_range : mg "range" = none
section
variable {P : Program} {w : World} {K : PySem.W.Frag} {mg : Str → Option Value} {base : Heap}
theorem log2_small {i : Int} (h0 : 0 ≤ i) (h1 : i < 16) : i.natAbs.log2 < 1920 := by
  have : i.natAbs.log2 ≤ i.natAbs := Nat.log2_le_self _
  omega
theorem ok_Names {f : Addr} {fd : FuncData} (F : Fun K "_law_names" "_law_names" sNames f fd) (T : TxNames mg) (GD : Has P w K mg base CX0 2 "_law_draw" PDraw spDraw) : FnOk P w K mg base CX0 3 f fd PNames spNames := by
  refine F.ok scNames (fun vs H Q E h => ?_) (fun cdv A outer s H vs Q E hr h => ?_)
  · obtain ⟨p, c, lim, n, rfl, _⟩ := h
    rfl
  · obtain ⟨p, c, lim, n, rfl, P0, hn, k⟩ := h
    refine ⟨_, (pss_cons (ps_set (i := 1) scNames.nd rfl (Or.inr rfl) (pe_ix ix_str pe_str (pe_callH GD hr rfl pass0 (pa_cons (pv 0) (pa_cons pe_int pa_nil))) (fun _ _ => rfl)))
  (pss_cons (ps_set (i := 2) scNames.nd rfl (Or.inr rfl) (pe_callH GD hr rfl pass0 (pa_cons (pv 0) (pa_cons pe_int pa_nil))))
  (pss_one (ps_ret (pe_lc (own := [("_law_k", 3)]) (g := gName 3) (tt := tYes) rfl scNames.nd (pi_range1 (by rfl) T.n_range (pa_cons pe_int pa_nil)) (blkOk_by (own := [("_law_k", 3)]) (N := NNames) (sc := (defScope sNames)) (by decide +kernel)) (fun _ _ _ _ _ => (pg_name (i := 3) scNames.nd rfl (Or.inl rfl))) (fun _ _ _ _ _ => pts_nil) (fun _ _ _ _ _ => (pe_op op_add_str (pv 1) (pe_callTy call_str_int (by rfl) T.n_str bb_str (pa_cons (pe_op op_mod (pe_op op_add (pe_op op_mul pe_int (pv 3)) (pv 2)) pe_int) pa_nil))))))))), ?_⟩
    refine ⟨_, rfl, p, c, lim, n, 26, rfl, P0, by omega, by decide, by decide, fun r H1 r0 r1 P1 b1 => ?_⟩
    obtain ⟨lc, hlc, mlc⟩ := atI_in (xs := LET.cps.toList) r0 (by rw [show LET.cps.toList.length = 26 by decide +kernel]; exact r1)
    refine ⟨_, _, lc, rfl, rfl, by decide +kernel, hlc, ?_⟩
    refine ⟨_, rfl, p, c, lim, n + 1, 16, rfl, P1, by omega, by decide, by decide, fun sh H2 s0 s1 P2 b2 => ?_⟩
    refine ⟨16, rfl, by decide, by decide, fun D hD => ?_⟩
    have Dp := P2.ne1 hD
    have Dc := P2.ne2 hD
    refine lc_range (lo := 0) (n := 16) (fun i H' => Same H2 H' ∧ H' D = some (.lst ((nms lc sh i).map V.str))) ⟨same_new hD, upd_same⟩ ?_ ?_
    · rintro i H3 hi ⟨s3, e3⟩
      have b : 0 ≤ (7 * (0 + (i : Int)) + sh) % 16 ∧ (7 * (0 + (i : Int)) + sh) % 16 < 16 := ⟨Int.emod_nonneg _ (by decide), Int.emod_lt_of_pos _ (by decide)⟩
      refine ⟨rfl, _, rfl, _, rfl, _, _, rfl, rfl, .inl ⟨by decide, by decide⟩, _, rfl, _, _, rfl, rfl, _, _, rfl, rfl, (show (0 : Int) < 16 by decide), _, rfl, log2_small b.1 b.2, _, _, rfl, rfl, ?_, _, e3, small1000 ?_, fun b o z => ?_, ?_⟩
      · have q := (nm_name mlc b.1 b.2).2
        unfold nm at q
        rw [str_app_len] at q
        exact Nat.le_trans q (by decide)
      · unfold nms
        rw [List.length_map, List.length_map, List.length_range]
        omega
      · rw [upd_ne (ne_of_none z hD)]
        exact s3 b o z
      · rw [upd_same]
        unfold nms
        rw [List.range_succ, List.map_append, List.map_append]
        show some (HO.lst (_ ++ [V.str (nm lc ((7 * (0 + (i : Int)) + sh) % 16))])) = _
        rw [Int.zero_add]
        rfl
    · rintro H3 ⟨s3, e3⟩
      have hD0 : H D = none := by
        cases q : H D with
        | none => rfl
        | some o => rw [b2 D o (b1 D o q Dp Dc) Dp Dc] at hD; cases hD
      refine k D _ H3 (nms_ok mlc s0 s1 (Nat.le_refl 16)) (by unfold nms; rw [List.length_map, List.length_range]) (P2.same s3) (fun b o z h1 h2 => s3 b o (b2 b o (b1 b o z h1 h2) h1 h2)) hD0 e3
end


/-! ### show, the plain part -/
def numS (n : Nat) : Str := Str.ofString (toString ((n : Nat) : Int))
def termS (nm : Str) (f : Int) : Str := if f.natAbs = 1 then nm else Str.empty ++ numS f.natAbs ++ "*" ++ nm
def sepS (b : Bool) : Str := if b = true then " - " else " + "
def tailS (t : Str) (ps : List (Bool × Str)) : Str := ps.foldl (fun t p => t ++ (sepS p.1 ++ p.2)) t
def partsS (c : Int) (l : Fac) : List (Bool × Str) := l.map (fun p => (decide (p.2 < 0), termS p.1 p.2)) ++ (if c ≠ 0 ∨ l = [] then [(decide (c < 0), numS c.natAbs)] else [])
def exprZ (c : Int) (l : Fac) : Str := match partsS c l with
  | [] => ""
  | p :: r => tailS (if p.1 = true then "-" ++ p.2 else p.2) r
theorem abs_nat (i : Int) : (if i < 0 then -i else i) = ((i.natAbs : Nat) : Int) := by split <;> omega
theorem log_lt {n : Nat} (h : n < 2 ^ 64) : n.log2 < 1920 := by
  by_cases h0 : n = 0
  · subst h0; decide
  · exact Nat.lt_of_lt_of_le ((Nat.log2_lt h0).mpr h) (by decide)
theorem numS_len {n : Nat} (h : n < 2 ^ 64) : (numS n).length ≤ 65 := by
  unfold numS
  rw [ofString_length]
  refine int_text_length_le (k := 64) (by decide) ?_
  by_cases h0 : n = 0
  · subst h0; decide
  · exact (Nat.log2_lt (by simpa using h0)).mpr (by simpa using h)
theorem len_add (a b : Str) : (a ++ b).length = a.length + b.length := by
  show (a.cps ++ b.cps).size = _
  rw [Array.size_append]
  rfl
theorem if_tC {b : Bool} {u v : Str} {σ : L2.St} {H : Hp} {Q : VK} (h : Q (.str (if b = true then u else v)) H) : if b = true then tC (.str u) σ H Q else tC (.str v) σ H Q := by
  cases b with
  | true => exact h
  | false => exact h
theorem cut_one (xs : List V) : cutV xs (some 1) none = xs.drop 1 := by
  unfold cutV
  have e1 : HT.sIx xs.length 0 (some 1) = min 1 xs.length := HT.sIx_nat ..
  rw [HT.sIx_none, e1]
  cases xs with
  | nil => rfl
  | cons a r =>
    have : min 1 (a :: r).length = 1 := Nat.min_eq_left (Nat.succ_pos _)
    rw [this]
    exact List.take_of_length_le (by rw [List.length_drop]; exact Nat.le_refl _)
theorem tailS_len {X : Str} {n : Nat} (hX : X.length ≤ n) : ∀ (ps : List (Bool × Str)) (_ : ∀ r ∈ ps, r.2.length ≤ 1066), (tailS X ps).length ≤ n + ps.length * 1069 := by
  intro ps
  induction ps generalizing X n with
  | nil => intro _; exact hX
  | cons p r ih =>
    intro h
    have h1 := h p List.mem_cons_self
    have l3 : (sepS p.1).length = 3 := by unfold sepS; split <;> decide +kernel
    have := ih (X := X ++ (sepS p.1 ++ p.2)) (n := n + 1069) (by rw [len_add, len_add, l3]; omega) (fun q hq => h q (List.mem_cons_of_mem _ hq))
    show (tailS (X ++ (sepS p.1 ++ p.2)) r).length ≤ n + (r.length + 1) * 1069
    omega
section
variable {P : Program} {w : World} {K : PySem.W.Frag} {mg : Str → Option Value} {base : Heap} {kw C : Addr}
theorem termS_len {nm : Str} {f : Int} (h1 : nm.length ≤ 1000) (h2 : f.natAbs < 2 ^ 64) : (termS nm f).length ≤ 1066 := by
  unfold termS
  have e1 := numS_len h2
  have l0 : Str.empty.length = 0 := rfl
  have l1 : ("*" : Str).length = 1 := by decide +kernel
  split
  · omega
  · rw [len_add, len_add, len_add, l0, l1]
    omega
def FacOk (l : Fac) : Prop := l.length ≤ 50 ∧ ∀ p ∈ l, p.1.length ≤ 1000 ∧ p.2.natAbs < 2 ^ 64
theorem exprZ_len {c : Int} {l : Fac} (fo : FacOk l) (hc : c.natAbs < 2 ^ 64) : (exprZ c l).length ≤ 60000 := by
  obtain ⟨ll, lo⟩ := fo
  have pl : ∀ r ∈ partsS c l, r.2.length ≤ 1066 := by
    intro r hr'
    unfold partsS at hr'
    rcases List.mem_append.mp hr' with h | h
    · obtain ⟨x, hx, rfl⟩ := List.mem_map.mp h
      exact termS_len (lo x hx).1 (lo x hx).2
    · split at h
      · rw [List.mem_singleton.mp h]
        exact Nat.le_trans (numS_len hc) (by decide)
      · cases h
  have pn : (partsS c l).length ≤ 51 := by
    unfold partsS
    rw [List.length_append, List.length_map]
    split
    · show l.length + 1 ≤ 51; omega
    · show l.length + 0 ≤ 51; omega
  unfold exprZ
  cases e : partsS c l with
  | nil => decide +kernel
  | cons p r =>
    rw [e] at pl pn
    have lm : ("-" : Str).length = 1 := by decide +kernel
    have p0 := pl p List.mem_cons_self
    have := tailS_len (X := if p.1 = true then "-" ++ p.2 else p.2) (n := 1067) (by
      split
      · rw [len_add, lm]; omega
      · omega) r fun z hz => pl z (List.mem_cons_of_mem _ hz)
    have pn : r.length + 1 ≤ 51 := pn
    show (tailS _ r).length ≤ 60000
    omega
theorem joinL_len (S : List Nat) : ∀ ys : List (List Nat), (TL.joinL S ys).length ≤ (ys.map (·.length)).sum + ys.length * S.length
  | [] => Nat.zero_le _
  | [x] => by show x.length ≤ (x.length + 0) + 1 * S.length; omega
  | x :: y :: r => by
    have ih := joinL_len S (y :: r)
    have e : TL.joinL S (x :: y :: r) = x ++ (S ++ TL.joinL S (y :: r)) := rfl
    rw [e, List.length_append, List.length_append, List.map_cons, List.sum_cons, List.length_cons, Nat.succ_mul]
    omega
theorem join_len (a : Str) (ys : List Str) : (Txt.join a ys).length ≤ (ys.map (·.length)).sum + ys.length * a.length := by
  rw [TL.len_tl, TL.join_eq, TL.tl_join]
  have h := joinL_len (TL.tl a) (ys.map TL.tl)
  rw [List.map_map, List.length_map] at h
  rw [TL.len_tl]
  have e : ys.map ((fun x : List Nat => x.length) ∘ TL.tl) = ys.map (·.length) := List.map_congr_left fun z _ => (TL.len_tl z).symm
  rw [e] at h
  exact h
theorem sum_len {ys : List Str} {n : Nat} (h : ∀ y ∈ ys, y.length ≤ n) : (ys.map (·.length)).sum ≤ ys.length * n := by
  induction ys with
  | nil => exact Nat.zero_le _
  | cons y r ih =>
    rw [List.map_cons, List.sum_cons, List.length_cons, Nat.succ_mul]
    have := ih fun z hz => h z (List.mem_cons_of_mem _ hz)
    have := h y List.mem_cons_self
    omega
end


/-! ### the tokens of the law's text -/
abbrev SH := List (Str × Str)
def shOf (ts : List TK) : SH := ts.map fun k => (k.1, k.2.1)
def Tks (t : List Nat) (sh : SH) : Prop := ∀ p : List Nat, ∃ ts : List TK, shOf ts = sh ∧ Tkz (p ++ t) p.length ts
theorem Tks.nil : Tks [] [("end", "")] := fun p => ⟨[(("end", "", p.length) : TK)], rfl, .fin (by rw [List.append_nil])⟩
theorem mid_get (p t : List Nat) (c : Nat) : (p ++ c :: t)[p.length]? = some c := by
  rw [List.getElem?_append_right (Nat.le_refl _), Nat.sub_self]
  rfl
theorem Tks.gap {t : List Nat} {sh : SH} (h : Tks t sh) : Tks (32 :: t) sh := fun p => by
  obtain ⟨ts, e, k⟩ := h (p ++ [32])
  rw [List.append_assoc, List.length_append] at k
  exact ⟨ts, e, .gap (mid_get p t 32) (.inl rfl) k⟩
theorem Tks.gaps {t : List Nat} {sh : SH} (h : Tks t sh) : ∀ n, Tks (List.replicate n 32 ++ t) sh
  | 0 => h
  | n + 1 => (Tks.gaps h n).gap
theorem Tks.sign {t : List Nat} {sh : SH} {c : Nat} (hc : c ∈ SIG.cps.toList) (h : Tks t sh) : Tks (c :: t) (("mark", (⟨#[c]⟩ : Str)) :: sh) := fun p => by
  obtain ⟨ts, e, k⟩ := h (p ++ [c])
  rw [List.append_assoc, List.length_append] at k
  exact ⟨(("mark", ⟨#[c]⟩, p.length) : TK) :: ts, by rw [← e]; rfl, .sign (mid_get p t c) hc k⟩
def NoAl (t : List Nat) : Prop := ∀ c, t[0]? = some c → al c = false
theorem let_plain : ∀ c ∈ LET.cps.toList, c ≠ 32 ∧ c ≠ 10 ∧ c ∉ SIG.cps.toList := by decide +kernel
theorem dig_plain : ∀ c ∈ DIG.cps.toList, c ≠ 32 ∧ c ≠ 10 ∧ c ∉ SIG.cps.toList := by decide +kernel
theorem al_plain {c : Nat} (h : al c = true) : Plain c := by
  unfold al at h
  rw [Bool.or_eq_true, decide_eq_true_eq, decide_eq_true_eq] at h
  rcases h with h | h
  · exact let_plain c h
  · exact dig_plain c h
theorem Tks.word {w t : List Nat} {sh : SH} (hw : w ≠ []) (ha : ∀ c ∈ w, al c = true) (hk : kindOf ⟨w.toArray⟩ ≠ "bad") (hn : NoAl t) (h : Tks t sh) : Tks (w ++ t) ((kindOf ⟨w.toArray⟩, (⟨w.toArray⟩ : Str)) :: sh) := fun p => by
  obtain ⟨ts, e, k⟩ := h (p ++ w)
  rw [List.append_assoc, List.length_append] at k
  have wl : 0 < w.length := List.length_pos_iff.mpr hw
  have cut : cutT (p ++ (w ++ t)) p.length (p.length + w.length) = ⟨w.toArray⟩ := by
    unfold cutT
    rw [List.drop_left, Nat.add_sub_cancel_left, List.take_left]
  have at_w : ∀ x, p.length ≤ x → x < p.length + w.length → (p ++ (w ++ t))[x]? = w[x - p.length]? := fun x h1 h2 => by
    rw [List.getElem?_append_right h1, List.getElem?_append_left (by omega)]
  obtain ⟨c, hc⟩ : ∃ c, w[0]? = some c := ⟨_, List.getElem?_eq_getElem wl⟩
  have run : Run (p ++ (w ++ t)) p.length (p.length + w.length) := by
    refine ⟨by omega, by rw [List.length_append, List.length_append]; omega, fun x h1 h2 => ?_, fun c hc => ?_⟩
    · have hx : x - p.length < w.length := by omega
      exact ⟨_, by rw [at_w x h1 h2]; exact List.getElem?_eq_getElem hx, ha _ (List.getElem_mem hx)⟩
    · rw [List.getElem?_append_right (by omega), Nat.add_sub_cancel_left, List.getElem?_append_right (Nat.le_refl _), Nat.sub_self] at hc
      exact hn c hc
  have tk := Tkz.word (t := p ++ (w ++ t)) (a := p.length) (j := p.length + w.length) (c := c) (by rw [at_w _ (Nat.le_refl _) (by omega), Nat.sub_self]; exact hc) (al_plain (ha c (List.mem_of_getElem? hc))) run (by omega) (by rw [cut]; exact hk) k
  rw [cut] at tk
  exact ⟨_, by rw [← e]; rfl, tk⟩
theorem str_tl (z : Str) : (⟨(TL.tl z).toArray⟩ : Str) = z := TL.ext_tl rfl
/-- a name -/
theorem name_al {x : Str} (h : isName x = true) : TL.tl x ≠ [] ∧ (∀ c ∈ TL.tl x, al c = true) ∧ kindOf x = "name" := by
  unfold isName at h
  cases e : x.cps.toList with
  | nil => rw [e] at h; cases h
  | cons c r =>
    rw [e] at h
    simp only [Bool.and_eq_true, decide_eq_true_eq, Bool.not_eq_true'] at h
    obtain ⟨⟨h1, h2⟩, h3⟩ := h
    refine ⟨by rw [show TL.tl x = c :: r from e]; simp, fun d hd => ?_, ?_⟩
    · rw [show TL.tl x = c :: r from e] at hd
      exact List.all_eq_true.mp h2 d hd
    · unfold kindOf
      rw [h3, if_neg (by decide), e]
      simp only
      rw [if_pos h1]
theorem tks_name {x : Str} {t : List Nat} {sh : SH} (hx : isName x = true) (hn : NoAl t) (h : Tks t sh) : Tks (TL.tl x ++ t) (("name", x) :: sh) := by
  obtain ⟨h1, h2, h3⟩ := name_al hx
  have := Tks.word h1 h2 (by rw [str_tl, h3]; decide +kernel) hn h
  rw [str_tl, h3] at this
  exact this
/-- a number -/
theorem numL_zero (n : Nat) : ∀ c r, TL.numL n = c :: r → c = 48 → n = 0 := by
  induction n using Nat.strongRecOn with
  | ind n ih =>
    intro c r e h
    by_cases h1 : n < 10
    · rw [TL.numL_lt h1] at e
      injection e with e _
      omega
    · rw [TL.numL_step (by omega)] at e
      cases q : TL.numL (n / 10) with
      | nil => exact absurd q (TL.numL_ne _)
      | cons d s =>
        rw [q] at e
        injection e with e _
        have := ih (n / 10) (by omega) d s q (by rw [e]; exact h)
        omega
theorem dig_mem : ∀ k : Fin 10, 48 + k.val ∈ DIG.cps.toList ∧ 48 + k.val ∉ LET.cps.toList := by decide +kernel
theorem num_kind (n : Nat) : TL.tl (numS n) ≠ [] ∧ (∀ c ∈ TL.tl (numS n), al c = true) ∧ kindOf (numS n) = "number" := by
  have e : TL.tl (numS n) = TL.numL n := TL.tl_num n
  have dg' : ∀ c ∈ TL.numL n, c ∈ DIG.cps.toList ∧ c ∉ LET.cps.toList := fun c hc => by
    have := TL.numL_digits n c hc
    have q := dig_mem ⟨c - 48, by omega⟩
    have e : 48 + (c - 48) = c := by omega
    rw [show (48 + (⟨c - 48, by omega⟩ : _root_.Fin 10).val) = c from e] at q
    exact q
  refine ⟨by rw [e]; exact TL.numL_ne n, fun c hc => ?_, ?_⟩
  · rw [e] at hc
    unfold al
    rw [decide_eq_true (dg' c hc).1, Bool.or_true]
  · have nk : inV (.str (numS n)) (KWS.map V.str) = false := by
      cases q : inV (.str (numS n)) (KWS.map V.str) with
      | false => rfl
      | true =>
        unfold inV at q
        obtain ⟨v, hv, q⟩ := List.any_eq_true.mp q
        obtain ⟨k, hk, rfl⟩ := List.mem_map.mp hv
        have q : k = numS n := by
          have q : (k == numS n) = true := q
          simpa using q
        obtain ⟨x, hx⟩ := List.exists_mem_of_ne_nil _ (TL.numL_ne n)
        exact absurd (kws_let k hk x (by rw [q]; show x ∈ TL.tl (numS n); rw [e]; exact hx)) (dg' x hx).2
    unfold kindOf
    rw [nk, if_neg (by decide), show (numS n).cps.toList = TL.numL n from e]
    cases q : TL.numL n with
    | nil => exact absurd q (TL.numL_ne n)
    | cons c r =>
      rw [q] at dg'
      simp only
      rw [if_neg (dg' c List.mem_cons_self).2, if_neg, if_neg]
      · rintro ⟨h1, h2⟩
        have z := numL_zero n c r q h1
        subst z
        rw [TL.numL_lt (by decide)] at q
        injection q with _ q
        rw [← q] at h2
        exact absurd h2 (by show ¬ 1 < 1; decide)
      · rw [Bool.not_eq_false, List.all_eq_true]
        intro d hd
        unfold dg
        rw [decide_eq_true (dg' d hd).1]
theorem tks_num {n : Nat} {t : List Nat} {sh : SH} (hn : NoAl t) (h : Tks t sh) : Tks (TL.tl (numS n) ++ t) (("number", numS n) :: sh) := by
  obtain ⟨h1, h2, h3⟩ := num_kind n
  have := Tks.word h1 h2 (by rw [str_tl, h3]; decide +kernel) hn h
  rw [str_tl, h3] at this
  exact this
theorem noAl_gap {t : List Nat} : NoAl (32 :: t) := fun c h => by cases h; decide +kernel
theorem noAl_nil : NoAl [] := fun c h => by cases h
/-! the reading of those tokens -/
theorem sh_at {ts : List TK} {i : Nat} {x : Str × Str} {rest : SH} (h : (shOf ts).drop i = x :: rest) : (∃ a, ts[i]? = some ((x.1, x.2, a) : TK)) ∧ (shOf ts).drop (i + 1) = rest := by
  have h0 : (shOf ts)[i]? = some x := by
    have := congrArg (fun l : SH => l[0]?) h
    simp only [List.getElem?_drop] at this
    exact this
  refine ⟨?_, ?_⟩
  · unfold shOf at h0
    rw [List.getElem?_map] at h0
    cases e : ts[i]? with
    | none => rw [e] at h0; cases h0
    | some tk =>
      rw [e] at h0
      have h0 : (tk.1, tk.2.1) = x := Option.some.inj h0
      exact ⟨tk.2.2, by rw [← h0]⟩
  · rw [← List.drop_drop, h]
    rfl
theorem mark_ne {k wd z : Str} {a : Nat} (h : k ≠ "mark") : isMark ((k, z, a) : TK) wd = false := by
  unfold isMark
  rw [decide_eq_false h]
  rfl
theorem mark_no {wd z : Str} {a : Nat} (h : z ≠ wd) : isMark (("mark", z, a) : TK) wd = false := by
  unfold isMark
  rw [decide_eq_false h, Bool.and_false]
theorem mark_yes {z : Str} {a : Nat} : isMark (("mark", z, a) : TK) z = true := by
  unfold isMark
  rw [decide_eq_true rfl, decide_eq_true rfl]
  rfl
theorem num_len {n : Nat} (h : n < 10 ^ 12) : (numS n).length ≤ 12 := by
  rw [TL.len_tl, show TL.tl (numS n) = TL.numL n from TL.tl_num n]
  exact TL.numL_len (by decide) h
theorem num_int {n : Nat} (h : n < 10 ^ 12) : PySem.intText? (numS n) = some (n : Int) := by
  have := TL.numL_len (k := 12) (by decide) h
  exact TL.int_num (by omega)
theorem plus_mk : (⟨#[43]⟩ : Str) = "+" := by decide +kernel
theorem minus_mk : (⟨#[45]⟩ : Str) = "-" := by decide +kernel
theorem end_mark (z : Str) (a : Nat) (wd : Str) : isMark (("end", z, a) : TK) wd = false := by
  unfold isMark
  rw [decide_eq_false (by show ¬ (("end" : Str) = "mark"); decide +kernel)]
  rfl
theorem name_ne {x : Str} (h : isName x = true) : x ≠ "" := fun z => by
  have := (name_al h).1
  rw [z] at this
  exact this (by decide +kernel)

/-! ### k04: the law's own reader: its state, the word that comes next -/
abbrev sWNow : Stmt := topS 31
abbrev NWNow : List Str := ["_law_state", "_law_tokens"]
abbrev PWNow : List Str := ["_law_state"]
theorem scWNow : FnScope NWNow PWNow (defScope sWNow) := ⟨rfl, rfl, rfl, by decide +kernel, rfl, by decide +kernel, by decide +kernel⟩
abbrev sWSkp : Stmt := topS 32
abbrev NWSkp : List Str := ["_law_state", "_law_word"]
abbrev PWSkp : List Str := ["_law_state", "_law_word"]
theorem scWSkp : FnScope NWSkp PWSkp (defScope sWSkp) := ⟨rfl, rfl, rfl, by decide +kernel, rfl, by decide +kernel, by decide +kernel⟩
abbrev sWNam : Stmt := topS 33
abbrev NWNam : List Str := ["_law_word", "_law_keywords"]
abbrev PWNam : List Str := ["_law_word"]
theorem scWNam : FnScope NWNam PWNam (defScope sWNam) := ⟨rfl, rfl, rfl, by decide +kernel, rfl, by decide +kernel, by decide +kernel⟩
/-- a token as it stands in a text -/
def TokG (y : Str × Str) : Prop := (∃ c, c ∈ SIG.cps.toList ∧ y = (("mark", ⟨#[c]⟩) : Str × Str)) ∨ (TL.tl y.2 ≠ [] ∧ (∀ c ∈ TL.tl y.2, al c = true) ∧ kindOf y.2 = y.1 ∧ y.1 ≠ "bad")
/-- tokens and an end -/
def WfT (ts : Tl) : Prop := ∃ (P : Tl) (e : Nat), ts = P ++ [(("end", "", e) : TK)] ∧ (∀ k ∈ P, TokG (k.1, k.2.1) ∧ k.2.1.length ≤ 1000) ∧ P.length ≤ 1000000
def wsOf (ts : Tl) : List Str := ts.dropLast.map fun k => k.2.1
/-- the state: its tokens, and what is left of them -/
def LsS (H : Hp) (S L : Addr) (ts l : Tl) : Prop := ∃ i : Nat, H S = some (.lst [.ref L, .int (i : Nat)]) ∧ H L = some (.lst ((wsOf ts).map V.str)) ∧ S ≠ L ∧ ts.drop i = l ∧ i < ts.length ∧ WfT ts
theorem ws_app (P : Tl) (k : TK) : wsOf (P ++ [k]) = P.map fun k => k.2.1 := by
  unfold wsOf
  rw [List.dropLast_concat]
def MARKS : List Str := KWS ++ SIG.cps.toList.map fun c => (⟨#[c]⟩ : Str)
theorem tokG_ne {y : Str × Str} (g : TokG y) : TL.tl y.2 ≠ [] := by
  rcases g with ⟨c, hc, rfl⟩ | ⟨h, _⟩
  · show [c] ≠ []
    simp
  · exact h
theorem tokG_kind {y : Str × Str} (g : TokG y) : y.1 ≠ "end" ∧ y.1 ≠ "bad" := by
  rcases g with ⟨c, hc, rfl⟩ | ⟨_, _, h, k⟩
  · exact ⟨by show ("mark" : Str) ≠ "end"; decide +kernel, by show ("mark" : Str) ≠ "bad"; decide +kernel⟩
  · exact ⟨h ▸ kind_end _, k⟩
theorem marks_ok : ∀ w ∈ MARKS, TL.tl w ≠ [] ∧ (((TL.tl w).all al = true ∧ kindOf w = "mark") ∨ ((TL.tl w).all al = false)) := by decide +kernel
theorem tok_mark {y : Str × Str} (g : TokG y) (h : y.2 ∈ MARKS) : y.1 = "mark" := by
  rcases g with ⟨c, hc, rfl⟩ | ⟨h1, h2, h3, h4⟩
  · rfl
  · rcases (marks_ok _ h).2 with ⟨_, k⟩ | k
    · rw [← h3]; exact k
    · rw [List.all_eq_true.mpr h2] at k; cases k
theorem LsS.same {H H' : Hp} {S L : Addr} {ts l : Tl} (h : LsS H S L ts l) (s : Same H H') : LsS H' S L ts l := let ⟨i, a, b, c⟩ := h; ⟨i, s _ _ a, s _ _ b, c⟩
/-- the head is a token, or the end -/
theorem LsS.hd {H : Hp} {S L : Addr} {ts l : Tl} (h : LsS H S L ts l) : ∃ (x : TK) (r : Tl), l = x :: r ∧ ((TokG (x.1, x.2.1) ∧ r ≠ [] ∧ x.2.1.length ≤ 1000) ∨ (x.1 = "end" ∧ x.2.1 = "" ∧ r = [])) := by
  obtain ⟨i, _, _, _, rfl, hi, P, e, rfl, hP, _⟩ := h
  rw [List.length_append] at hi
  have hi : i < P.length + 1 := hi
  rcases Nat.lt_or_ge i P.length with q | q
  · rw [List.drop_append_of_le_length (by omega), List.drop_eq_getElem_cons q]
    exact ⟨P[i], _, rfl, .inl ⟨(hP _ (List.getElem_mem q)).1, by simp, (hP _ (List.getElem_mem q)).2⟩⟩
  · have : i = P.length := by omega
    subst this
    rw [List.drop_left]
    exact ⟨_, _, rfl, .inr ⟨rfl, rfl, rfl⟩⟩
theorem LsS.w {H : Hp} {S L : Addr} {ts l : Tl} (h : LsS H S L ts l) {w : Str} (hw : w ∈ MARKS) : decide (textH l = w) = isW w l := by
  obtain ⟨x, r, rfl, q⟩ := h.hd
  show decide (x.2.1 = w) = (decide (x.1 = "mark") && decide (x.2.1 = w))
  by_cases e : x.2.1 = w
  · have : x.1 = "mark" := by
      rcases q with ⟨q, _⟩ | ⟨_, q, _⟩
      · exact tok_mark q (by show x.2.1 ∈ MARKS; rw [e]; exact hw)
      · have := (marks_ok _ hw).1
        rw [← e, q] at this
        exact absurd (by decide +kernel) this
    rw [decide_eq_true e, decide_eq_true this]; rfl
  · rw [decide_eq_false e, Bool.and_false]
/-- what begins as a name does -/
def nmB (w : Str) : Bool := !(decide (w = "") || inV (.str w) (KWS.map V.str)) && (match TL.tl w with | [] => false | c :: _ => decide (c ∈ LET.cps.toList))
theorem nm_of {y : Str × Str} (g : TokG y) : nmB y.2 = decide (y.1 = "name") := by
  rcases g with ⟨c, hc, rfl⟩ | ⟨h1, h2, h3, h4⟩
  · have : ∀ c ∈ SIG.cps.toList, nmB ⟨#[c]⟩ = decide (("mark" : Str) = "name") := by decide +kernel
    exact this c hc
  · obtain ⟨k, w⟩ := y
    have h3 : kindOf w = k := h3
    subst h3
    have h1 : TL.tl w ≠ [] := h1
    unfold nmB
    show (!(decide (w = "") || _) && _) = decide (kindOf w = "name")
    have we : w ≠ "" := fun z => h1 (by rw [z]; decide +kernel)
    rw [decide_eq_false we, Bool.false_or]
    cases q : inV (.str w) (KWS.map V.str) with
    | true =>
      have kw : kindOf w = "mark" := by unfold kindOf; rw [q, if_pos rfl]
      rw [decide_eq_false (by rw [kw]; decide +kernel)]
      rfl
    | false =>
      cases e : TL.tl w with
      | nil => exact absurd e h1
      | cons c r =>
        have kw : kindOf w = if c ∈ LET.cps.toList then ("name" : Str) else if (c :: r).all dg = false then ("bad" : Str) else if c = 48 ∧ 1 < (c :: r).length then ("bad" : Str) else ("number" : Str) := by
          unfold kindOf
          rw [q, if_neg Bool.false_ne_true, show w.cps.toList = c :: r from e]
        show (!false && decide (c ∈ LET.cps.toList)) = _
        by_cases hc : c ∈ LET.cps.toList
        · rw [if_pos hc] at kw
          rw [decide_eq_true hc, decide_eq_true kw]
          rfl
        · rw [if_neg hc] at kw
          have : kindOf w ≠ "name" := by
            rw [kw]
            split
            · decide +kernel
            · split
              · decide +kernel
              · decide +kernel
          rw [decide_eq_false hc, decide_eq_false this]
          rfl
theorem LsS.len {H : Hp} {S L : Addr} {ts l : Tl} (h : LsS H S L ts l) : (textH l).length ≤ 1000 := by
  obtain ⟨x, r, rfl, q | ⟨_, q, _⟩⟩ := h.hd
  · exact q.2.2
  · show x.2.1.length ≤ 1000
    rw [q]; decide +kernel
theorem LsS.n {H : Hp} {S L : Addr} {ts l : Tl} (h : LsS H S L ts l) : nmB (textH l) = isN l := by
  obtain ⟨x, r, rfl, q | ⟨q1, q2, _⟩⟩ := h.hd
  · exact nm_of q.1
  · show nmB x.2.1 = decide (x.1 = "name")
    rw [q1, q2]
    decide +kernel
/-- what is not empty is no end -/
theorem LsS.tl {H H' : Hp} {S L : Addr} {ts l : Tl} (h : LsS H S L ts l) (e : textH l ≠ "") (i : Nat) (hi : H S = some (.lst [.ref L, .int (i : Nat)])) (h1 : H' S = some (.lst [.ref L, .int ((i + 1 : Nat) : Int)])) (h2 : Bt S H H') : LsS H' S L ts l.tail := by
  obtain ⟨x, r, rfl, q | ⟨_, q, _⟩⟩ := h.hd
  · obtain ⟨j, a, b, c, d, lt, wf⟩ := h
    rw [hi] at a
    injection a with a
    injection a with a
    have : i = j := by
      injection a with _ a
      injection a with a
      injection a with a
      exact Int.ofNat.inj a
    subst this
    refine ⟨i + 1, h1, h2 _ _ b (Ne.symm c), c, ?_, ?_, wf⟩
    · rw [← List.drop_drop, d]; rfl
    · rcases Nat.lt_or_ge (i + 1) ts.length with z | z
      · exact z
      · rw [List.drop_eq_getElem_cons lt] at d
        injection d with _ d
        rw [List.drop_of_length_le z] at d
        exact absurd d.symm q.2.1
  · exact absurd q e
def spWNow : Sp := fun vs H Q _ => ∃ (S L : Addr) (ts l : Tl), vs = [.ref S] ∧ LsS H S L ts l ∧ Q (.str (textH l)) H
def spWSkp : Sp := fun vs H Q _ => ∃ (S L : Addr) (ts l : Tl) (w : Str), vs = [.ref S, .str w] ∧ w ≠ "" ∧ LsS H S L ts l ∧ (textH l ≠ w → Q (.bl false) H) ∧ (textH l = w → ∀ H', Bt S H H' → LsS H' S L ts l.tail → Q (.bl true) H')
def spWNam : Sp := fun vs H Q _ => ∃ w : Str, vs = [.str w] ∧ w.length ≤ 1000000 ∧ ∀ H', Same H H' → Q (.bl (nmB w)) H'
section
variable {P : Program} {w : World} {K : PySem.W.Frag} {mg : Str → Option Value} {base : Heap}
theorem ok_WNow {f : Addr} {fd : FuncData} (F : Fun K "_law_now" "_law_now" sWNow f fd) (nl : mg "len" = none) : FnOk P w K mg base CX0 1 f fd PWNow spWNow := by
  refine F.ok scWNow (fun vs H Q E h => ?_) (fun cdv A outer s H vs Q E hr h => ?_)
  · obtain ⟨S, L, ts, l, rfl, _⟩ := h
    rfl
  · obtain ⟨S, L, ts, l, rfl, h, k⟩ := h
    obtain ⟨i, a, b, c, d, lt, wf⟩ := id h
    refine ⟨_, (pss_cons (ps_set (i := 1) scWNow.nd rfl (Or.inl rfl) (pe_ix (r := rIxL K) ix_list (pv 0) pe_int (fun _ _ => rfl)))
  (pss_one (ps_ret (pe_ifExp (pt_cmpR op_lt (pe_ix (r := rIxL K) ix_list (pv 0) pe_int (fun _ _ => rfl)) (pe_callB call_len_seq (by rfl) nl bb_len (pa_cons (pv 1) pa_nil)) (nomark _)) (pe_ix (r := rIxL K) ix_list (pv 1) (pe_ix (r := rIxL K) ix_list (pv 0) pe_int (fun _ _ => rfl)) (fun _ _ => rfl)) pe_str)))), ?_⟩
    obtain ⟨P0, e0, rfl, hP, lP⟩ := wf
    rw [ws_app] at b
    have lw : ((P0.map fun k => k.2.1).map V.str).length = P0.length := by rw [List.length_map, List.length_map]
    rw [List.length_append] at lt
    have lt : i < P0.length + 1 := lt
    have ai : atI [V.ref L, V.int (i : Nat)] 1 = some (V.int (i : Nat)) := rfl
    refine ⟨_, rfl, S, _, 0, _, rfl, rfl, SqL.of a, rfl, ?_⟩
    refine ⟨_, rfl, S, _, 1, _, rfl, rfl, SqL.of a, ai, _, rfl, L, _, rfl, .inl (SqL.of b), _, _, rfl, rfl, _, rfl, ite2 (fun q => ?_) (fun q => ?_)⟩
    · have q : i < P0.length := by have := of_decide_eq_true q; rw [lw] at this; omega
      have tx : textH l = P0[i].2.1 := by
        rw [← d, List.drop_append_of_le_length (by omega), List.drop_eq_getElem_cons q]
        rfl
      refine ⟨_, rfl, _, rfl, S, _, 1, _, rfl, rfl, SqL.of a, ai, L, _, (i : Nat), V.str P0[i].2.1, rfl, rfl, SqL.of b, atI_nat (by rw [List.getElem?_map, List.getElem?_map, List.getElem?_eq_getElem q]; rfl), ?_⟩
      rw [tx] at k
      exact k
    · have q : ¬ i < P0.length := fun z => q (decide_eq_true (by rw [lw]; omega))
      have : i = P0.length := by omega
      subst this
      have tx : textH l = "" := by rw [← d, List.drop_left]; rfl
      rw [tx] at k
      exact k
theorem ok_WSkp {f : Addr} {fd : FuncData} (F : Fun K "_law_skip" "_law_skip" sWSkp f fd) (GN : Has P w K mg base CX0 1 "_law_now" PWNow spWNow) : FnOk P w K mg base CX0 2 f fd PWSkp spWSkp := by
  refine F.ok scWSkp (fun vs H Q E h => ?_) (fun cdv A outer s H vs Q E hr h => ?_)
  · obtain ⟨S, L, ts, l, w, rfl, _⟩ := h
    rfl
  · obtain ⟨S, L, ts, l, z, rfl, hz, h, k1, k2⟩ := h
    obtain ⟨i, a, b, c, d, lt, wf⟩ := id h
    refine ⟨_, (pss_cons (ps_if (pt_cmpR op_ne (pe_callH GN hr rfl pass0 (pa_cons (pv 0) pa_nil)) (pv 1) (nomark _))
  (pss_one (ps_ret pe_bl))
  pss_nil)
  (pss_cons (ps_asg (pe_op op_add (pe_ix (r := rIxL K) ix_list (pv 0) pe_int (fun _ _ => rfl)) pe_int) (pg_sub (pv 0) pe_int set_list))
  (pss_one (ps_ret pe_bl)))), ?_⟩
    refine ⟨_, rfl, S, L, ts, l, rfl, h, _, rfl, rfl, _, rfl, ite2 (fun q => ?_) (fun q => ?_)⟩
    · exact k1 fun e => by rw [e] at q; simp at q
    · have e : textH l = z := by
        rcases Decidable.em (textH l = z) with e | e
        · exact e
        · exact absurd (by simp [e]) q
      have ne : textH l ≠ "" := by rw [e]; exact hz
      refine ⟨_, rfl, S, _, 1, _, rfl, rfl, SqL.of a, rfl, _, _, rfl, rfl, ?_⟩
      refine ⟨_, rfl, S, _, 1, 1, rfl, rfl, a, rfl, ?_⟩
      refine k2 e _ (fun b' o hb' hn => ?_) (h.tl ne i a ?_ fun b' o hb' hn => ?_)
      · rw [upd_ne hn]; exact hb'
      · rw [upd_same]; rfl
      · rw [upd_ne hn]; exact hb'
theorem ok_WNam {f : Addr} {fd : FuncData} (F : Fun K "_law_is_name" "_law_is_name" sWNam f fd) : FnOk P w K mg base CX0 1 f fd PWNam spWNam := by
  refine F.ok scWNam (fun vs H Q E h => ?_) (fun cdv A outer s H vs Q E hr h => ?_)
  · obtain ⟨w, rfl, _⟩ := h
    rfl
  · obtain ⟨w, rfl, hw, k⟩ := h
    refine ⟨_, (pss_cons (ps_set (i := 1) scWNam.nd rfl (Or.inl rfl) (pe_lst (pa_cons pe_str (pa_cons pe_str (pa_cons pe_str (pa_cons pe_str (pa_cons pe_str (pa_cons pe_str (pa_cons pe_str (pa_cons pe_str (pa_cons pe_str (pa_cons pe_str (pa_cons pe_str (pa_cons pe_str pa_nil))))))))))))))
  (pss_cons (ps_if (PW.pt (pw_or (pt_cmpR op_eq (pv 0) pe_str (nomark _)) (pw_or1 (pt_cmpR op_in_seq (pv 0) (pe_op op_cat (pv 1) (pe_lst (pa_cons pe_str (pa_cons pe_str (pa_cons pe_str (pa_cons pe_str pa_nil)))))) (by rfl)))))
  (pss_one (ps_ret pe_bl))
  pss_nil)
  (pss_one (ps_ret (pe_cmpR op_in_sign (pe_ix ix_str (pv 0) pe_int (fun _ _ => rfl)) pe_str (by rfl)))))), ?_⟩
    have e24 : sizeLine = 2 ^ 24 := rfl
    refine ⟨(by show 12 ≤ sizeLine; decide), fun a1 n1 => ?_⟩
    have s1 := same_new (o := .lst ((KWS.take 12).map V.str)) n1
    have e1 : upd H a1 (.lst ((KWS.take 12).map V.str)) a1 = some (.lst ((KWS.take 12).map V.str)) := upd_same
    rw [show ([.str "globals", .str "kinds", .str "keep", .str "def", .str "if", .str "else", .str "while", .str "risk", .str "raise", .str "try", .str "except", .str "finally"] : List V) = (KWS.take 12).map V.str from rfl]
    generalize upd H a1 (.lst ((KWS.take 12).map V.str)) = H1 at *
    unfold nmB at k
    by_cases we : w = ""
    · rw [decide_eq_true we] at k
      refine ⟨_, rfl, rfl, _, rfl, ?_⟩
      rw [decide_eq_true (by rw [we] : V.str w = V.str "")]
      exact k _ s1
    · rw [decide_eq_false we, Bool.false_or] at k
      refine ⟨_, rfl, rfl, _, rfl, ?_⟩
      rw [decide_eq_false (fun z => we (V.str.inj z) : ¬ V.str w = V.str "")]
      refine ⟨_, rfl, _, rfl, (by show 4 ≤ sizeLine; decide), fun a2 n2 => ?_⟩
      have s2 := same_new (o := .lst ((KWS.drop 12).map V.str)) n2
      have e2 : upd H1 a2 (.lst ((KWS.drop 12).map V.str)) a2 = some (.lst ((KWS.drop 12).map V.str)) := upd_same
      rw [show ([.str "undo", .str "with", .str "swallow", .str "return"] : List V) = (KWS.drop 12).map V.str from rfl]
      have e1 := s2 _ _ e1
      generalize upd H1 a2 (.lst ((KWS.drop 12).map V.str)) = H2 at *
      refine ⟨a1, a2, _, _, rfl, rfl, e1, e2, (by show 16 ≤ sizeLine; decide), fun a3 n3 => ?_⟩
      rw [show (KWS.take 12).map V.str ++ (KWS.drop 12).map V.str = KWS.map V.str from rfl]
      have s3 := same_new (o := .lst (KWS.map V.str)) n3
      have e3 : upd H2 a3 (.lst (KWS.map V.str)) a3 = some (.lst (KWS.map V.str)) := upd_same
      generalize upd H2 a3 (.lst (KWS.map V.str)) = H3 at *
      refine ⟨a3, _, rfl, .inl (SqL.of e3), rfl, by decide +kernel, _, rfl, ?_⟩
      show (if inV (.str w) (KWS.map V.str) = true then _ else _)
      cases q : inV (.str w) (KWS.map V.str) with
      | true =>
        rw [q] at k
        exact k _ (s1.trans (s2.trans s3))
      | false =>
        rw [q] at k
        cases e : TL.tl w with
        | nil => exact absurd (TL.ext_tl (e.trans (by decide +kernel))) we
        | cons c r =>
          rw [e] at k
          refine ⟨_, rfl, w, 0, c, rfl, rfl, by omega, atI_nat (j := 0) (by rw [show w.cps.toList = c :: r from e]; rfl), c, _, rfl, rfl, ?_⟩
          have k := k _ (s1.trans (s2.trans s3))
          exact k
end

/-! ### k04: names, lists, sums, arguments by the law's own reader -/
abbrev sWRNm : Stmt := topS 34
abbrev NWRNm : List Str := ["_law_state"]
abbrev PWRNm : List Str := ["_law_state"]
theorem scWRNm : FnScope NWRNm PWRNm (defScope sWRNm) := ⟨rfl, rfl, rfl, by decide +kernel, rfl, by decide +kernel, by decide +kernel⟩
abbrev sWRLs : Stmt := topS 35
abbrev NWRLs : List Str := ["_law_state", "_law_is_right"]
abbrev PWRLs : List Str := ["_law_state"]
theorem scWRLs : FnScope NWRLs PWRLs (defScope sWRLs) := ⟨rfl, rfl, rfl, by decide +kernel, rfl, by decide +kernel, by decide +kernel⟩
abbrev sWRRw : Stmt := topS 36
abbrev NWRRw : List Str := ["_law_state", "_law_is_right"]
abbrev PWRRw : List Str := ["_law_state"]
theorem scWRRw : FnScope NWRRw PWRRw (defScope sWRRw) := ⟨rfl, rfl, rfl, by decide +kernel, rfl, by decide +kernel, by decide +kernel⟩
abbrev sWRTm : Stmt := topS 37
abbrev NWRTm : List Str := ["_law_state", "_law_word"]
abbrev PWRTm : List Str := ["_law_state"]
theorem scWRTm : FnScope NWRTm PWRTm (defScope sWRTm) := ⟨rfl, rfl, rfl, by decide +kernel, rfl, by decide +kernel, by decide +kernel⟩
abbrev sWRSm : Stmt := topS 38
abbrev NWRSm : List Str := ["_law_state", "_law_is_right"]
abbrev PWRSm : List Str := ["_law_state"]
theorem scWRSm : FnScope NWRSm PWRSm (defScope sWRSm) := ⟨rfl, rfl, rfl, by decide +kernel, rfl, by decide +kernel, by decide +kernel⟩
abbrev sWRAr : Stmt := topS 39
abbrev NWRAr : List Str := ["_law_state"]
abbrev PWRAr : List Str := ["_law_state"]
theorem scWRAr : FnScope NWRAr PWRAr (defScope sWRAr) := ⟨rfl, rfl, rfl, by decide +kernel, rfl, by decide +kernel, by decide +kernel⟩
abbrev sWRAs : Stmt := topS 40
abbrev NWRAs : List Str := ["_law_state", "_law_is_right"]
abbrev PWRAs : List Str := ["_law_state"]
theorem scWRAs : FnScope NWRAs PWRAs (defScope sWRAs) := ⟨rfl, rfl, rfl, by decide +kernel, rfl, by decide +kernel, by decide +kernel⟩
/-- nothing is too large -/
def NL (r : RdR) : Prop := ∀ w, r ≠ .error (.large w)
theorem NL.fst {r : RdR} {k : Tl → RdR} (h : NL (andR r k)) : NL r := fun w e => h w (by rw [e]; rfl)
theorem NL.snd {r : RdR} {k : Tl → RdR} {l : Tl} (h : NL (andR r k)) (e : r = .ok l) : NL (k l) := fun w e2 => h w (by rw [e]; exact e2)
/-- what is done behind a part: it reads on, or stands at what is wrong -/
structure Fin (Q : VK) (H : Hp) (S L : Addr) (ts : Tl) (r : RdR) : Prop where
  ok : ∀ l', r = .ok l' → ∀ H', Bt S H H' → LsS H' S L ts l' → Q (.bl true) H'
  no : ∀ p, r = .error (.syn p) → ∀ l' H', Bt S H H' → LsS H' S L ts l' → posH l' = p → Q (.bl false) H'
theorem Fin.bt {Q : VK} {H H1 : Hp} {S L : Addr} {ts : Tl} {r : RdR} (h : Fin Q H S L ts r) (b : Bt S H H1) : Fin Q H1 S L ts r := ⟨fun l' e H' b' s => h.ok l' e H' (b.trans b') s, fun p e l' H' b' s q => h.no p e l' H' (b.trans b') s q⟩
def spWRd (r : Tl → RdR) : Sp := fun vs H Q _ => ∃ (S L : Addr) (ts l : Tl), vs = [.ref S] ∧ LsS H S L ts l ∧ NL (r l) ∧ Fin Q H S L ts (r l)
def dgW (w : Str) : Bool := match TL.tl w with
  | [] => false
  | c :: _ => decide (c ∈ ("0123456789" : Str).cps.toList)
theorem dig_sig : ∀ c ∈ ("0123456789" : Str).cps.toList, c ∉ SIG.cps.toList ∧ c ∉ LET.cps.toList := by decide +kernel
theorem dig_all : ∀ c ∈ DIG.cps.toList, c ∈ ("0123456789" : Str).cps.toList := by decide +kernel
theorem kws_head {w : Str} {c : Nat} {r : List Nat} (e : TL.tl w = c :: r) (hc : c ∉ LET.cps.toList) : inV (.str w) (KWS.map V.str) = false := by
  cases q : inV (.str w) (KWS.map V.str) with
  | false => rfl
  | true =>
    unfold inV at q
    obtain ⟨v, hv, q⟩ := List.any_eq_true.mp q
    obtain ⟨k, hk, rfl⟩ := List.mem_map.mp hv
    have q : k = w := by
      have q : (k == w) = true := q
      simpa using q
    exact absurd (kws_let k hk c (by rw [q]; show c ∈ TL.tl w; rw [e]; exact List.mem_cons_self)) hc
theorem num_of {y : Str × Str} (g : TokG y) : dgW y.2 = decide (y.1 = "number") := by
  rcases g with ⟨c, hc, rfl⟩ | ⟨h1, h2, h3, h4⟩
  · have : ∀ c ∈ SIG.cps.toList, dgW ⟨#[c]⟩ = decide (("mark" : Str) = "number") := by decide +kernel
    exact this c hc
  · obtain ⟨k, w⟩ := y
    have h3 : kindOf w = k := h3
    subst h3
    have h1 : TL.tl w ≠ [] := h1
    have h4 : kindOf w ≠ "bad" := h4
    show dgW w = decide (kindOf w = "number")
    unfold dgW
    cases e : TL.tl w with
    | nil => exact absurd e h1
    | cons c r =>
      show decide _ = _
      by_cases hc : c ∈ LET.cps.toList
      · have n1 : c ∉ ("0123456789" : Str).cps.toList := fun z => (dig_sig c z).2 hc
        have n2 : kindOf w ≠ "number" := by
          unfold kindOf
          split
          · decide +kernel
          · rw [show w.cps.toList = c :: r from e]
            show (if c ∈ LET.cps.toList then ("name" : Str) else _) ≠ _
            rw [if_pos hc]
            decide +kernel
        rw [decide_eq_false n1, decide_eq_false n2]
      · have nk := kws_head e hc
        have kw : kindOf w = if (c :: r).all dg = false then ("bad" : Str) else if c = 48 ∧ 1 < (c :: r).length then ("bad" : Str) else ("number" : Str) := by
          unfold kindOf
          rw [nk, if_neg Bool.false_ne_true, show w.cps.toList = c :: r from e]
          show (if c ∈ LET.cps.toList then ("name" : Str) else _) = _
          rw [if_neg hc]
        rw [kw] at h4
        by_cases q1 : (c :: r).all dg = false
        · rw [if_pos q1] at h4; exact absurd rfl h4
        · rw [if_neg q1] at kw h4
          by_cases q2 : c = 48 ∧ 1 < (c :: r).length
          · rw [if_pos q2] at h4; exact absurd rfl h4
          · rw [if_neg q2] at kw
            have hd : c ∈ DIG.cps.toList := by
              have q1 : (c :: r).all dg = true := by cases z : (c :: r).all dg with | true => rfl | false => exact absurd z q1
              have := List.all_eq_true.mp q1 c List.mem_cons_self
              exact of_decide_eq_true this
            rw [decide_eq_true (dig_all c hd), decide_eq_true kw]
/-- while right and ..: right = .. -/
theorem wloop {C : TT} {B : TS} {D : Ends} {H0 : Hp} {S L : Addr} {ts : Tl} {R : RdR} {G T : Tl → RdR} {σr : L2.St}
    (stopF : ∀ (H : Hp) (Q : Bool → Hp → Prop), Q false H → C (some (.ref S) :: some (.bl false) :: σr) H Q)
    (turn : ∀ (l : Tl) (H : Hp), Bt S H0 H → LsS H S L ts l → R = G l → ∀ (N : L2.St → Hp → Prop) (Y fin : Hp → Prop), (∀ H', B { D with nx := N, ct := N, bk := D.nx } (some (.ref S) :: some (.bl true) :: σr) H' → Y H') →
      (∀ H', Bt S H H' → LsS H' S L ts l → R = T l → fin H') → (∀ l' H', l'.length < l.length → Bt S H H' → LsS H' S L ts l' → R = G l' → N (some (.ref S) :: some (.bl true) :: σr) H') →
      (∀ p l' H', Bt S H H' → LsS H' S L ts l' → R = .error (.syn p) → posH l' = p → N (some (.ref S) :: some (.bl false) :: σr) H') → C (some (.ref S) :: some (.bl true) :: σr) H fun b H' => if b = true then Y H' else fin H')
    (ok : ∀ l H, Bt S H0 H → LsS H S L ts l → R = T l → D.nx (some (.ref S) :: some (.bl true) :: σr) H) (no : ∀ p l H, Bt S H0 H → LsS H S L ts l → R = .error (.syn p) → posH l = p → D.nx (some (.ref S) :: some (.bl false) :: σr) H)
    {b : Bool} {l : Tl} {H : Hp} (b0 : Bt S H0 H) (h0 : LsS H S L ts l) (e1 : b = true → R = G l) (e2 : b = false → ∃ p, R = .error (.syn p) ∧ posH l = p) : tWhile C B D (some (.ref S) :: some (.bl b) :: σr) H := by
  refine ⟨fun m σ H' => ∃ (b : Bool) (l2 : Tl), m = (if b = true then l2.length + 1 else 0) ∧ σ = (some (.ref S) :: some (.bl b) :: σr) ∧ Bt S H0 H' ∧ LsS H' S L ts l2 ∧ (b = true → R = G l2) ∧ (b = false → ∃ p, R = .error (.syn p) ∧ posH l2 = p), ⟨_, b, l, rfl, rfl, b0, h0, e1, e2⟩, ?_⟩
  rintro m σ H3 ⟨b, l3, rfl, rfl, b3, h3, e3, e4⟩
  cases b with
  | false =>
    obtain ⟨p, e5, e6⟩ := e4 rfl
    exact stopF H3 _ (iteF (no p l3 H3 b3 h3 e5 e6))
  | true =>
    refine turn l3 H3 b3 h3 (e3 rfl) (fun σ' H' => ∃ (b : Bool) (l2 : Tl), (if b = true then l2.length + 1 else 0) < l3.length + 1 ∧ σ' = (some (.ref S) :: some (.bl b) :: σr) ∧ Bt S H0 H' ∧ LsS H' S L ts l2 ∧ (b = true → R = G l2) ∧ (b = false → ∃ p, R = .error (.syn p) ∧ posH l2 = p)) _ _ (fun H' y => ⟨_, fun σ' H' ⟨b, l2, u0, u1⟩ => ⟨_, u0, b, l2, rfl, u1⟩, y⟩) (fun H' b' h' e' => ok l3 H' (b3.trans b') h' e') (fun l' H' lt b' h' e' => ⟨true, l', by rw [if_pos rfl]; omega, rfl, b3.trans b', h', fun _ => e', fun z => nomatch z⟩) fun p l' H' b' h' e' q => ⟨false, l', by rw [if_neg (by decide)]; omega, rfl, b3.trans b', h', (fun z => nomatch z), fun _ => ⟨p, e', q⟩⟩
/-- right and the sign w comes next -/
theorem wcond {S L : Addr} {ts l : Tl} {H : Hp} {σr : L2.St} {w : Str} {Q : Bool → Hp → Prop} (hw : w ∈ MARKS) (h : LsS H S L ts l) (k1 : isW w l = false → Q false H) (k2 : isW w l = true → ∀ H', Bt S H H' → LsS H' S L ts l.tail → Q true H') : tB (tCall spWSkp [] E0 (tCons (tVar 0) (tCons (tC (V.str w)) tNil))) (some (.ref S) :: σr) H Q := by
  have nw : w ≠ "" := fun z => by
    have := (marks_ok w hw).1
    rw [z] at this
    exact absurd (by decide +kernel) this
  refine ⟨_, rfl, S, L, ts, l, w, rfl, nw, h, fun z => ⟨false, rfl, k1 (by rw [← h.w hw, decide_eq_false z])⟩, fun z H4 b4 h4 => ⟨true, rfl, k2 (by rw [← h.w hw, decide_eq_true z]) H4 b4 h4⟩⟩
section
variable {P : Program} {w : World} {K : PySem.W.Frag} {mg : Str → Option Value} {base : Heap}
theorem ok_WRNm {f : Addr} {fd : FuncData} (F : Fun K "_law_read_name" "_law_read_name" sWRNm f fd) (GN : Has P w K mg base CX0 1 "_law_now" PWNow spWNow) (GI : Has P w K mg base CX0 1 "_law_is_name" PWNam spWNam) (GS : Has P w K mg base CX0 2 "_law_skip" PWSkp spWSkp) : FnOk P w K mg base CX0 3 f fd PWRNm (spWRd rName) := by
  refine F.ok scWRNm (fun vs H Q E h => ?_) (fun cdv A outer s H vs Q E hr h => ?_)
  · obtain ⟨S, L, ts, l, rfl, _⟩ := h
    rfl
  · obtain ⟨S, L, ts, l, rfl, h, nl, k⟩ := h
    have hr1 := hr.mono (j := 1) (by omega)
    refine ⟨_, (pss_one (ps_ret (pe_and (pe_callH GI hr1 rfl pass0 (pa_cons (pe_callH GN hr1 rfl pass0 (pa_cons (pv 0) pa_nil)) pa_nil)) (pe_one (pe_callH GS hr rfl pass0 (pa_cons (pv 0) (pa_cons (pe_callH GN hr1 rfl pass0 (pa_cons (pv 0) pa_nil)) pa_nil))))))), ?_⟩
    refine ⟨_, rfl, S, L, ts, l, rfl, h, textH l, rfl, by have := h.len; omega, fun H1 s1 => ⟨_, rfl, ?_⟩⟩
    have h1 := h.same s1
    rw [h.n]
    have er : rName l = if isN l then .ok l.tail else synE l := rfl
    cases q : isN l with
    | false =>
      rw [q] at er
      exact k.no _ er l H1 (.of s1) h1 rfl
    | true =>
      rw [q] at er
      have ne : textH l ≠ "" := fun z => by
        have := h.n
        rw [z, q] at this
        exact absurd this (by decide +kernel)
      refine ⟨_, rfl, _, rfl, S, L, ts, l, rfl, h1, S, L, ts, l, textH l, rfl, ne, h1, fun z => absurd rfl z, fun _ H2 b2 h2 => ?_⟩
      exact k.ok _ er H2 ((Bt.of s1).trans b2) h2
theorem ok_WRLs {f : Addr} {fd : FuncData} (F : Fun K "_law_read_list" "_law_read_list" sWRLs f fd) (GM : Has P w K mg base CX0 3 "_law_read_name" PWRNm (spWRd rName)) (GS : Has P w K mg base CX0 2 "_law_skip" PWSkp spWSkp) : FnOk P w K mg base CX0 4 f fd PWRLs (spWRd rNames) := by
  refine F.ok scWRLs (fun vs H Q E h => ?_) (fun cdv A outer s H vs Q E hr h => ?_)
  · obtain ⟨S, L, ts, l, rfl, _⟩ := h
    rfl
  · obtain ⟨S, L, ts, l, rfl, h, nl, k⟩ := h
    have hr2 := hr.mono (j := 2) (by omega)
    refine ⟨_, (pss_cons (ps_set (i := 1) scWRLs.nd rfl (Or.inl rfl) (pe_callH GM hr rfl pass0 (pa_cons (pv 0) pa_nil)))
  (pss_cons (ps_while PassesOwn.never (PW.pt (pw_and (pt_val (pv 1)) (pw_and1 (pt_val (pe_callH GS hr2 rfl pass0 (pa_cons (pv 0) (pa_cons pe_str pa_nil)))))))
  (pss_one (ps_set (i := 1) scWRLs.nd rfl (Or.inl rfl) (pe_callH GM hr rfl pass0 (pa_cons (pv 0) pa_nil)))))
  (pss_one (ps_ret (pv 1))))), ?_⟩
    have cn : isW "," [] = false := by decide +kernel
    have wc : ("," : Str) ∈ MARKS := by decide +kernel
    have key : ∀ (b : Bool) (l2 : Tl) (H2 : Hp), Bt S H H2 → LsS H2 S L ts l2 → (b = true → rNames l = rLoop (isW ",") rName l2.length l2) → (b = false → ∃ p, rNames l = .error (.syn p) ∧ posH l2 = p) → tSeq (tWhile (tAnd (tB (tVar 1)) (tB (tCall spWSkp [] E0 (tCons (tVar 0) (tCons (tC (V.str ",")) tNil))))) (tAsg (tCall (spWRd rName) [] E0 (tCons (tVar 0) tNil)) (gName 1))) (tRet (tVar 1)) { nx := fun _ H' => Q .non H', rt := Q } [some (.ref S), some (.bl b)] H2 := fun b l2 H2 b2 h2 e1 e2 => by
      refine wloop (H0 := H) (σr := []) (T := fun l => .ok l) (G := fun l2 => rLoop (isW ",") rName l2.length l2) (fun H Q q => ⟨_, rfl, false, rfl, q⟩) (fun l3 H3 b3 h3 e3 N Y fin hY hs hn hb => ?_) (fun l3 H3 b3 h3 e3 => by exact ⟨_, rfl, k.ok l3 e3 H3 b3 h3⟩) (fun p l3 H3 b3 h3 e3 q => by exact ⟨_, rfl, k.no p e3 l3 H3 b3 h3 q⟩) b2 h2 e1 e2
      rw [loop_eq suf_name cn] at e3
      refine ⟨_, rfl, true, rfl, wcond wc h3 (fun z => iteF (hs H3 (.of (Same.refl _)) h3 ?_)) fun z H4 b4 h4 => iteT (hY _ ?_)⟩
      · rw [if_neg (by rw [z]; decide)] at e3
        exact e3
      · rw [if_pos z] at e3
        have lt := tail_lt (nonnil_W z)
        refine ⟨_, rfl, S, L, ts, l3.tail, rfl, h4, fun ww e => nl ww (by rw [e3, e]; rfl), ⟨fun l5 e5 H5 b5 h5 => hn l5 H5 ?_ (b4.trans b5) h5 ?_, fun p e5 l5 H5 b5 h5 q => hb p l5 H5 (b4.trans b5) h5 ?_ q⟩⟩
        · have := (suf_name _ _ e5).length_le; omega
        · rw [e3, e5]; rfl
        · rw [e3, e5]; rfl
    refine ⟨_, rfl, S, L, ts, l, rfl, h, nl.fst, ⟨fun l1 e1 H1 b1 h1 => key true l1 H1 b1 h1 (fun _ => ?_) (fun z => nomatch z), fun p e1 l1 H1 b1 h1 q => key false l1 H1 b1 h1 (fun z => nomatch z) fun _ => ⟨p, ?_, q⟩⟩⟩
    · unfold rNames; rw [e1]; rfl
    · unfold rNames; rw [e1]; rfl
theorem ok_WRRw {f : Addr} {fd : FuncData} (F : Fun K "_law_read_row" "_law_read_row" sWRRw f fd) (GM : Has P w K mg base CX0 3 "_law_read_name" PWRNm (spWRd rName)) (GN : Has P w K mg base CX0 1 "_law_now" PWNow spWNow) (GI : Has P w K mg base CX0 1 "_law_is_name" PWNam spWNam) : FnOk P w K mg base CX0 4 f fd PWRRw (spWRd rRow) := by
  refine F.ok scWRRw (fun vs H Q E h => ?_) (fun cdv A outer s H vs Q E hr h => ?_)
  · obtain ⟨S, L, ts, l, rfl, _⟩ := h
    rfl
  · obtain ⟨S, L, ts, l, rfl, h, nl, k⟩ := h
    have hr1 := hr.mono (j := 1) (by omega)
    refine ⟨_, (pss_cons (ps_set (i := 1) scWRRw.nd rfl (Or.inl rfl) (pe_callH GM hr rfl pass0 (pa_cons (pv 0) pa_nil)))
  (pss_cons (ps_while PassesOwn.never (PW.pt (pw_and (pt_val (pv 1)) (pw_and1 (pt_val (pe_callH GI hr1 rfl pass0 (pa_cons (pe_callH GN hr1 rfl pass0 (pa_cons (pv 0) pa_nil)) pa_nil))))))
  (pss_one (ps_set (i := 1) scWRRw.nd rfl (Or.inl rfl) (pe_callH GM hr rfl pass0 (pa_cons (pv 0) pa_nil)))))
  (pss_one (ps_ret (pv 1))))), ?_⟩
    have cn : isN [] = false := by decide +kernel
    have key : ∀ (b : Bool) (l2 : Tl) (H2 : Hp), Bt S H H2 → LsS H2 S L ts l2 → (b = true → rRow l = rLoop isN (fun l => .ok l) l2.length l2) → (b = false → ∃ p, rRow l = .error (.syn p) ∧ posH l2 = p) → tSeq (tWhile (tAnd (tB (tVar 1)) (tB (tCall spWNam [] E0 (tCons (tCall spWNow [] E0 (tCons (tVar 0) tNil)) tNil)))) (tAsg (tCall (spWRd rName) [] E0 (tCons (tVar 0) tNil)) (gName 1))) (tRet (tVar 1)) { nx := fun _ H' => Q .non H', rt := Q } [some (.ref S), some (.bl b)] H2 := fun b l2 H2 b2 h2 e1 e2 => by
      refine wloop (H0 := H) (σr := []) (T := fun l => .ok l) (G := fun l2 => rLoop isN (fun l => .ok l) l2.length l2) (fun H Q q => ⟨_, rfl, false, rfl, q⟩) (fun l3 H3 b3 h3 e3 N Y fin hY hs hn hb => ?_) (fun l3 H3 b3 h3 e3 => by exact ⟨_, rfl, k.ok l3 e3 H3 b3 h3⟩) (fun p l3 H3 b3 h3 e3 q => by exact ⟨_, rfl, k.no p e3 l3 H3 b3 h3 q⟩) b2 h2 e1 e2
      rw [loop_eq Suf.ok cn] at e3
      refine ⟨_, rfl, true, rfl, _, rfl, S, L, ts, l3, rfl, h3, textH l3, rfl, by have := h3.len; omega, fun H4 s4 => ⟨_, rfl, ?_⟩⟩
      have h4 := h3.same s4
      rw [h3.n]
      cases z : isN l3 with
      | false =>
        rw [if_neg (by rw [z]; decide)] at e3
        exact iteF (hs H4 (.of s4) h4 e3)
      | true =>
        rw [if_pos z] at e3
        have er : rName l3 = .ok l3.tail := if_pos z
        have lt := tail_lt (nonnil_N z)
        refine iteT (hY _ ⟨_, rfl, S, L, ts, l3, rfl, h4, fun ww e => ?_, ⟨fun l5 e5 H5 b5 h5 => hn l5 H5 ?_ ((Bt.of s4).trans b5) h5 ?_, fun p e5 l5 H5 b5 h5 q => ?_⟩⟩)
        · rw [er] at e; cases e
        · rw [er] at e5; cases e5; exact lt
        · rw [er] at e5; cases e5; exact e3
        · rw [er] at e5; cases e5
    refine ⟨_, rfl, S, L, ts, l, rfl, h, nl.fst, ⟨fun l1 e1 H1 b1 h1 => key true l1 H1 b1 h1 (fun _ => ?_) (fun z => nomatch z), fun p e1 l1 H1 b1 h1 q => key false l1 H1 b1 h1 (fun z => nomatch z) fun _ => ⟨p, ?_, q⟩⟩⟩
    · unfold rRow; rw [e1]; rfl
    · unfold rRow; rw [e1]; rfl
theorem ok_WRTm {f : Addr} {fd : FuncData} (F : Fun K "_law_read_term" "_law_read_term" sWRTm f fd) (GM : Has P w K mg base CX0 3 "_law_read_name" PWRNm (spWRd rName)) (GN : Has P w K mg base CX0 1 "_law_now" PWNow spWNow) (GS : Has P w K mg base CX0 2 "_law_skip" PWSkp spWSkp) : FnOk P w K mg base CX0 4 f fd PWRTm (spWRd rTerm) := by
  refine F.ok scWRTm (fun vs H Q E h => ?_) (fun cdv A outer s H vs Q E hr h => ?_)
  · obtain ⟨S, L, ts, l, rfl, _⟩ := h
    rfl
  · obtain ⟨S, L, ts, l, rfl, h, nl, k⟩ := h
    have hr1 := hr.mono (j := 1) (by omega)
    have hr2 := hr.mono (j := 2) (by omega)
    refine ⟨_, (pss_cons (ps_set (i := 1) scWRTm.nd rfl (Or.inl rfl) (pe_callH GN hr1 rfl pass0 (pa_cons (pv 0) pa_nil)))
  (pss_cons (ps_if (PW.pt (pw_or (pt_cmpR op_eq (pv 1) pe_str (nomark _)) (pw_or1 (pt_cmpR op_notIn_sign (pe_ix ix_str (pv 1) pe_int (fun _ _ => rfl)) pe_str (by rfl)))))
  (pss_one (ps_ret (pe_callH GM hr rfl pass0 (pa_cons (pv 0) pa_nil))))
  pss_nil)
  (pss_cons (ps_expr (pe_callH GS hr2 rfl pass0 (pa_cons (pv 0) (pa_cons (pv 1) pa_nil))))
  (pss_one (ps_ret (pe_or (pe_not (pe_callH GS hr2 rfl pass0 (pa_cons (pv 0) (pa_cons pe_str pa_nil)))) (pe_one (pe_callH GM hr rfl pass0 (pa_cons (pv 0) pa_nil))))))))), ?_⟩
    refine ⟨_, rfl, S, L, ts, l, rfl, h, ?_⟩
    have ll := h.len
    have nm : ∀ {l2 : Tl} {H2 : Hp}, rTerm l = rName l2 → Bt S H H2 → LsS H2 S L ts l2 → spWRd rName [.ref S] H2 Q E0 := fun {l2 H2} e b2 h2 => ⟨S, L, ts, l2, rfl, h2, e ▸ nl, e ▸ k.bt b2⟩
    obtain ⟨x, r, rfl, ⟨g, rne, xl⟩ | ⟨x1, x2, rfl⟩⟩ := h.hd
    · have rt : rTerm (x :: r) = if isN (x :: r) = true then .ok r else if decide (x.1 = "number") = true then rNum (x :: r) else synE (x :: r) := rTerm_eq _
      have hn : dgW x.2.1 = decide (x.1 = "number") := num_of g
      obtain ⟨c, s0, ec⟩ : ∃ c s0, TL.tl x.2.1 = c :: s0 := by
        cases q : TL.tl x.2.1 with
        | nil => exact absurd q (tokG_ne g)
        | cons c s0 => exact ⟨c, s0, rfl⟩
      have we : x.2.1 ≠ "" := fun z => by rw [z, show TL.tl ("" : Str) = [] by decide +kernel] at ec; cases ec
      refine ⟨_, rfl, rfl, _, rfl, iteE (decide_eq_false fun z => we (V.str.inj z)) ?_⟩
      refine ⟨_, rfl, x.2.1, 0, c, rfl, rfl, Nat.le_trans xl (by decide), atI_nat (j := 0) (by rw [show x.2.1.cps.toList = c :: s0 from ec]; rfl), c, _, rfl, rfl, _, rfl, ?_⟩
      have hd : dgW x.2.1 = decide (c ∈ ("0123456789" : Str).cps.toList) := by unfold dgW; rw [ec]
      rw [← hd, hn]
      by_cases kn : x.1 = "number"
      · rw [decide_eq_true kn]
        have i0 : ¬ isN (x :: r) = true := by show ¬ decide (x.1 = "name") = true; rw [kn]; decide +kernel
        rw [if_neg i0, if_pos (decide_eq_true kn)] at rt
        have l12 : x.2.1.length ≤ 12 := by
          rcases Decidable.em (x.2.1.length ≤ 12) with z | z
          · exact z
          · exact absurd (rt.trans (if_neg z)) (nl _)
        have rt : rTerm (x :: r) = if isW "*" r = true then rName r.tail else .ok r := rt.trans (if_pos l12)
        refine iteF ⟨_, rfl, _, rfl, S, L, ts, x :: r, x.2.1, rfl, we, h, fun z => absurd rfl z, fun _ H1 b1 h1 => ?_⟩
        have h1 : LsS H1 S L ts r := h1
        refine ⟨_, rfl, S, L, ts, r, "*", rfl, by decide +kernel, h1, fun z => ⟨_, rfl, _, rfl, iteT ?_⟩, fun z H2 b2 h2 => ⟨_, rfl, _, rfl, iteF ?_⟩⟩
        · rw [if_neg (by rw [← h1.w (by decide +kernel), decide_eq_false z]; decide)] at rt
          exact k.ok r rt H1 b1 h1
        · rw [if_pos (by rw [← h1.w (by decide +kernel), decide_eq_true z])] at rt
          exact ⟨_, rfl, nm rt (b1.trans b2) h2⟩
      · rw [decide_eq_false kn]
        rw [decide_eq_false kn, if_neg Bool.false_ne_true] at rt
        exact iteT ⟨_, rfl, nm rt (.of (Same.refl _)) h⟩
    · refine ⟨_, rfl, rfl, _, rfl, iteS (decide_eq_true (by show V.str x.2.1 = V.str ""; rw [x2])) ⟨_, rfl, nm (l2 := [x]) ?_ (.of (Same.refl _)) h⟩⟩
      have rt : rTerm [x] = if isN [x] = true then .ok [] else if decide (x.1 = "number") = true then rNum [x] else synE [x] := rTerm_eq _
      rw [decide_eq_false (by rw [x1]; decide +kernel : ¬ x.1 = "number"), if_neg Bool.false_ne_true] at rt
      exact rt
theorem ok_WRSm {f : Addr} {fd : FuncData} (F : Fun K "_law_read_sum" "_law_read_sum" sWRSm f fd) (GT : Has P w K mg base CX0 4 "_law_read_term" PWRTm (spWRd rTerm)) (GS : Has P w K mg base CX0 2 "_law_skip" PWSkp spWSkp) : FnOk P w K mg base CX0 5 f fd PWRSm (spWRd rExpr) := by
  refine F.ok scWRSm (fun vs H Q E h => ?_) (fun cdv A outer s H vs Q E hr h => ?_)
  · obtain ⟨S, L, ts, l, rfl, _⟩ := h
    rfl
  · obtain ⟨S, L, ts, l, rfl, h, nl, k⟩ := h
    have hr2 := hr.mono (j := 2) (by omega)
    refine ⟨_, (pss_cons (ps_expr (pe_callH GS hr2 rfl pass0 (pa_cons (pv 0) (pa_cons pe_str pa_nil))))
  (pss_cons (ps_set (i := 1) scWRSm.nd rfl (Or.inl rfl) (pe_callH GT hr rfl pass0 (pa_cons (pv 0) pa_nil)))
  (pss_cons (ps_while PassesOwn.never (PW.pt (pw_and (pt_val (pv 1)) (pw_and1 (PW.pt (pw_or (pt_val (pe_callH GS hr2 rfl pass0 (pa_cons (pv 0) (pa_cons pe_str pa_nil)))) (pw_or1 (pt_val (pe_callH GS hr2 rfl pass0 (pa_cons (pv 0) (pa_cons pe_str pa_nil))))))))))
  (pss_one (ps_set (i := 1) scWRSm.nd rfl (Or.inl rfl) (pe_callH GT hr rfl pass0 (pa_cons (pv 0) pa_nil)))))
  (pss_one (ps_ret (pv 1)))))), ?_⟩
    have wp : ("+" : Str) ∈ MARKS := by decide +kernel
    have wm : ("-" : Str) ∈ MARKS := by decide +kernel
    have key : ∀ (b : Bool) (l2 : Tl) (H2 : Hp), Bt S H H2 → LsS H2 S L ts l2 → (b = true → rExpr l = sumT l2) → (b = false → ∃ p, rExpr l = .error (.syn p) ∧ posH l2 = p) → tSeq (tWhile (tAnd (tB (tVar 1)) (tOr (tB (tCall spWSkp [] E0 (tCons (tVar 0) (tCons (tC (V.str "+")) tNil)))) (tB (tCall spWSkp [] E0 (tCons (tVar 0) (tCons (tC (V.str "-")) tNil)))))) (tAsg (tCall (spWRd rTerm) [] E0 (tCons (tVar 0) tNil)) (gName 1))) (tRet (tVar 1)) { nx := fun _ H' => Q .non H', rt := Q } [some (.ref S), some (.bl b)] H2 := fun b l2 H2 b2 h2 e1 e2 => by
      refine wloop (H0 := H) (σr := []) (T := fun l => .ok l) (G := sumT) (fun H Q q => ⟨_, rfl, false, rfl, q⟩) (fun l3 H3 b3 h3 e3 N Y fin hY hs hn hb => ?_) (fun l3 H3 b3 h3 e3 => by exact ⟨_, rfl, k.ok l3 e3 H3 b3 h3⟩) (fun p l3 H3 b3 h3 e3 q => by exact ⟨_, rfl, k.no p e3 l3 H3 b3 h3 q⟩) b2 h2 e1 e2
      unfold sumT at e3
      have turn : ∀ {H4 : Hp}, Bt S H3 H4 → LsS H4 S L ts l3.tail → l3.tail.length < l3.length → rExpr l = rSums l3.tail → tAsg (tCall (spWRd rTerm) [] E0 (tCons (tVar 0) tNil)) (gName 1) { nx := N, rt := Q, bk := tRet (tVar 1) { nx := fun _ H' => Q .non H', rt := Q }, ct := N } [some (.ref S), some (.bl true)] H4 := fun {H4} b4 h4 lt e4 => by
        rw [sums_eq] at e4
        refine ⟨_, rfl, S, L, ts, l3.tail, rfl, h4, fun ww e => nl ww (by rw [e4, e]; rfl), ⟨fun l5 e5 H5 b5 h5 => hn l5 H5 ?_ (b4.trans b5) h5 ?_, fun p e5 l5 H5 b5 h5 q => hb p l5 H5 (b4.trans b5) h5 ?_ q⟩⟩
        · have := (suf_term _ _ e5).length_le; omega
        · rw [e4, e5]; rfl
        · rw [e4, e5]; rfl
      refine ⟨_, rfl, true, rfl, wcond wp h3 (fun z => ?_) fun z H4 b4 h4 => ?_⟩
      · rw [if_neg (by rw [z]; decide)] at e3
        refine iteF (wcond wm h3 (fun z => iteF (hs H3 (.of (Same.refl _)) h3 ?_)) fun z H4 b4 h4 => iteT (hY _ ?_))
        · rw [if_neg (by rw [z]; decide)] at e3
          exact e3
        · rw [if_pos z] at e3
          exact turn b4 h4 (tail_lt (nonnil_W z)) e3
      · rw [if_pos z] at e3
        exact iteT (iteT (hY _ (turn b4 h4 (tail_lt (nonnil_W z)) e3)))
    have ex := expr_eq l
    have go : ∀ (l0 : Tl) (H0 : Hp), Bt S H H0 → LsS H0 S L ts l0 → rExpr l = rSums l0 → (tSeq (tAsg (tCall (spWRd rTerm) [] E0 (tCons (tVar 0) tNil)) (gName 1)) (tSeq (tWhile (tAnd (tB (tVar 1)) (tOr (tB (tCall spWSkp [] E0 (tCons (tVar 0) (tCons (tC (V.str "+")) tNil)))) (tB (tCall spWSkp [] E0 (tCons (tVar 0) (tCons (tC (V.str "-")) tNil)))))) (tAsg (tCall (spWRd rTerm) [] E0 (tCons (tVar 0) tNil)) (gName 1))) (tRet (tVar 1)))) { nx := fun _ H' => Q .non H', rt := Q } (L2.start NWRSm [V.ref S]) H0 := fun l0 H0 b0 h0 e0 => by
      rw [sums_eq] at e0
      refine ⟨_, rfl, S, L, ts, l0, rfl, h0, fun ww e => nl ww (by rw [e0, e]; rfl), ⟨fun l1 e1 H1 b1 h1 => key true l1 H1 (b0.trans b1) h1 (fun _ => ?_) (fun z => nomatch z), fun p e1 l1 H1 b1 h1 q => key false l1 H1 (b0.trans b1) h1 (fun z => nomatch z) fun _ => ⟨p, ?_, q⟩⟩⟩
      · rw [e0, e1]; rfl
      · rw [e0, e1]; rfl
    refine ⟨_, rfl, S, L, ts, l, "-", rfl, by decide +kernel, h, fun z => go l H (.of (Same.refl _)) h ?_, fun z H1 b1 h1 => go l.tail H1 b1 h1 ?_⟩
    · rw [ex, if_neg (by rw [← h.w wm, decide_eq_false z]; decide)]
    · rw [ex, if_pos (by rw [← h.w wm, decide_eq_true z])]
theorem ok_WRAr {f : Addr} {fd : FuncData} (F : Fun K "_law_read_arg" "_law_read_arg" sWRAr f fd) (GM : Has P w K mg base CX0 3 "_law_read_name" PWRNm (spWRd rName)) (GX : Has P w K mg base CX0 5 "_law_read_sum" PWRSm (spWRd rExpr)) (GS : Has P w K mg base CX0 2 "_law_skip" PWSkp spWSkp) : FnOk P w K mg base CX0 6 f fd PWRAr (spWRd rArg) := by
  refine F.ok scWRAr (fun vs H Q E h => ?_) (fun cdv A outer s H vs Q E hr h => ?_)
  · obtain ⟨S, L, ts, l, rfl, _⟩ := h
    rfl
  · obtain ⟨S, L, ts, l, rfl, h, nl, k⟩ := h
    have hr2 := hr.mono (j := 2) (by omega)
    have hr3 := hr.mono (j := 3) (by omega)
    refine ⟨_, (pss_one (ps_ret (pe_ifExp (pt_val (pe_callH GS hr2 rfl pass0 (pa_cons (pv 0) (pa_cons pe_str pa_nil)))) (pe_callH GM hr3 rfl pass0 (pa_cons (pv 0) pa_nil)) (pe_callH GX hr rfl pass0 (pa_cons (pv 0) pa_nil))))), ?_⟩
    have e0 : rArg l = if isW "&" l = true then rName l.tail else rExpr l := rfl
    refine wcond (by decide +kernel) h (fun z => iteF ?_) (fun z H1 b1 h1 => iteT ?_)
    · rw [if_neg (by rw [z]; decide)] at e0
      exact ⟨_, rfl, S, L, ts, l, rfl, h, e0 ▸ nl, e0 ▸ k⟩
    · rw [if_pos z] at e0
      exact ⟨_, rfl, S, L, ts, l.tail, rfl, h1, e0 ▸ nl, e0 ▸ k.bt b1⟩
theorem ok_WRAs {f : Addr} {fd : FuncData} (F : Fun K "_law_read_args" "_law_read_args" sWRAs f fd) (GA : Has P w K mg base CX0 6 "_law_read_arg" PWRAr (spWRd rArg)) (GS : Has P w K mg base CX0 2 "_law_skip" PWSkp spWSkp) : FnOk P w K mg base CX0 7 f fd PWRAs (spWRd rArgs) := by
  refine F.ok scWRAs (fun vs H Q E h => ?_) (fun cdv A outer s H vs Q E hr h => ?_)
  · obtain ⟨S, L, ts, l, rfl, _⟩ := h
    rfl
  · obtain ⟨S, L, ts, l, rfl, h, nl, k⟩ := h
    have hr2 := hr.mono (j := 2) (by omega)
    refine ⟨_, (pss_cons (ps_if (pt_not (pt_val (pe_callH GS hr2 rfl pass0 (pa_cons (pv 0) (pa_cons pe_str pa_nil)))))
  (pss_one (ps_ret pe_bl))
  pss_nil)
  (pss_cons (ps_if (pt_val (pe_callH GS hr2 rfl pass0 (pa_cons (pv 0) (pa_cons pe_str pa_nil))))
  (pss_one (ps_ret pe_bl))
  pss_nil)
  (pss_cons (ps_set (i := 1) scWRAs.nd rfl (Or.inl rfl) (pe_callH GA hr rfl pass0 (pa_cons (pv 0) pa_nil)))
  (pss_cons (ps_while PassesOwn.never (PW.pt (pw_and (pt_val (pv 1)) (pw_and1 (pt_val (pe_callH GS hr2 rfl pass0 (pa_cons (pv 0) (pa_cons pe_str pa_nil)))))))
  (pss_one (ps_set (i := 1) scWRAs.nd rfl (Or.inl rfl) (pe_callH GA hr rfl pass0 (pa_cons (pv 0) pa_nil)))))
  (pss_one (ps_ret (pe_and (pv 1) (pe_one (pe_callH GS hr2 rfl pass0 (pa_cons (pv 0) (pa_cons pe_str pa_nil))))))))))), ?_⟩
    have cn : isW "," [] = false := by decide +kernel
    have wc : ("," : Str) ∈ MARKS := by decide +kernel
    have wr : (")" : Str) ∈ MARKS := by decide +kernel
    have key : ∀ (b : Bool) (l2 : Tl) (H2 : Hp), Bt S H H2 → LsS H2 S L ts l2 → (b = true → rArgs l = andR (rLoop (isW ",") rArg l2.length l2) (rExp ")")) → (b = false → ∃ p, rArgs l = .error (.syn p) ∧ posH l2 = p) → tSeq (tWhile (tAnd (tB (tVar 1)) (tB (tCall spWSkp [] E0 (tCons (tVar 0) (tCons (tC (V.str ",")) tNil))))) (tAsg (tCall (spWRd rArg) [] E0 (tCons (tVar 0) tNil)) (gName 1))) (tRet (tAndV (tVar 1) (tCall spWSkp [] E0 (tCons (tVar 0) (tCons (tC (V.str ")")) tNil))))) { nx := fun _ H' => Q .non H', rt := Q } [some (.ref S), some (.bl b)] H2 := fun b l2 H2 b2 h2 e1 e2 => by
      refine wloop (H0 := H) (σr := []) (T := rExp ")") (G := fun l2 => andR (rLoop (isW ",") rArg l2.length l2) (rExp ")")) (fun H Q q => ⟨_, rfl, false, rfl, q⟩) (fun l3 H3 b3 h3 e3 N Y fin hY hs hn hb => ?_) (fun l3 H3 b3 h3 e3 => ?_) (fun p l3 H3 b3 h3 e3 q => by exact ⟨_, rfl, _, rfl, iteF (k.no p e3 l3 H3 b3 h3 q)⟩) b2 h2 e1 e2
      · rw [loop_eq suf_arg cn] at e3
        refine ⟨_, rfl, true, rfl, wcond wc h3 (fun z => iteF (hs H3 (.of (Same.refl _)) h3 ?_)) fun z H4 b4 h4 => iteT (hY _ ?_)⟩
        · rw [if_neg (by rw [z]; decide)] at e3
          exact e3
        · rw [if_pos z] at e3
          have lt := tail_lt (nonnil_W z)
          refine ⟨_, rfl, S, L, ts, l3.tail, rfl, h4, fun ww e => nl ww (by rw [e3, e]; rfl), ⟨fun l5 e5 H5 b5 h5 => hn l5 H5 ?_ (b4.trans b5) h5 ?_, fun p e5 l5 H5 b5 h5 q => hb p l5 H5 (b4.trans b5) h5 ?_ q⟩⟩
          · have := (suf_arg _ _ e5).length_le; omega
          · rw [e3, e5]; rfl
          · rw [e3, e5]; rfl
      · have er : rExp ")" l3 = if isW ")" l3 = true then .ok l3.tail else synE l3 := rfl
        refine ⟨_, rfl, _, rfl, iteT ⟨_, rfl, S, L, ts, l3, ")", rfl, by decide +kernel, h3, fun z => ?_, fun z H4 b4 h4 => ?_⟩⟩
        · rw [if_neg (by rw [← h3.w wr, decide_eq_false z]; decide)] at er
          exact k.no _ (e3.trans er) l3 H3 b3 h3 rfl
        · rw [if_pos (by rw [← h3.w wr, decide_eq_true z])] at er
          exact k.ok _ (e3.trans er) H4 (b3.trans b4) h4
    have e0 : rArgs l = andR (if isW "(" l = true then .ok l.tail else synE l) fun l1 => if isW ")" l1 = true then .ok l1.tail else andR (rArg l1) fun l2 => andR (rMore rArg l2.length l2) (rExp ")") := rfl
    refine wcond (by decide +kernel) h (fun z => iteT ?_) (fun z H1 b1 h1 => iteF ?_)
    · rw [if_neg (by rw [z]; decide)] at e0
      exact k.no _ e0 l H (.of (Same.refl _)) h rfl
    · rw [if_pos z] at e0
      have e0 : rArgs l = if isW ")" l.tail = true then .ok l.tail.tail else andR (rArg l.tail) fun l2 => andR (rMore rArg l2.length l2) (rExp ")") := e0
      refine wcond wr h1 (fun z => iteF ?_) (fun z H2 b2 h2 => iteT ?_)
      · rw [if_neg (by rw [z]; decide)] at e0
        refine ⟨_, rfl, S, L, ts, l.tail, rfl, h1, fun ww e => nl ww (by rw [e0, e]; rfl), ⟨fun l1 e1 H2 b2 h2 => key true l1 H2 (b1.trans b2) h2 (fun _ => ?_) (fun z => nomatch z), fun p e1 l1 H2 b2 h2 q => key false l1 H2 (b1.trans b2) h2 (fun z => nomatch z) fun _ => ⟨p, ?_, q⟩⟩⟩
        · rw [e0, e1]; rfl
        · rw [e0, e1]; rfl
      · rw [if_pos z] at e0
        exact k.ok _ e0 H2 (b1.trans b2) h2
end

/-! ### k04: an action by the law's own reader -/
abbrev sWRAc : Stmt := topS 42
abbrev NWRAc : List Str := ["_law_state", "_law_tokens"]
abbrev PWRAc : List Str := ["_law_state"]
theorem scWRAc : FnScope NWRAc PWRAc (defScope sWRAc) := ⟨rfl, rfl, rfl, by decide +kernel, rfl, by decide +kernel, by decide +kernel⟩
theorem cut_nx {xs : List V} {a : Nat} : cutV xs (some ((a : Nat) : Int)) (some ((a + 1 : Nat) : Int)) = (xs.drop a).take 1 := by
  unfold cutV
  rw [HT.sIx_nat, HT.sIx_nat]
  rcases Nat.lt_or_ge a xs.length with h | h
  · rw [Nat.min_eq_left (by omega), Nat.min_eq_left (by omega), show a + 1 - a = 1 by omega]
  · rw [Nat.min_eq_right h, Nat.min_eq_right (by omega), List.drop_length, List.drop_of_length_le h]
    simp
theorem tok_strOk {y : Str × Str} (g : TokG y) : PyData.strOk y.2 = true := by
  unfold PyData.strOk
  rw [← Array.all_toList, List.all_eq_true]
  intro c hc
  rcases g with ⟨d, hd, rfl⟩ | ⟨_, h2, _, _⟩
  · have : ∀ d ∈ SIG.cps.toList, decide (d < 0x110000) = true := by decide +kernel
    have hc : c ∈ [d] := hc
    rw [List.mem_singleton.mp hc]
    exact this d hd
  · have := h2 c hc
    unfold al at this
    rw [Bool.or_eq_true] at this
    rcases this with z | z
    · exact (by decide +kernel : ∀ d ∈ LET.cps.toList, decide (d < 0x110000) = true) c (of_decide_eq_true z)
    · exact (by decide +kernel : ∀ d ∈ DIG.cps.toList, decide (d < 0x110000) = true) c (of_decide_eq_true z)
theorem shaped_1 {x : Str} (h : PyData.strOk x = true) : SeqAt.shaped (.list [.str x]) = true := by
  unfold SeqAt.shaped
  simp [PyData.canLay0, PyData.canLayAll0, PyData.depth, PyData.depthAll, h]
/-- the word behind the one that comes next -/
theorem nxt_word {ts : Tl} {i : Nat} (wf : WfT ts) (hi : i + 1 < ts.length) : ∃ xs : List Str, ((wsOf ts).drop (i + 1)).take 1 = xs ∧ SeqAt.shaped (.list (xs.map .str)) = true ∧ PyData.eqv (.list (xs.map .str)) (.list [.str "("]) = decide (textH (ts.drop (i + 1)) = "(") := by
  obtain ⟨P, e, rfl, hP, lP⟩ := wf
  rw [ws_app, List.length_append] at *
  have hi : i + 1 < P.length + 1 := hi
  rcases Nat.lt_or_ge (i + 1) P.length with q | q
  · have hk := hP _ (List.getElem_mem q)
    have e1 : (P ++ [(("end", "", e) : TK)]).drop (i + 1) = P[i + 1] :: ((P.drop (i + 1 + 1)) ++ [(("end", "", e) : TK)]) := by
      rw [List.drop_append_of_le_length (by omega), List.drop_eq_getElem_cons q]
      rfl
    refine ⟨[P[i + 1].2.1], ?_, shaped_1 (tok_strOk hk.1), ?_⟩
    · rw [← List.map_drop, List.drop_eq_getElem_cons q]
      rfl
    · rw [e1]
      show PyData.eqv (.list [.str P[i + 1].2.1]) (.list [.str "("]) = decide (P[i + 1].2.1 = "(")
      simp [PyData.eqv, PyData.eqvAll]
      rfl
  · have : i + 1 = P.length := by omega
    refine ⟨[], ?_, by decide +kernel, ?_⟩
    · rw [List.drop_of_length_le (by rw [List.length_map]; omega)]
      rfl
    · rw [this, List.drop_left]
      show PyData.eqv (.list []) (.list [.str "("]) = decide (("" : Str) = "(")
      decide +kernel
/-- what is read where a name comes next -/
def spWRdN (r : Tl → RdR) : Sp := fun vs H Q _ => ∃ (S L : Addr) (ts l : Tl), vs = [.ref S] ∧ LsS H S L ts l ∧ isN l = true ∧ NL (r l) ∧ Fin Q H S L ts (r l)
section
variable {P : Program} {w : World} {K : PySem.W.Frag} {mg : Str → Option Value} {base : Heap}
theorem ok_WRAc {f : Addr} {fd : FuncData} (F : Fun K "_law_read_action" "_law_read_action" sWRAc f fd) (GM : Has P w K mg base CX0 3 "_law_read_name" PWRNm (spWRd rName)) (GX : Has P w K mg base CX0 5 "_law_read_sum" PWRSm (spWRd rExpr)) (GS : Has P w K mg base CX0 2 "_law_skip" PWSkp spWSkp) (GN : Has P w K mg base CX0 1 "_law_now" PWNow spWNow) (GI : Has P w K mg base CX0 1 "_law_is_name" PWNam spWNam) (GA : Has P w K mg base CX0 7 "_law_read_args" PWRAs (spWRd rArgs)) : FnOk P w K mg base CX0 8 f fd PWRAc (spWRdN rAction) := by
  refine F.ok scWRAc (fun vs H Q E h => ?_) (fun cdv A outer s H vs Q E hr h => ?_)
  · obtain ⟨S, L, ts, l, rfl, _⟩ := h
    rfl
  · obtain ⟨S, L, ts, l, rfl, h, hn, nl, k⟩ := h
    have hr1 := hr.mono (j := 1) (by omega)
    have hr2 := hr.mono (j := 2) (by omega)
    have hr3 := hr.mono (j := 3) (by omega)
    have hr5 := hr.mono (j := 5) (by omega)
    refine ⟨_, (pss_cons (ps_expr (pe_callH GM hr3 rfl pass0 (pa_cons (pv 0) pa_nil)))
  (pss_cons (ps_if (pt_cmpR op_eq (pe_callH GN hr1 rfl pass0 (pa_cons (pv 0) pa_nil)) pe_str (nomark _))
  (pss_one (ps_ret (pe_callH GA hr rfl pass0 (pa_cons (pv 0) pa_nil))))
  pss_nil)
  (pss_cons (ps_if (pt_not (pt_val (pe_callH GS hr2 rfl pass0 (pa_cons (pv 0) (pa_cons pe_str pa_nil)))))
  (pss_one (ps_ret pe_bl))
  pss_nil)
  (pss_cons (ps_if (pt_val (pe_callH GS hr2 rfl pass0 (pa_cons (pv 0) (pa_cons pe_str pa_nil))))
  (pss_one (ps_ret pe_bl))
  pss_nil)
  (pss_cons (ps_set (i := 1) scWRAc.nd rfl (Or.inl rfl) (pe_ix (r := rIxL K) ix_list (pv 0) pe_int (fun _ _ => rfl)))
  (pss_cons (ps_if (PW.pt (pw_and (pt_val (pe_callH GI hr1 rfl pass0 (pa_cons (pe_callH GN hr1 rfl pass0 (pa_cons (pv 0) pa_nil)) pa_nil))) (pw_and1 (pt_cmpR (op_eqD hr.units) (pe_slice sl_list (pv 1) (po_some (pe_op op_add (pe_ix (r := rIxL K) ix_list (pv 0) pe_int (fun _ _ => rfl)) pe_int)) (po_some (pe_op op_add (pe_ix (r := rIxL K) ix_list (pv 0) pe_int (fun _ _ => rfl)) pe_int))) (pe_lst (pa_cons pe_str pa_nil)) (nomark _)))))
  (pss_cons (ps_expr (pe_callH GM hr3 rfl pass0 (pa_cons (pv 0) pa_nil)))
  (pss_one (ps_ret (pe_callH GA hr rfl pass0 (pa_cons (pv 0) pa_nil)))))
  pss_nil)
  (pss_one (ps_ret (pe_callH GX hr5 rfl pass0 (pa_cons (pv 0) pa_nil)))))))))), ?_⟩
    have er : rName l = .ok l.tail := if_pos hn
    have e0 : rAction l = if isW "(" l.tail = true then rArgs l.tail else andR (rExp "=" l.tail) rSet := by
      show andR (rName l) _ = _
      rw [er]
      rfl
    have wl : ("(" : Str) ∈ MARKS := by decide +kernel
    have we : ("=" : Str) ∈ MARKS := by decide +kernel
    have wq : ("?" : Str) ∈ MARKS := by decide +kernel
    refine ⟨_, rfl, S, L, ts, l, rfl, h, (fun ww e => by rw [er] at e; cases e), ⟨fun l1 e1 H1 b1 h1 => ?_, fun p e1 => by rw [er] at e1; cases e1⟩⟩
    rw [er] at e1
    cases e1
    refine ⟨_, rfl, S, L, ts, l.tail, rfl, h1, rfl, _, rfl, ?_⟩
    have ew := h1.w wl
    by_cases z : textH l.tail = "("
    · rw [decide_eq_true z] at ew
      rw [if_pos ew.symm] at e0
      exact iteS (decide_eq_true (by rw [z])) ⟨_, rfl, S, L, ts, l.tail, rfl, h1, e0 ▸ nl, e0 ▸ k.bt b1⟩
    · rw [decide_eq_false z] at ew
      rw [if_neg (by rw [← ew]; decide)] at e0
      refine iteE (decide_eq_false fun q => z (V.str.inj q)) ?_
      have e0 : rAction l = andR (if isW "=" l.tail = true then .ok l.tail.tail else synE l.tail) rSet := e0
      refine wcond we h1 (fun z => iteT ?_) (fun z H2 b2 h2 => iteF ?_)
      · rw [if_neg (by rw [z]; decide)] at e0
        exact k.no _ e0 _ H1 b1 h1 rfl
      · rw [if_pos z] at e0
        generalize l.tail.tail = l2 at *
        have e0 : rAction l = if isW "?" l2 = true then .ok l2.tail else if (isN l2 && decide (textH l2.tail = "(")) = true then andR (rName l2) rArgs else rExpr l2 := e0
        refine wcond wq h2 (fun z => iteF ?_) (fun z H3 b3 h3 => iteT ?_)
        · rw [if_neg (by rw [z]; decide)] at e0
          obtain ⟨i, a, b, c, d, lt, wf⟩ := id h2
          refine ⟨_, rfl, S, _, 0, _, rfl, rfl, SqL.of a, rfl, ?_⟩
          refine ⟨_, rfl, S, L, ts, l2, rfl, h2, textH l2, rfl, by have := h2.len; omega, fun H3 s3 => ⟨_, rfl, ?_⟩⟩
          have h3 := h2.same s3
          have b3 := b1.trans (b2.trans (.of s3))
          have sum : rAction l = rExpr l2 → ∀ {H4 : Hp}, Same H3 H4 → tRet (tCall (spWRd rExpr) [] E0 (tCons (tVar 0) tNil)) { nx := fun _ H' => Q .non H', rt := Q } [some (.ref S), some (.ref L)] H4 := fun e4 H4 s4 => ⟨_, rfl, S, L, ts, l2, rfl, h3.same s4, e4 ▸ nl, e4 ▸ k.bt (b3.trans (.of s4))⟩
          rw [h2.n]
          cases qn : isN l2 with
          | false =>
            rw [if_neg (by rw [qn, Bool.false_and]; decide)] at e0
            exact iteF (sum e0 (Same.refl _))
          | true =>
            rw [qn, Bool.true_and] at e0
            obtain ⟨i', a', b', c', d', lt', wf'⟩ := id h3
            have hi1 : i + 1 < ts.length := by
              obtain ⟨x, r, e, g | ⟨g, _, _⟩⟩ := h2.hd
              · rcases Nat.lt_or_ge (i + 1) ts.length with z | z
                · exact z
                · rw [List.drop_eq_getElem_cons lt, List.drop_of_length_le z] at d
                  rw [← d] at e
                  injection e with _ e
                  exact absurd e.symm g.2.1
              · rw [e] at qn
                have : x.1 = "name" := of_decide_eq_true qn
                rw [g] at this
                exact absurd this (by decide +kernel)
            obtain ⟨xs, ex, shx, eqx⟩ := nxt_word wf hi1
            have a3 := s3 _ _ a
            have bb3 := s3 _ _ b
            have dt : ts.drop (i + 1) = l2.tail := by rw [← List.drop_drop, d, List.drop_one]
            rw [dt] at eqx
            refine iteT ⟨_, rfl, _, rfl, S, _, 1, _, rfl, rfl, SqL.of a3, rfl, _, _, rfl, rfl, _, rfl, _, rfl, S, _, 1, _, rfl, rfl, SqL.of a3, rfl, _, _, rfl, rfl, _, rfl, L, _, rfl, SqL.of bb3, fun y1 n1 => ?_⟩
            rw [show ((i : Int) + 1) = ((i + 1 : Nat) : Int) from rfl, show ((i : Int) + 2) = ((i + 1 + 1 : Nat) : Int) from rfl, cut_nx, ← List.map_drop, ← List.map_take, ex]
            have s4 := same_new (o := .lst (xs.map V.str)) n1
            have e4 : upd H3 y1 (.lst (xs.map V.str)) y1 = some (.lst (xs.map V.str)) := upd_same
            generalize upd H3 y1 (.lst (xs.map V.str)) = H4 at *
            refine ⟨(by show 1 ≤ sizeLine; decide), fun y2 n2 => ?_⟩
            have s5 := same_new (o := .lst [V.str "("]) n2
            have e5 : upd H4 y2 (.lst [V.str "("]) y2 = some (.lst [V.str "("]) := upd_same
            have e4 := s5 _ _ e4
            generalize upd H4 y2 (.lst [V.str "("]) = H5 at *
            have s45 := s4.trans s5
            have dxs : ∀ (l : List Str), DpAll K H5 (l.map V.str) (l.map PyData.str) := fun l => by
              induction l with
              | nil => exact .nil
              | cons x r ih => exact .cons (.str x) ih
            refine ⟨_, _, .lst (SqL.of e4) (dxs xs), .lst (SqL.of e5) (.cons (.str _) .nil), shx, by decide +kernel, _, rfl, ?_⟩
            rw [eqx]
            have h5 := h3.same s45
            by_cases qp : textH l2.tail = "("
            · rw [if_pos (decide_eq_true qp)] at e0
              have er2 : rName l2 = .ok l2.tail := if_pos qn
              refine iteS (decide_eq_true qp) ⟨_, rfl, S, L, ts, l2, rfl, h5, (fun ww e => by rw [er2] at e; cases e), ⟨fun l6 e6 H6 b6 h6 => ?_, fun p e6 => by rw [er2] at e6; cases e6⟩⟩
              rw [er2] at e6
              cases e6
              have e0 : rAction l = rArgs l2.tail := by rw [e0, er2]; rfl
              exact ⟨_, rfl, S, L, ts, l2.tail, rfl, h6, e0 ▸ nl, e0 ▸ k.bt (b3.trans ((Bt.of s45).trans b6))⟩
            · rw [if_neg (by rw [decide_eq_false qp]; decide)] at e0
              exact iteE (decide_eq_false qp) (sum e0 s45)
        · rw [if_pos z] at e0
          exact k.ok _ e0 H3 (b1.trans (b2.trans b3)) h3
end

/-! ### k04: statements and blocks by the law's own reader -/
abbrev sWRTy : Stmt := topS 43
abbrev NWRTy : List Str := ["_law_state", "_law_count"]
abbrev PWRTy : List Str := ["_law_state"]
theorem scWRTy : FnScope NWRTy PWRTy (defScope sWRTy) := ⟨rfl, rfl, rfl, by decide +kernel, rfl, by decide +kernel, by decide +kernel⟩
abbrev sWRWi : Stmt := topS 44
abbrev NWRWi : List Str := ["_law_state"]
abbrev PWRWi : List Str := ["_law_state"]
theorem scWRWi : FnScope NWRWi PWRWi (defScope sWRWi) := ⟨rfl, rfl, rfl, by decide +kernel, rfl, by decide +kernel, by decide +kernel⟩
abbrev sWRSt : Stmt := topS 45
abbrev NWRSt : List Str := ["_law_state"]
abbrev PWRSt : List Str := ["_law_state"]
theorem scWRSt : FnScope NWRSt PWRSt (defScope sWRSt) := ⟨rfl, rfl, rfl, by decide +kernel, rfl, by decide +kernel, by decide +kernel⟩
abbrev sWRBk : Stmt := topS 41
abbrev NWRBk : List Str := ["_law_state"]
abbrev PWRBk : List Str := ["_law_state"]
theorem scWRBk : FnScope NWRBk PWRBk (defScope sWRBk) := ⟨rfl, rfl, rfl, by decide +kernel, rfl, by decide +kernel, by decide +kernel⟩
section
variable {S L : Addr} {ts : Tl} {R : RdR} {r g : Tl → RdR} {l : Tl} {H H1 : Hp} {Q Q' : VK} {σr : L2.St}
/-- a part, and what follows it -/
theorem wstep (e : R = andR (r l) g) (nl : NL R) (b : Bt S H H1) (h : LsS H1 S L ts l) (ok : ∀ l' H', R = g l' → r l = .ok l' → Bt S H H' → LsS H' S L ts l' → Q' (.bl true) H') (no : ∀ p l' H', R = .error (.syn p) → Bt S H H' → LsS H' S L ts l' → posH l' = p → Q' (.bl false) H') : spWRd r [.ref S] H1 Q' E0 :=
  ⟨S, L, ts, l, rfl, h, fun ww e2 => nl ww (by rw [e, e2]; rfl), ⟨fun l' e2 H' b' h' => ok l' H' (by rw [e, e2]; rfl) e2 (b.trans b') h', fun p e2 l' H' b' h' q => no p l' H' (by rw [e, e2]; rfl) (b.trans b') h' q⟩⟩
theorem wlast (e : R = r l) (nl : NL R) (k : Fin Q H S L ts R) (b : Bt S H H1) (h : LsS H1 S L ts l) : spWRd r [.ref S] H1 Q E0 := ⟨S, L, ts, l, rfl, h, e ▸ nl, e ▸ k.bt b⟩
/-- a mark comes next, or not: as a value -/
theorem wskip {w : Str} (hw : w ∈ MARKS) (h : LsS H S L ts l) (k1 : isW w l = false → Q' (.bl false) H) (k2 : isW w l = true → ∀ H', Bt S H H' → LsS H' S L ts l.tail → Q' (.bl true) H') : spWSkp [.ref S, .str w] H Q' E0 := by
  have nw : w ≠ "" := fun z => by
    have := (marks_ok w hw).1
    rw [z] at this
    exact absurd (by decide +kernel) this
  exact ⟨S, L, ts, l, w, rfl, nw, h, fun z => k1 (by rw [← h.w hw, decide_eq_false z]), fun z H4 b4 h4 => k2 (by rw [← h.w hw, decide_eq_true z]) H4 b4 h4⟩
theorem wskipV {w : Str} (hw : w ∈ MARKS) (h : LsS H S L ts l) (k1 : isW w l = false → Q' (.bl false) H) (k2 : isW w l = true → ∀ H', Bt S H H' → LsS H' S L ts l.tail → Q' (.bl true) H') : tCall spWSkp [] E0 (tCons (tVar 0) (tCons (tC (V.str w)) tNil)) (some (.ref S) :: σr) H Q' := ⟨_, rfl, wskip hw h k1 k2⟩
theorem exp_if (w : Str) (l : Tl) : rExp w l = if isW w l = true then .ok l.tail else synE l := rfl
end
section
variable {P : Program} {w : World} {K : PySem.W.Frag} {mg : Str → Option Value} {base : Heap}
theorem ok_WRWi {n : Nat} {blk : Tl → RdR} {f : Addr} {fd : FuncData} (F : Fun K "_law_read_with" "_law_read_with" sWRWi f fd) (GM : Has P w K mg base CX0 3 "_law_read_name" PWRNm (spWRd rName)) (GS : Has P w K mg base CX0 2 "_law_skip" PWSkp spWSkp) (GL : Has P w K mg base CX0 4 "_law_read_list" PWRLs (spWRd rNames)) (GA : Has P w K mg base CX0 7 "_law_read_args" PWRAs (spWRd rArgs)) (GB : Has P w K mg base CX0 (9 + 3 * n) "_law_read_block" PWRBk (spWRd blk)) : FnOk P w K mg base CX0 (9 + 3 * n + 1) f fd PWRWi (spWRd (rWith blk)) := by
  refine F.ok scWRWi (fun vs H Q E h => ?_) (fun cdv A outer s H vs Q E hr h => ?_)
  · obtain ⟨S, L, ts, l, rfl, _⟩ := h
    rfl
  · obtain ⟨S, L, ts, l, rfl, h, nl, k⟩ := h
    have hr2 := hr.mono (j := 2) (by omega)
    have hr3 := hr.mono (j := 3) (by omega)
    have hr4 := hr.mono (j := 4) (by omega)
    have hr7 := hr.mono (j := 7) (by omega)
    refine ⟨_, (pss_cons (ps_if (PW.pt (pw_or (pt_not (pt_val (pe_callH GM hr3 rfl pass0 (pa_cons (pv 0) pa_nil)))) (pw_or (pt_not (pt_val (pe_callH GA hr7 rfl pass0 (pa_cons (pv 0) pa_nil)))) (pw_or1 (pt_not (pt_val (pe_callH GS hr2 rfl pass0 (pa_cons (pv 0) (pa_cons pe_str pa_nil)))))))))
  (pss_one (ps_ret pe_bl))
  pss_nil)
  (pss_cons (ps_if (PW.pt (pw_or (pt_not (pt_val (pe_callH GM hr3 rfl pass0 (pa_cons (pv 0) pa_nil)))) (pw_or1 (pt_not (pt_val (pe_callH GA hr7 rfl pass0 (pa_cons (pv 0) pa_nil)))))))
  (pss_one (ps_ret pe_bl))
  pss_nil)
  (pss_cons (ps_if (PW.pt (pw_and (pt_val (pe_callH GS hr2 rfl pass0 (pa_cons (pv 0) (pa_cons pe_str pa_nil)))) (pw_and1 (pt_not (pt_val (pe_callH GL hr4 rfl pass0 (pa_cons (pv 0) pa_nil)))))))
  (pss_one (ps_ret pe_bl))
  pss_nil)
  (pss_one (ps_ret (pe_callH GB hr rfl pass0 (pa_cons (pv 0) pa_nil))))))), ?_⟩
    have bad : ∀ {D : Ends} {σ : L2.St} {p : Nat} {l' : Tl} {H' : Hp}, D.rt = Q → rWith blk l = .error (.syn p) → Bt S H H' → LsS H' S L ts l' → posH l' = p → tRet (tC (V.bl false)) D σ H' := fun {D σ p l' H'} eD e b h q => by
      show D.rt (.bl false) H'
      rw [eD]
      exact k.no p e l' H' b h q
    have wc : ("," : Str) ∈ MARKS := by decide +kernel
    have ws : ("swallow" : Str) ∈ MARKS := by decide +kernel
    have e0 : rWith blk l = andR (rName l) fun l1 => andR (rArgs l1) fun l2 => andR (rExp "," l2) fun l3 => andR (rName l3) fun l4 => andR (rArgs l4) fun l5 => andR (if isW "swallow" l5 = true then rNames l5.tail else .ok l5) blk := rfl
    refine ⟨_, rfl, wstep e0 nl (.of (Same.refl _)) h (fun l1 H1 e1 _ b1 h1 => ⟨true, rfl, iteF ?_⟩) (fun p l' H' e b' h' q => ⟨false, rfl, iteT (iteT (bad rfl e b' h' q))⟩)⟩
    refine ⟨_, rfl, wstep e1 nl b1 h1 (fun l2 H2 e2 _ b2 h2 => ⟨true, rfl, iteF ?_⟩) (fun p l' H' e b' h' q => ⟨false, rfl, iteT (bad rfl e b' h' q)⟩)⟩
    have e2 : rWith blk l = andR (if isW "," l2 = true then .ok l2.tail else synE l2) _ := e2
    refine wcond wc h2 (fun z => ?_) (fun z H3 b3 h3 => ?_)
    · rw [if_neg (by rw [z]; decide)] at e2
      exact bad rfl e2 b2 h2 rfl
    rw [if_pos z] at e2
    replace b3 := b2.trans b3
    refine ⟨_, rfl, wstep e2 nl b3 h3 (fun l4 H4 e4 _ b4 h4 => ⟨true, rfl, iteF ?_⟩) (fun p l' H' e b' h' q => ⟨false, rfl, iteT (bad rfl e b' h' q)⟩)⟩
    refine ⟨_, rfl, wstep e4 nl b4 h4 (fun l5 H5 e5 _ b5 h5 => ⟨true, rfl, ?_⟩) (fun p l' H' e b' h' q => ⟨false, rfl, bad rfl e b' h' q⟩)⟩
    refine wcond ws h5 (fun z => iteF ?_) (fun z H6 b6 h6 => iteT ?_)
    · rw [if_neg (by rw [z]; decide)] at e5
      exact ⟨_, rfl, wlast e5 nl k b5 h5⟩
    · rw [if_pos z] at e5
      refine ⟨_, rfl, wstep e5 nl (b5.trans b6) h6 (fun l7 H7 e7 _ b7 h7 => ⟨true, rfl, ?_⟩) (fun p l' H' e b' h' q => ⟨false, rfl, bad rfl e b' h' q⟩)⟩
      exact ⟨_, rfl, wlast e7 nl k b7 h7⟩
theorem ok_WRTy {n : Nat} {blk : Tl → RdR} (sb : Suf blk) {f : Addr} {fd : FuncData} (F : Fun K "_law_read_try" "_law_read_try" sWRTy f fd) (GS : Has P w K mg base CX0 2 "_law_skip" PWSkp spWSkp) (GN : Has P w K mg base CX0 1 "_law_now" PWNow spWNow) (GL : Has P w K mg base CX0 4 "_law_read_list" PWRLs (spWRd rNames)) (GB : Has P w K mg base CX0 (9 + 3 * n) "_law_read_block" PWRBk (spWRd blk)) : FnOk P w K mg base CX0 (9 + 3 * n + 1) f fd PWRTy (spWRd (rTry blk)) := by
  refine F.ok scWRTy (fun vs H Q E h => ?_) (fun cdv A outer s H vs Q E hr h => ?_)
  · obtain ⟨S, L, ts, l, rfl, _⟩ := h
    rfl
  · obtain ⟨S, L, ts, l, rfl, h, nl, k⟩ := h
    have hr1 := hr.mono (j := 1) (by omega)
    have hr2 := hr.mono (j := 2) (by omega)
    have hr4 := hr.mono (j := 4) (by omega)
    refine ⟨_, (pss_cons (ps_if (pt_not (pt_val (pe_callH GB hr rfl pass0 (pa_cons (pv 0) pa_nil))))
  (pss_one (ps_ret pe_bl))
  pss_nil)
  (pss_cons (ps_set (i := 1) scWRTy.nd rfl (Or.inl rfl) pe_int)
  (pss_cons (ps_while PassesOwn.never (pt_val (pe_callH GS hr2 rfl pass0 (pa_cons (pv 0) (pa_cons pe_str pa_nil))))
  (pss_cons (ps_set (i := 1) scWRTy.nd rfl (Or.inl rfl) (pe_op op_add (pv 1) pe_int))
  (pss_one (ps_if (PW.pt (pw_or (pt_not (pt_val (pe_callH GL hr4 rfl pass0 (pa_cons (pv 0) pa_nil)))) (pw_or1 (pt_not (pt_val (pe_callH GB hr rfl pass0 (pa_cons (pv 0) pa_nil)))))))
  (pss_one (ps_ret pe_bl))
  pss_nil))))
  (pss_cons (ps_if (PW.pt (pw_and (pt_cmpR op_gt (pv 1) pe_int (nomark _)) (pw_and1 (pt_cmpR op_ne (pe_callH GN hr1 rfl pass0 (pa_cons (pv 0) pa_nil)) pe_str (nomark _)))))
  (pss_one (ps_ret pe_bl))
  pss_nil)
  (pss_one (ps_ret (pe_and (pe_callH GS hr2 rfl pass0 (pa_cons (pv 0) (pa_cons pe_str pa_nil))) (pe_one (pe_callH GB hr rfl pass0 (pa_cons (pv 0) pa_nil)))))))))), ?_⟩
    have bad : ∀ {D : Ends} {σ : L2.St} {p : Nat} {l' : Tl} {H' : Hp}, D.rt = Q → rTry blk l = .error (.syn p) → Bt S H H' → LsS H' S L ts l' → posH l' = p → tRet (tC (V.bl false)) D σ H' := fun {D σ p l' H'} eD e b h q => by
      show D.rt (.bl false) H'
      rw [eD]
      exact k.no p e l' H' b h q
    have we : ("except" : Str) ∈ MARKS := by decide +kernel
    have wf : ("finally" : Str) ∈ MARKS := by decide +kernel
    have e0 := try_eq blk l
    refine ⟨_, rfl, wstep e0 nl (.of (Same.refl _)) h (fun l1 H1 e1 _ b1 h1 => ⟨true, rfl, ?_⟩) (fun p l' H' e b' h' q => ⟨false, rfl, bad rfl e b' h' q⟩)⟩
    refine ⟨fun m σ H' => ∃ (l2 : Tl) (c : Nat), m = l2.length ∧ σ = [some (.ref S), some (.int (c : Nat))] ∧ Bt S H H' ∧ LsS H' S L ts l2 ∧ rTry blk l = tryT blk (decide (c = 0)) l2 ∧ c + l2.length ≤ l1.length, ⟨_, l1, 0, rfl, rfl, b1, h1, e1, by omega⟩, ?_⟩
    rintro m σ H2 ⟨l2, c, rfl, rfl, b2, h2, e2, lc⟩
    unfold tryT at e2
    refine wcond we h2 (fun z => iteF ?_) (fun z H3 b3 h3 => iteT ?_)
    · rw [if_neg (by rw [z]; decide)] at e2
      have fin : ∀ {e3 : rTry blk l = if isW "finally" l2 = true then blk l2.tail else (if decide (c = 0) = true then synE l2 else .ok l2)}, (isW "finally" l2 = true ∨ c = 0) → tRet (tAndV (tCall spWSkp [] E0 (tCons (tVar 0) (tCons (tC (V.str "finally")) tNil))) (tCall (spWRd blk) [] E0 (tCons (tVar 0) tNil))) { nx := fun _ H' => Q .non H', rt := Q } [some (.ref S), some (.int (c : Nat))] H2 := fun {e3} hc => by
        show tAndV (tCall spWSkp [] E0 (tCons (tVar 0) (tCons (tC (V.str "finally")) tNil))) (tCall (spWRd blk) [] E0 (tCons (tVar 0) tNil)) [some (.ref S), some (.int (c : Nat))] H2 Q
        unfold tAndV
        refine wskipV wf h2 (fun z => ⟨_, rfl, iteF ?_⟩) (fun z H3 b3 h3 => ⟨_, rfl, iteT ?_⟩)
        · rw [if_neg (by rw [z]; decide)] at e3
          rcases hc with q | q
          · rw [z] at q; cases q
          · rw [if_pos (decide_eq_true q)] at e3
            exact k.no _ e3 l2 H2 b2 h2 rfl
        · rw [if_pos z] at e3
          exact ⟨_, rfl, wlast e3 nl k (b2.trans b3) h3⟩
      by_cases hc : c = 0
      · rw [if_pos (decide_eq_true hc)] at e2
        have e3 : rTry blk l = if isW "finally" l2 = true then blk l2.tail else (if decide (c = 0) = true then synE l2 else .ok l2) := by
          rw [e2, if_pos (decide_eq_true hc), exp_if]
          by_cases q : isW "finally" l2 = true
          · rw [if_pos q, if_pos q]; rfl
          · rw [if_neg q, if_neg q]; rfl
        refine ⟨_, rfl, _, _, rfl, rfl, _, rfl, ?_⟩
        rw [decide_eq_false (by omega)]
        exact iteF (iteF (fin (e3 := e3) (.inr hc)))
      · rw [if_neg (by rw [decide_eq_false hc]; decide)] at e2
        have e3 : rTry blk l = if isW "finally" l2 = true then blk l2.tail else (if decide (c = 0) = true then synE l2 else .ok l2) := by
          rw [e2, if_neg (by rw [decide_eq_false hc]; decide : ¬ decide (c = 0) = true)]
          rfl
        refine ⟨_, rfl, _, _, rfl, rfl, _, rfl, ?_⟩
        rw [decide_eq_true (by omega)]
        refine iteT ⟨_, rfl, S, L, ts, l2, rfl, h2, rfl, _, rfl, ?_⟩
        have ef := h2.w wf
        by_cases q : textH l2 = "finally"
        · rw [decide_eq_true q] at ef
          refine iteE (by rw [decide_eq_true (by rw [q] : V.str (textH l2) = V.str "finally")]; rfl) (fin (e3 := e3) (.inl ef.symm))
        · rw [decide_eq_false q] at ef
          refine iteS (by rw [decide_eq_false (fun z => q (V.str.inj z) : ¬ V.str (textH l2) = V.str "finally")]; rfl) ?_
          rw [if_neg (by rw [← ef]; decide), if_neg (by rw [decide_eq_false hc]; decide)] at e3
          exact k.ok l2 e3 H2 b2 h2
    · rw [if_pos z] at e2
      have ft : (fun l3 => andR (rLoop (isW "except") (rHand blk) l3.length l3) (fin2 blk)) = tryT blk false := funext fun l3 => tryT_loop sb l3
      rw [ft] at e2
      have e2 : rTry blk l = andR (andR (rNames l2.tail) blk) (tryT blk false) := e2
      rw [andR_assoc] at e2
      have lt := tail_lt (nonnil_W z)
      refine ⟨fun σ' H' => ∃ (l5 : Tl) (c : Nat), l5.length < l2.length ∧ σ' = [some (.ref S), some (.int (c : Nat))] ∧ Bt S H H' ∧ LsS H' S L ts l5 ∧ rTry blk l = tryT blk (decide (c = 0)) l5 ∧ c + l5.length ≤ l1.length, fun σ' H' ⟨l5, c, u0, u1⟩ => ⟨l5.length, u0, l5, c, rfl, u1⟩, ?_⟩
      refine ⟨_, rfl, _, _, rfl, rfl, ?_⟩
      refine ⟨_, rfl, wstep e2 nl (b2.trans b3) h3 (fun l4 H4 e4 t4 b4 h4 => ⟨true, rfl, iteF ?_⟩) (fun p l' H' e b' h' q => ⟨false, rfl, iteT (bad rfl e b' h' q)⟩)⟩
      refine ⟨_, rfl, wstep e4 nl b4 h4 (fun l5 H5 e5 t5 b5 h5 => ⟨true, rfl, ?_⟩) (fun p l' H' e b' h' q => ⟨false, rfl, bad rfl e b' h' q⟩)⟩
      have q1 := (suf_names _ _ t4).length_le
      have q2 := (sb _ _ t5).length_le
      exact ⟨l5, c + 1, by omega, rfl, b5, h5, by rw [decide_eq_false (by omega : ¬ c + 1 = 0)]; exact e5, by omega⟩
end

section
variable {P : Program} {w : World} {K : PySem.W.Frag} {mg : Str → Option Value} {base : Heap}
theorem ok_WRSt {n : Nat} {blk : Tl → RdR} {f : Addr} {fd : FuncData} (F : Fun K "_law_read_statement" "_law_read_statement" sWRSt f fd) (GS : Has P w K mg base CX0 2 "_law_skip" PWSkp spWSkp) (GN : Has P w K mg base CX0 1 "_law_now" PWNow spWNow) (GI : Has P w K mg base CX0 1 "_law_is_name" PWNam spWNam) (GM : Has P w K mg base CX0 3 "_law_read_name" PWRNm (spWRd rName)) (GL : Has P w K mg base CX0 4 "_law_read_list" PWRLs (spWRd rNames)) (GX : Has P w K mg base CX0 5 "_law_read_sum" PWRSm (spWRd rExpr)) (GC : Has P w K mg base CX0 8 "_law_read_action" PWRAc (spWRdN rAction)) (GB : Has P w K mg base CX0 (9 + 3 * n) "_law_read_block" PWRBk (spWRd blk)) (GT : Has P w K mg base CX0 (9 + 3 * n + 1) "_law_read_try" PWRTy (spWRd (rTry blk))) (GW : Has P w K mg base CX0 (9 + 3 * n + 1) "_law_read_with" PWRWi (spWRd (rWith blk))) : FnOk P w K mg base CX0 (9 + 3 * n + 2) f fd PWRSt (spWRd (rStmt blk)) := by
  refine F.ok scWRSt (fun vs H Q E h => ?_) (fun cdv A outer s H vs Q E hr h => ?_)
  · obtain ⟨S, L, ts, l, rfl, _⟩ := h
    rfl
  · obtain ⟨S, L, ts, l, rfl, h, nl, k⟩ := h
    have hr1 := hr.mono (j := 1) (by omega)
    have hr2 := hr.mono (j := 2) (by omega)
    have hr3 := hr.mono (j := 3) (by omega)
    have hr4 := hr.mono (j := 4) (by omega)
    have hr5 := hr.mono (j := 5) (by omega)
    have hr8 := hr.mono (j := 8) (by omega)
    have hr9 := hr.mono (j := 9 + 3 * n) (by omega)
    refine ⟨_, (pss_cons (ps_if (pt_val (pe_callH GI hr1 rfl pass0 (pa_cons (pe_callH GN hr1 rfl pass0 (pa_cons (pv 0) pa_nil)) pa_nil)))
  (pss_one (ps_ret (pe_callH GC hr8 rfl pass0 (pa_cons (pv 0) pa_nil))))
  pss_nil)
  (pss_cons (ps_if (pt_val (pe_callH GS hr2 rfl pass0 (pa_cons (pv 0) (pa_cons pe_str pa_nil))))
  (pss_one (ps_ret (pe_and (pe_callH GB hr9 rfl pass0 (pa_cons (pv 0) pa_nil)) (pe_one (pe_or (pe_not (pe_callH GS hr2 rfl pass0 (pa_cons (pv 0) (pa_cons pe_str pa_nil)))) (pe_one (pe_callH GB hr9 rfl pass0 (pa_cons (pv 0) pa_nil))))))))
  pss_nil)
  (pss_cons (ps_if (pt_val (pe_callH GS hr2 rfl pass0 (pa_cons (pv 0) (pa_cons pe_str pa_nil))))
  (pss_one (ps_ret (pe_callH GB hr9 rfl pass0 (pa_cons (pv 0) pa_nil))))
  pss_nil)
  (pss_cons (ps_if (pt_val (pe_callH GS hr2 rfl pass0 (pa_cons (pv 0) (pa_cons pe_str pa_nil))))
  (pss_one (ps_ret (pe_callH GL hr4 rfl pass0 (pa_cons (pv 0) pa_nil))))
  pss_nil)
  (pss_cons (ps_if (pt_val (pe_callH GS hr2 rfl pass0 (pa_cons (pv 0) (pa_cons pe_str pa_nil))))
  (pss_one (ps_ret (pe_callH GM hr3 rfl pass0 (pa_cons (pv 0) pa_nil))))
  pss_nil)
  (pss_cons (ps_if (pt_val (pe_callH GS hr2 rfl pass0 (pa_cons (pv 0) (pa_cons pe_str pa_nil))))
  (pss_one (ps_ret (pe_callH GT hr rfl pass0 (pa_cons (pv 0) pa_nil))))
  pss_nil)
  (pss_cons (ps_if (pt_val (pe_callH GS hr2 rfl pass0 (pa_cons (pv 0) (pa_cons pe_str pa_nil))))
  (pss_one (ps_ret (pe_and (pe_callH GL hr4 rfl pass0 (pa_cons (pv 0) pa_nil)) (pe_one (pe_callH GB hr9 rfl pass0 (pa_cons (pv 0) pa_nil))))))
  pss_nil)
  (pss_cons (ps_if (pt_val (pe_callH GS hr2 rfl pass0 (pa_cons (pv 0) (pa_cons pe_str pa_nil))))
  (pss_one (ps_ret (pe_callH GW hr rfl pass0 (pa_cons (pv 0) pa_nil))))
  pss_nil)
  (pss_one (ps_ret (pe_and (pe_callH GS hr2 rfl pass0 (pa_cons (pv 0) (pa_cons pe_str pa_nil))) (pe_one (pe_callH GX hr5 rfl pass0 (pa_cons (pv 0) pa_nil)))))))))))))), ?_⟩
    have e0 : rStmt blk l = if isN l then rAction l
  else if isW "if" l then andR (blk l.tail) fun l1 => if isW "else" l1 then blk l1.tail else .ok l1
  else if isW "while" l then blk l.tail
  else if isW "risk" l then rNames l.tail
  else if isW "raise" l then rName l.tail
  else if isW "try" l then rTry blk l.tail
  else if isW "undo" l then andR (rNames l.tail) blk
  else if isW "with" l then rWith blk l.tail
  else andR (rExp "return" l) rExpr := rfl
    refine ⟨_, rfl, S, L, ts, l, rfl, h, textH l, rfl, by have := h.len; omega, fun H1 s1 => ⟨_, rfl, ?_⟩⟩
    have h1 := h.same s1
    have b1 : Bt S H H1 := .of s1
    rw [h.n]
    cases qn : isN l with
    | true =>
      rw [if_pos qn] at e0
      exact iteT ⟨_, rfl, S, L, ts, l, rfl, h1, qn, e0 ▸ nl, e0 ▸ k.bt b1⟩
    | false =>
      rw [if_neg (by rw [qn]; decide)] at e0
      refine iteF ?_
      have bad : ∀ {p : Nat} {l' : Tl} {H' : Hp}, rStmt blk l = .error (.syn p) → Bt S H H' → LsS H' S L ts l' → posH l' = p → Q (.bl false) H' := fun e b h q => k.no _ e _ _ b h q
      refine wcond (w := "if") (by decide +kernel) h1 (fun z => iteF ?_) (fun z H2 b2 h2 => iteT ?_)
      case refine_2 =>
        rw [if_pos z] at e0
        refine ⟨_, rfl, wstep e0 nl (b1.trans b2) h2 (fun l3 H3 e3 _ b3 h3 => ⟨_, rfl, iteT ?_⟩) (fun p l' H' e b' h' q => ⟨_, rfl, iteF (bad e b' h' q)⟩)⟩
        show tOrV _ _ _ H3 Q
        unfold tOrV tNotV
        refine wskipV (w := "else") (by decide +kernel) h3 (fun z => ⟨_, rfl, _, rfl, iteT ?_⟩) (fun z H4 b4 h4 => ⟨_, rfl, _, rfl, iteF ?_⟩)
        · rw [if_neg (by rw [z]; decide)] at e3
          exact k.ok _ e3 H3 b3 h3
        · rw [if_pos z] at e3
          exact ⟨_, rfl, wlast e3 nl k (b3.trans b4) h4⟩
      rw [if_neg (by rw [z]; decide)] at e0
      clear z
      refine wcond (w := "while") (by decide +kernel) h1 (fun z => iteF ?_) (fun z H2 b2 h2 => iteT ?_)
      case refine_2 =>
        rw [if_pos z] at e0
        exact ⟨_, rfl, wlast e0 nl k (b1.trans b2) h2⟩
      rw [if_neg (by rw [z]; decide)] at e0
      clear z
      refine wcond (w := "risk") (by decide +kernel) h1 (fun z => iteF ?_) (fun z H2 b2 h2 => iteT ?_)
      case refine_2 =>
        rw [if_pos z] at e0
        exact ⟨_, rfl, wlast e0 nl k (b1.trans b2) h2⟩
      rw [if_neg (by rw [z]; decide)] at e0
      clear z
      refine wcond (w := "raise") (by decide +kernel) h1 (fun z => iteF ?_) (fun z H2 b2 h2 => iteT ?_)
      case refine_2 =>
        rw [if_pos z] at e0
        exact ⟨_, rfl, wlast e0 nl k (b1.trans b2) h2⟩
      rw [if_neg (by rw [z]; decide)] at e0
      clear z
      refine wcond (w := "try") (by decide +kernel) h1 (fun z => iteF ?_) (fun z H2 b2 h2 => iteT ?_)
      case refine_2 =>
        rw [if_pos z] at e0
        exact ⟨_, rfl, wlast e0 nl k (b1.trans b2) h2⟩
      rw [if_neg (by rw [z]; decide)] at e0
      clear z
      refine wcond (w := "undo") (by decide +kernel) h1 (fun z => iteF ?_) (fun z H2 b2 h2 => iteT ?_)
      case refine_2 =>
        rw [if_pos z] at e0
        refine ⟨_, rfl, wstep e0 nl (b1.trans b2) h2 (fun l3 H3 e3 _ b3 h3 => ⟨_, rfl, iteT ?_⟩) (fun p l' H' e b' h' q => ⟨_, rfl, iteF (bad e b' h' q)⟩)⟩
        exact ⟨_, rfl, wlast e3 nl k b3 h3⟩
      rw [if_neg (by rw [z]; decide)] at e0
      clear z
      refine wcond (w := "with") (by decide +kernel) h1 (fun z => iteF ?_) (fun z H2 b2 h2 => iteT ?_)
      case refine_2 =>
        rw [if_pos z] at e0
        exact ⟨_, rfl, wlast e0 nl k (b1.trans b2) h2⟩
      rw [if_neg (by rw [z]; decide), exp_if] at e0
      clear z
      show tAndV (tCall spWSkp [] E0 (tCons (tVar 0) (tCons (tC (V.str "return")) tNil))) _ _ H1 Q
      unfold tAndV
      refine wskipV (w := "return") (by decide +kernel) h1 (fun z => ⟨_, rfl, iteF ?_⟩) (fun z H2 b2 h2 => ⟨_, rfl, iteT ?_⟩)
      · rw [if_neg (by rw [z]; decide)] at e0
        exact bad e0 b1 h1 rfl
      · rw [if_pos z] at e0
        exact ⟨_, rfl, wlast e0 nl k (b1.trans b2) h2⟩
theorem ok_WRBk0 {f : Addr} {fd : FuncData} (F : Fun K "_law_read_block" "_law_read_block" sWRBk f fd) (GS : Has P w K mg base CX0 2 "_law_skip" PWSkp spWSkp) : FnOk P w K mg base CX0 9 f fd PWRBk (spWRd (rBlock 0)) := by
  refine F.ok scWRBk (fun vs H Q E h => ?_) (fun cdv A outer s H vs Q E hr h => ?_)
  · obtain ⟨S, L, ts, l, rfl, _⟩ := h
    rfl
  · obtain ⟨S, L, ts, l, rfl, h, nl, k⟩ := h
    have hr2 := hr.mono (j := 2) (by omega)
    refine ⟨_, (pss_cons (ps_if (pt_not (pt_val (pe_callH GS hr2 rfl pass0 (pa_cons (pv 0) (pa_cons pe_str pa_nil)))))
  (pss_one (ps_ret pe_bl))
  pss_nil)
  (pss_cons ps_never
  (pss_one ps_never))), ?_⟩
    have e0 : rBlock 0 l = if isW "{" l then .error (.large "nesting") else synE l := rfl
    have z : isW "{" l = false := by
      cases q : isW "{" l with
      | false => rfl
      | true => rw [if_pos q] at e0; exact absurd e0 (nl _)
    rw [if_neg (by rw [z]; decide)] at e0
    refine wcond (w := "{") (by decide +kernel) h (fun _ => iteT ?_) (fun z' => by rw [z] at z'; cases z')
    exact k.no _ e0 l H (.of (Same.refl _)) h rfl
theorem ok_WRBk {n : Nat} {f : Addr} {fd : FuncData} (F : Fun K "_law_read_block" "_law_read_block" sWRBk f fd) (GS : Has P w K mg base CX0 2 "_law_skip" PWSkp spWSkp) (GT : Has P w K mg base CX0 (9 + 3 * n + 2) "_law_read_statement" PWRSt (spWRd (rStmt (rBlock n)))) : FnOk P w K mg base CX0 (9 + 3 * n + 2 + 1) f fd PWRBk (spWRd (rBlock (n + 1))) := by
  refine F.ok scWRBk (fun vs H Q E h => ?_) (fun cdv A outer s H vs Q E hr h => ?_)
  · obtain ⟨S, L, ts, l, rfl, _⟩ := h
    rfl
  · obtain ⟨S, L, ts, l, rfl, h, nl, k⟩ := h
    have hr2 := hr.mono (j := 2) (by omega)
    refine ⟨_, (pss_cons (ps_if (pt_not (pt_val (pe_callH GS hr2 rfl pass0 (pa_cons (pv 0) (pa_cons pe_str pa_nil)))))
  (pss_one (ps_ret pe_bl))
  pss_nil)
  (pss_cons (ps_while PassesOwn.never (pt_not (pt_val (pe_callH GS hr2 rfl pass0 (pa_cons (pv 0) (pa_cons pe_str pa_nil)))))
  (pss_one (ps_if (pt_not (pt_val (pe_callH GT hr rfl pass0 (pa_cons (pv 0) pa_nil))))
  (pss_one (ps_ret pe_bl))
  pss_nil)))
  (pss_one (ps_ret pe_bl)))), ?_⟩
    have wb : ("}" : Str) ∈ MARKS := by decide +kernel
    have e0 : rBlock (n + 1) l = andR (if isW "{" l = true then .ok l.tail else synE l) (rStms (rBlock n)) := rfl
    refine wcond (w := "{") (by decide +kernel) h (fun z => iteT ?_) (fun z H1 b1 h1 => iteF ?_)
    · rw [if_neg (by rw [z]; decide)] at e0
      exact k.no _ e0 l H (.of (Same.refl _)) h rfl
    rw [if_pos z] at e0
    have e0 : rBlock (n + 1) l = rStms (rBlock n) l.tail := e0
    refine ⟨fun m σ H' => ∃ l2 : Tl, m = l2.length ∧ σ = [some (.ref S)] ∧ Bt S H H' ∧ LsS H' S L ts l2 ∧ rBlock (n + 1) l = rStms (rBlock n) l2, ⟨_, l.tail, rfl, rfl, b1, h1, e0⟩, ?_⟩
    rintro m σ H2 ⟨l2, rfl, rfl, b2, h2, e2⟩
    rw [stms_eq (block3 n)] at e2
    refine wcond wb h2 (fun z => iteT ?_) (fun z H3 b3 h3 => iteF ?_)
    · rw [if_neg (by rw [z]; decide)] at e2
      refine ⟨fun σ' H' => ∃ l2' : Tl, l2'.length < l2.length ∧ σ' = [some (.ref S)] ∧ Bt S H H' ∧ LsS H' S L ts l2' ∧ rBlock (n + 1) l = rStms (rBlock n) l2', fun σ' H' ⟨l2, u0, u1⟩ => ⟨_, u0, l2, rfl, u1⟩, ?_⟩
      refine ⟨_, rfl, wstep e2 nl b2 h2 (fun l3 H3 e3 t3 b3 h3 => ⟨true, rfl, iteF ?_⟩) (fun p l' H' e b' h' q => ⟨false, rfl, iteT (k.no _ e _ _ b' h' q)⟩)⟩
      exact ⟨l3, dec_stmt (block3 n) _ _ t3, rfl, b3, h3, e3⟩
    · rw [if_pos z] at e2
      exact k.ok _ e2 H3 (b2.trans b3) h3
theorem ok_WRBks {fb fs ft fw : Addr} {db ds dt dw : FuncData} (FB : Fun K "_law_read_block" "_law_read_block" sWRBk fb db) (FS : Fun K "_law_read_statement" "_law_read_statement" sWRSt fs ds) (FT : Fun K "_law_read_try" "_law_read_try" sWRTy ft dt) (FW : Fun K "_law_read_with" "_law_read_with" sWRWi fw dw)
    (gb : mg "_law_read_block" = some (.ref fb)) (kb : PySem.W.keepIn K (.ref fb) = true) (bb : Binds K db PWRBk []) (gs : mg "_law_read_statement" = some (.ref fs)) (ks : PySem.W.keepIn K (.ref fs) = true) (bs : Binds K ds PWRSt []) (gt : mg "_law_read_try" = some (.ref ft)) (kt : PySem.W.keepIn K (.ref ft) = true) (bt : Binds K dt PWRTy []) (gw : mg "_law_read_with" = some (.ref fw)) (kw : PySem.W.keepIn K (.ref fw) = true) (bw : Binds K dw PWRWi [])
    (GS : Has P w K mg base CX0 2 "_law_skip" PWSkp spWSkp) (GN : Has P w K mg base CX0 1 "_law_now" PWNow spWNow) (GI : Has P w K mg base CX0 1 "_law_is_name" PWNam spWNam) (GM : Has P w K mg base CX0 3 "_law_read_name" PWRNm (spWRd rName)) (GL : Has P w K mg base CX0 4 "_law_read_list" PWRLs (spWRd rNames)) (GX : Has P w K mg base CX0 5 "_law_read_sum" PWRSm (spWRd rExpr)) (GA : Has P w K mg base CX0 7 "_law_read_args" PWRAs (spWRd rArgs)) (GC : Has P w K mg base CX0 8 "_law_read_action" PWRAc (spWRdN rAction)) : ∀ n, FnOk P w K mg base CX0 (9 + 3 * n) fb db PWRBk (spWRd (rBlock n)) := by
  intro n
  induction n with
  | zero => exact ok_WRBk0 FB GS
  | succ n ih =>
    have GB : Has P w K mg base CX0 (9 + 3 * n) "_law_read_block" PWRBk (spWRd (rBlock n)) := ⟨fb, db, ih, gb, kb, bb⟩
    have GT : Has P w K mg base CX0 (9 + 3 * n + 1) "_law_read_try" PWRTy (spWRd (rTry (rBlock n))) := ⟨ft, dt, ok_WRTy (block3 n).u FT GS GN GL GB, gt, kt, bt⟩
    have GW : Has P w K mg base CX0 (9 + 3 * n + 1) "_law_read_with" PWRWi (spWRd (rWith (rBlock n))) := ⟨fw, dw, ok_WRWi FW GM GS GL GA GB, gw, kw, bw⟩
    have GZ : Has P w K mg base CX0 (9 + 3 * n + 2) "_law_read_statement" PWRSt (spWRd (rStmt (rBlock n))) := ⟨fs, ds, ok_WRSt FS GS GN GI GM GL GX GC GB GT GW, gs, ks, bs⟩
    have r := ok_WRBk FB GS GZ
    rw [show 9 + 3 * n + 2 + 1 = 9 + 3 * (n + 1) by omega] at r
    exact r
end

/-! ### k04: functions and whole texts by the law's own reader -/
abbrev sWRDf : Stmt := topS 46
abbrev NWRDf : List Str := ["_law_state", "_law_is_right"]
abbrev PWRDf : List Str := ["_law_state"]
theorem scWRDf : FnScope NWRDf PWRDf (defScope sWRDf) := ⟨rfl, rfl, rfl, by decide +kernel, rfl, by decide +kernel, by decide +kernel⟩
abbrev sWFst : Stmt := topS 47
abbrev NWFst : List Str := ["_law_tokens", "_law_state"]
abbrev PWFst : List Str := ["_law_tokens"]
theorem scWFst : FnScope NWFst PWFst (defScope sWFst) := ⟨rfl, rfl, rfl, by decide +kernel, rfl, by decide +kernel, by decide +kernel⟩
theorem wcond1 {S L : Addr} {ts l : Tl} {H : Hp} {x : Option V} {σr : L2.St} {w : Str} {Q : Bool → Hp → Prop} (hw : w ∈ MARKS) (h : LsS H S L ts l) (k1 : isW w l = false → Q false H) (k2 : isW w l = true → ∀ H', Bt S H H' → LsS H' S L ts l.tail → Q true H') : tB (tCall spWSkp [] E0 (tCons (tVar 1) (tCons (tC (V.str w)) tNil))) (x :: some (.ref S) :: σr) H Q := by
  have nw : w ≠ "" := fun z => by
    have := (marks_ok w hw).1
    rw [z] at this
    exact absurd (by decide +kernel) this
  refine ⟨_, rfl, S, L, ts, l, w, rfl, nw, h, fun z => ⟨false, rfl, k1 (by rw [← h.w hw, decide_eq_false z])⟩, fun z H4 b4 h4 => ⟨true, rfl, k2 (by rw [← h.w hw, decide_eq_true z]) H4 b4 h4⟩⟩
def spWFst : Sp := fun vs H Q _ => ∃ (L : Addr) (ts : Tl), vs = [.ref L] ∧ H L = some (.lst ((wsOf ts).map V.str)) ∧ WfT ts ∧ NL (rProgram ts) ∧ (∀ l', rProgram ts = .ok l' → ∀ H', Same H H' → Q (.int (-1)) H') ∧ ∀ p, rProgram ts = .error (.syn p) → ∀ (i : Nat) H', Same H H' → i < ts.length → posH (ts.drop i) = p → Q (.int (i : Nat)) H'
section
variable {P : Program} {w : World} {K : PySem.W.Frag} {mg : Str → Option Value} {base : Heap}
theorem ok_WRDf {k0 : Nat} {f : Addr} {fd : FuncData} (F : Fun K "_law_read_def" "_law_read_def" sWRDf f fd) (GS : Has P w K mg base CX0 2 "_law_skip" PWSkp spWSkp) (GM : Has P w K mg base CX0 3 "_law_read_name" PWRNm (spWRd rName)) (GB : Has P w K mg base CX0 k0 "_law_read_block" PWRBk (spWRd (rBlock 30))) (hk : 3 ≤ k0) : FnOk P w K mg base CX0 (k0 + 1) f fd PWRDf (spWRd rFunction) := by
  refine F.ok scWRDf (fun vs H Q E h => ?_) (fun cdv A outer s H vs Q E hr h => ?_)
  · obtain ⟨S, L, ts, l, rfl, _⟩ := h
    rfl
  · obtain ⟨S, L, ts, l, rfl, h, nl, k⟩ := h
    have hr2 := hr.mono (j := 2) (by omega)
    have hr3 := hr.mono (j := 3) (by omega)
    refine ⟨_, (pss_cons (ps_if (PW.pt (pw_or (pt_not (pt_val (pe_callH GM hr3 rfl pass0 (pa_cons (pv 0) pa_nil)))) (pw_or1 (pt_not (pt_val (pe_callH GS hr2 rfl pass0 (pa_cons (pv 0) (pa_cons pe_str pa_nil))))))))
  (pss_one (ps_ret pe_bl))
  pss_nil)
  (pss_cons (ps_if (pt_not (pt_val (pe_callH GS hr2 rfl pass0 (pa_cons (pv 0) (pa_cons pe_str pa_nil)))))
  (pss_cons (ps_expr (pe_callH GS hr2 rfl pass0 (pa_cons (pv 0) (pa_cons pe_str pa_nil))))
  (pss_cons (ps_set (i := 1) scWRDf.nd rfl (Or.inl rfl) (pe_callH GM hr3 rfl pass0 (pa_cons (pv 0) pa_nil)))
  (pss_cons (ps_while PassesOwn.never (PW.pt (pw_and (pt_val (pv 1)) (pw_and1 (pt_val (pe_callH GS hr2 rfl pass0 (pa_cons (pv 0) (pa_cons pe_str pa_nil)))))))
  (pss_cons (ps_expr (pe_callH GS hr2 rfl pass0 (pa_cons (pv 0) (pa_cons pe_str pa_nil))))
  (pss_one (ps_set (i := 1) scWRDf.nd rfl (Or.inl rfl) (pe_callH GM hr3 rfl pass0 (pa_cons (pv 0) pa_nil))))))
  (pss_one (ps_if (PW.pt (pw_or (pt_not (pt_val (pv 1))) (pw_or1 (pt_not (pt_val (pe_callH GS hr2 rfl pass0 (pa_cons (pv 0) (pa_cons pe_str pa_nil))))))))
  (pss_one (ps_ret pe_bl))
  pss_nil)))))
  pss_nil)
  (pss_one (ps_ret (pe_callH GB hr rfl pass0 (pa_cons (pv 0) pa_nil)))))), ?_⟩
    have wl : ("(" : Str) ∈ MARKS := by decide +kernel
    have wr : (")" : Str) ∈ MARKS := by decide +kernel
    have wc : ("," : Str) ∈ MARKS := by decide +kernel
    have wa : ("&" : Str) ∈ MARKS := by decide +kernel
    have cn : isW "," [] = false := by decide +kernel
    have e0 : rFunction l = andR (rName l) fun l1 => andR (rExp "(" l1) fun l2 => andR (if isW ")" l2 then .ok l2.tail else andR (rParam l2) fun l3 => andR (rMore rParam l3.length l3) (rExp ")")) (rBlock 30) := rfl
    refine ⟨_, rfl, wstep e0 nl (.of (Same.refl _)) h (fun l1 H1 e1 _ b1 h1 => ⟨true, rfl, iteF ?_⟩) (fun p l' H' e b' h' q => ⟨false, rfl, iteT (k.no _ e _ _ b' h' q)⟩)⟩
    have e1 : rFunction l = andR (if isW "(" l1 = true then .ok l1.tail else synE l1) _ := e1
    refine wcond wl h1 (fun z => ?_) (fun z H2 b2 h2 => ?_)
    · rw [if_neg (by rw [z]; decide)] at e1
      exact k.no _ e1 l1 H1 b1 h1 rfl
    rw [if_pos z] at e1
    replace b2 := b1.trans b2
    generalize l1.tail = l2 at *
    have e1 : rFunction l = andR (if isW ")" l2 = true then .ok l2.tail else andR (rParam l2) fun l3 => andR (rMore rParam l3.length l3) (rExp ")")) (rBlock 30) := e1
    refine wcond wr h2 (fun z => iteT ?_) (fun z H3 b3 h3 => iteF ?_)
    case refine_2 =>
      rw [if_pos z] at e1
      exact ⟨_, rfl, wlast e1 nl k (b2.trans b3) h3⟩
    rw [if_neg (by rw [z]; decide), andR_assoc] at e1
    have par : ∀ {g : Tl → RdR} {D : Ends} {x : Option V} (l5 : Tl) (H5 : Hp), rFunction l = andR (rParam l5) g → LsS H5 S L ts l5 → (∀ l6 H6, rFunction l = g l6 → rParam l5 = .ok l6 → Bt S H5 H6 → LsS H6 S L ts l6 → D.nx [some (.ref S), some (.bl true)] H6) → (∀ p l6 H6, rFunction l = .error (.syn p) → Bt S H5 H6 → LsS H6 S L ts l6 → posH l6 = p → D.nx [some (.ref S), some (.bl false)] H6) → tSeq (tDrop (tCall spWSkp [] E0 (tCons (tVar 0) (tCons (tC (V.str "&")) tNil)))) (tAsg (tCall (spWRd rName) [] E0 (tCons (tVar 0) tNil)) (gName 1)) D [some (.ref S), x] H5 := fun {g D x} l5 H5 e5 h5 ok no => by
      have ep : rParam l5 = rName (if isW "&" l5 = true then l5.tail else l5) := rfl
      show tDrop (tCall spWSkp [] E0 (tCons (tVar 0) (tCons (tC (V.str "&")) tNil))) _ _ _
      unfold tDrop
      refine wskipV wa h5 (fun z => ?_) (fun z H6 b6 h6 => ?_)
      · rw [if_neg (by rw [z]; decide)] at ep
        rw [ep] at e5
        exact ⟨_, rfl, wstep e5 nl (.of (Same.refl _)) h5 (fun l7 H7 e7 t7 b7 h7 => ok l7 H7 e7 (ep.trans t7) b7 h7) (fun p l' H' e b' h' q => no p l' H' e b' h' q)⟩
      · rw [if_pos z] at ep
        rw [ep] at e5
        exact ⟨_, rfl, wstep e5 nl b6 h6 (fun l7 H7 e7 t7 b7 h7 => ok l7 H7 e7 (ep.trans t7) b7 h7) (fun p l' H' e b' h' q => no p l' H' e b' h' q)⟩
    have key : ∀ (b : Bool) (l2 : Tl) (H2 : Hp), Bt S H H2 → LsS H2 S L ts l2 → (b = true → rFunction l = andR (andR (rLoop (isW ",") rParam l2.length l2) (rExp ")")) (rBlock 30)) → (b = false → ∃ p, rFunction l = .error (.syn p) ∧ posH l2 = p) → tSeq (tWhile (tAnd (tB (tVar 1)) (tB (tCall spWSkp [] E0 (tCons (tVar 0) (tCons (tC (V.str ",")) tNil))))) (tSeq (tDrop (tCall spWSkp [] E0 (tCons (tVar 0) (tCons (tC (V.str "&")) tNil)))) (tAsg (tCall (spWRd rName) [] E0 (tCons (tVar 0) tNil)) (gName 1)))) (tIfS (tOr (tNot (tB (tVar 1))) (tNot (tB (tCall spWSkp [] E0 (tCons (tVar 0) (tCons (tC (V.str ")")) tNil)))))) (tRet (tC (V.bl false))) tNext) { nx := tRet (tCall (spWRd (rBlock 30)) [] E0 (tCons (tVar 0) tNil)) { nx := fun _ H' => Q .non H', rt := Q }, rt := Q } [some (.ref S), some (.bl b)] H2 := fun b l2 H2 b2 h2 e1 e2 => by
      refine wloop (H0 := H) (σr := []) (T := fun l => andR (rExp ")" l) (rBlock 30)) (G := fun l2 => andR (andR (rLoop (isW ",") rParam l2.length l2) (rExp ")")) (rBlock 30)) (fun H Q q => ⟨_, rfl, false, rfl, q⟩) (fun l3 H3 b3 h3 e3 N Y fin hY hs hn hb => ?_) (fun l3 H3 b3 h3 e3 => ?_) (fun p l3 H3 b3 h3 e3 q => by exact ⟨_, rfl, false, rfl, iteT (iteT (k.no p e3 l3 H3 b3 h3 q))⟩) b2 h2 e1 e2
      · rw [loop_eq param3.u cn] at e3
        refine ⟨_, rfl, true, rfl, wcond wc h3 (fun z => iteF (hs H3 (.of (Same.refl _)) h3 ?_)) fun z H4 b4 h4 => iteT (hY _ ?_)⟩
        · rw [if_neg (by rw [z]; decide)] at e3
          exact e3
        · rw [if_pos z, andR_assoc, andR_assoc] at e3
          have lt := tail_lt (nonnil_W z)
          refine par l3.tail H4 e3 h4 (fun l6 H6 e6 t6 b6 h6 => ?_) (fun p l6 H6 e6 b6 h6 q => hb p l6 H6 (b4.trans b6) h6 e6 q)
          have := (param3.u _ _ t6).length_le
          exact hn l6 H6 (by omega) (b4.trans b6) h6 (by rw [e6, andR_assoc])
      · have e3 : rFunction l = andR (if isW ")" l3 = true then .ok l3.tail else synE l3) (rBlock 30) := e3
        refine ⟨_, rfl, true, rfl, iteF (wcond wr h3 (fun z => ?_) (fun z H4 b4 h4 => ?_))⟩
        · rw [if_neg (by rw [z]; decide)] at e3
          exact k.no _ e3 l3 H3 b3 h3 rfl
        · rw [if_pos z] at e3
          exact ⟨_, rfl, wlast e3 nl k (b3.trans b4) h4⟩
    refine par (g := fun l3 => andR (andR (rMore rParam l3.length l3) (rExp ")")) (rBlock 30)) l2 H2 e1 h2 (fun l6 H6 e6 _ b6 h6 => ?_) (fun p l6 H6 e6 b6 h6 q => ?_)
    · exact key true l6 H6 (b2.trans b6) h6 (fun _ => e6) (fun z => nomatch z)
    · exact key false l6 H6 (b2.trans b6) h6 (fun z => nomatch z) fun _ => ⟨p, e6, q⟩
theorem ok_WFst {k0 : Nat} {f : Addr} {fd : FuncData} (F : Fun K "_law_first_wrong" "_law_first_wrong" sWFst f fd) (nl' : mg "len" = none) (GS : Has P w K mg base CX0 2 "_law_skip" PWSkp spWSkp) (GR : Has P w K mg base CX0 4 "_law_read_row" PWRRw (spWRd rRow)) (GX : Has P w K mg base CX0 5 "_law_read_sum" PWRSm (spWRd rExpr)) (GF : Has P w K mg base CX0 k0 "_law_read_def" PWRDf (spWRd rFunction)) (hk : 5 ≤ k0) : FnOk P w K mg base CX0 (k0 + 1) f fd PWFst spWFst := by
  refine F.ok scWFst (fun vs H Q E h => ?_) (fun cdv A outer s H vs Q E hr h => ?_)
  · obtain ⟨L, ts, rfl, _⟩ := h
    rfl
  · obtain ⟨L, ts, rfl, eL, wf, nl, k1, k2⟩ := h
    have hr2 := hr.mono (j := 2) (by omega)
    have hr4 := hr.mono (j := 4) (by omega)
    have hr5 := hr.mono (j := 5) (by omega)
    refine ⟨_, (pss_cons (ps_set (i := 1) scWFst.nd rfl (Or.inl rfl) (pe_lst (pa_cons (pv 0) (pa_cons pe_int pa_nil))))
  (pss_cons (ps_if (PW.pt (pw_and (pt_val (pe_callH GS hr2 rfl pass0 (pa_cons (pv 1) (pa_cons pe_str pa_nil)))) (pw_and1 (pt_not (pt_val (pe_callH GR hr4 rfl pass0 (pa_cons (pv 1) pa_nil)))))))
  (pss_one (ps_ret (pe_ix (r := rIxL K) ix_list (pv 1) pe_int (fun _ _ => rfl))))
  pss_nil)
  (pss_cons (ps_if (PW.pt (pw_and (pt_val (pe_callH GS hr2 rfl pass0 (pa_cons (pv 1) (pa_cons pe_str pa_nil)))) (pw_and1 (pt_not (pt_val (pe_callH GR hr4 rfl pass0 (pa_cons (pv 1) pa_nil)))))))
  (pss_one (ps_ret (pe_ix (r := rIxL K) ix_list (pv 1) pe_int (fun _ _ => rfl))))
  pss_nil)
  (pss_cons (ps_while PassesOwn.never (pt_val (pe_callH GS hr2 rfl pass0 (pa_cons (pv 1) (pa_cons pe_str pa_nil))))
  (pss_one (ps_if (pt_not (pt_val (pe_callH GX hr5 rfl pass0 (pa_cons (pv 1) pa_nil))))
  (pss_one (ps_ret (pe_ix (r := rIxL K) ix_list (pv 1) pe_int (fun _ _ => rfl))))
  pss_nil)))
  (pss_cons (ps_while PassesOwn.never (pt_val (pe_callH GS hr2 rfl pass0 (pa_cons (pv 1) (pa_cons pe_str pa_nil))))
  (pss_one (ps_if (pt_not (pt_val (pe_callH GF hr rfl pass0 (pa_cons (pv 1) pa_nil))))
  (pss_one (ps_ret (pe_ix (r := rIxL K) ix_list (pv 1) pe_int (fun _ _ => rfl))))
  pss_nil)))
  (pss_one (ps_ret (pe_ifExp (pt_cmpR op_eq (pe_ix (r := rIxL K) ix_list (pv 1) pe_int (fun _ _ => rfl)) (pe_callB call_len_seq (by rfl) nl' bb_len (pa_cons (pv 0) pa_nil)) (nomark _)) (pe_un un_neg pe_int) (pe_ix (r := rIxL K) ix_list (pv 1) pe_int (fun _ _ => rfl)))))))))), ?_⟩
    refine ⟨_, rfl, (by show 2 ≤ sizeLine; decide), fun S nS => ?_⟩
    have sS := same_new (o := .lst [.ref L, .int 0]) nS
    have eS : upd H S (.lst [.ref L, .int 0]) S = some (.lst [.ref L, .int 0]) := upd_same
    have SL : S ≠ L := fun z => by rw [z, eL] at nS; cases nS
    have eL0 := sS _ _ eL
    generalize upd H S (.lst [.ref L, .int 0]) = H0 at *
    have lts : 0 < ts.length := by obtain ⟨P0, e, rfl, _⟩ := wf; rw [List.length_append]; show 0 < _ + 1; omega
    have h0 : LsS H0 S L ts ts := ⟨0, eS, eL0, SL, rfl, lts, wf⟩
    have smS : ∀ {H' : Hp}, Bt S H0 H' → Same H H' := fun b x o e => b _ _ (sS _ _ e) (ne_of_none e nS)
    have fail : ∀ {D : Ends} {p : Nat} {l' : Tl} {H' : Hp}, D.rt = Q → rProgram ts = .error (.syn p) → Bt S H0 H' → LsS H' S L ts l' → posH l' = p → tRet (tOp (rIxL K) (tVar 1) (tC (V.int 1))) D [some (.ref L), some (.ref S)] H' := fun {D p l' H'} eD e b h q => by
      obtain ⟨i, a, _, _, d, lt, _⟩ := h
      refine ⟨_, rfl, S, _, 1, _, rfl, rfl, SqL.of a, rfl, ?_⟩
      show D.rt _ _
      rw [eD]
      exact k2 p e i H' (smS b) lt (by rw [d]; exact q)
    have e0 : rProgram ts = andR (if isW "globals" ts then rRow ts.tail else .ok ts) fun l1 => andR (if isW "kinds" l1 then rRow l1.tail else .ok l1) fun l2 => andR (rLoop (isW "keep") rExpr l2.length l2) fun l3 => andR (rLoop (isW "def") rFunction l3.length l3) fun l4 => if kindH l4 = "end" then .ok l4 else synE l4 := rfl
    let σ1 : L2.St := [some (.ref L), some (.ref S)]
    have row : ∀ {D : Ends} {w : Str} {g : Tl → RdR} (l5 : Tl) (H5 : Hp), D.rt = Q → w ∈ MARKS → rProgram ts = andR (if isW w l5 = true then rRow l5.tail else .ok l5) g → Bt S H0 H5 → LsS H5 S L ts l5 → (∀ l6 H6, rProgram ts = g l6 → Bt S H0 H6 → LsS H6 S L ts l6 → D.nx σ1 H6) → tIfS (tAnd (tB (tCall spWSkp [] E0 (tCons (tVar 1) (tCons (tC (V.str w)) tNil)))) (tNot (tB (tCall (spWRd rRow) [] E0 (tCons (tVar 1) tNil))))) (tRet (tOp (rIxL K) (tVar 1) (tC (V.int 1)))) tNext D σ1 H5 := fun {D w g} l5 H5 eD hw e5 b5 h5 ok => by
      refine wcond1 hw h5 (fun z => iteF ?_) (fun z H6 b6 h6 => iteT ?_)
      · rw [if_neg (by rw [z]; decide)] at e5
        exact ok l5 H5 e5 b5 h5
      · rw [if_pos z] at e5
        exact ⟨_, rfl, wstep e5 nl (b5.trans b6) h6 (fun l7 H7 e7 _ b7 h7 => ⟨true, rfl, ok l7 H7 e7 b7 h7⟩) (fun p l' H' e b' h' q => ⟨false, rfl, fail eD e b' h' q⟩)⟩
    have loop : ∀ {D : Ends} {w : Str} {f : Tl → RdR} {g : Tl → RdR} (l5 : Tl) (H5 : Hp), D.rt = Q → w ∈ MARKS → Suf f → rProgram ts = andR (rLoop (isW w) f l5.length l5) g → Bt S H0 H5 → LsS H5 S L ts l5 → (∀ l6 H6, rProgram ts = g l6 → Bt S H0 H6 → LsS H6 S L ts l6 → D.nx σ1 H6) → tWhile (tB (tCall spWSkp [] E0 (tCons (tVar 1) (tCons (tC (V.str w)) tNil)))) (tIfS (tNot (tB (tCall (spWRd f) [] E0 (tCons (tVar 1) tNil)))) (tRet (tOp (rIxL K) (tVar 1) (tC (V.int 1)))) tNext) D σ1 H5 := fun {D w f g} l5 H5 eD hw sf e5 b5 h5 ok => by
      have cn : isW w [] = false := by
        show (decide (("" : Str) = "mark") && decide (("" : Str) = w)) = false
        rw [decide_eq_false (by decide +kernel : ¬ ("" : Str) = "mark")]
        rfl
      refine ⟨fun m σ H' => ∃ l6 : Tl, m = l6.length ∧ σ = σ1 ∧ Bt S H0 H' ∧ LsS H' S L ts l6 ∧ rProgram ts = andR (rLoop (isW w) f l6.length l6) g, ⟨_, l5, rfl, rfl, b5, h5, e5⟩, ?_⟩
      rintro m σ H6 ⟨l6, rfl, rfl, b6, h6, e6⟩
      rw [loop_eq sf cn] at e6
      refine wcond1 hw h6 (fun z => iteF ?_) (fun z H7 b7 h7 => iteT ?_)
      · rw [if_neg (by rw [z]; decide)] at e6
        exact ok l6 H6 e6 b6 h6
      · rw [if_pos z, andR_assoc] at e6
        have lt := tail_lt (nonnil_W z)
        refine ⟨fun σ' H' => ∃ l2' : Tl, l2'.length < l6.length ∧ σ' = σ1 ∧ Bt S H0 H' ∧ LsS H' S L ts l2' ∧ rProgram ts = andR (rLoop (isW w) f l2'.length l2') g, fun σ' H' ⟨l2, u0, u1⟩ => ⟨_, u0, l2, rfl, u1⟩, ?_⟩
        refine ⟨_, rfl, wstep e6 nl (b6.trans b7) h7 (fun l7 H7 e7 t7 b7 h7 => ⟨true, rfl, iteF ?_⟩) (fun p l' H' e b' h' q => ⟨false, rfl, iteT (fail (D := { nx := _, ct := _, bk := _, rt := D.rt }) eD e b' h' q)⟩)⟩
        have := (sf _ _ t7).length_le
        exact ⟨l7, by omega, rfl, b7, h7, e7⟩
    refine row ts H0 rfl (by decide +kernel) e0 (.of (Same.refl _)) h0 fun l1 H1 e1 b1 h1 => ?_
    refine row l1 H1 rfl (by decide +kernel) e1 b1 h1 fun l2 H2 e2 b2 h2 => ?_
    refine loop l2 H2 rfl (by decide +kernel) suf_expr e2 b2 h2 fun l3 H3 e3 b3 h3 => ?_
    refine loop l3 H3 rfl (by decide +kernel) function3.u e3 b3 h3 fun l4 H4 e4 b4 h4 => ?_
    have e4 : rProgram ts = if kindH l4 = "end" then .ok l4 else synE l4 := e4
    obtain ⟨i, a, b, c, d, lt, P0, e, rfl, hP, lP⟩ := id h4
    rw [ws_app] at b
    have lw : ((P0.map fun k => k.2.1).map V.str).length = P0.length := by rw [List.length_map, List.length_map]
    rw [List.length_append] at lt
    have lt : i < P0.length + 1 := lt
    refine ⟨_, rfl, S, _, 1, _, rfl, rfl, SqL.of a, rfl, _, rfl, L, _, rfl, .inl (SqL.of b), rfl, _, rfl, ?_⟩
    by_cases q : i = P0.length
    · refine iteS (decide_eq_true (by rw [lw, q])) ⟨_, rfl, ?_⟩
      subst q
      rw [List.drop_left] at d
      rw [if_pos (by rw [← d]; rfl)] at e4
      exact k1 _ e4 H4 (smS b4)
    · refine iteE (decide_eq_false fun z => q (by rw [lw] at z; have := V.int.inj z; omega)) ?_
      have ne : ¬ kindH l4 = "end" := by
        have hi : i < P0.length := by omega
        rw [← d, List.drop_append_of_le_length (by omega), List.drop_eq_getElem_cons hi]
        exact (tokG_kind (hP _ (List.getElem_mem hi)).1).1
      rw [if_neg ne] at e4
      exact fail (D := { nx := fun _ H' => Q .non H', rt := Q }) rfl e4 b4 h4 rfl
end

/-! ### k04: nothing is too large where brackets are few -/
/-- m more brackets may open -/
def Bd : Nat → Tl → Prop
  | _, [] => True
  | m, k :: r => if isW "{" (k :: r) = true then (∃ m', m = m' + 1 ∧ Bd m' r) else if isW "}" (k :: r) = true then Bd (m + 1) r else Bd m r
/-- numbers are short -/
def Sh (l : Tl) : Prop := ∀ k ∈ l, k.1 = "number" → k.2.1.length ≤ 12
theorem Sh.tail {l : Tl} (h : Sh l) : Sh l.tail := fun k hk => h k (List.mem_of_mem_tail hk)
theorem br_ne : ("{" : Str) ≠ "}" := by decide +kernel
theorem isW_two {l : Tl} {a b : Str} (h : isW a l = true) (n : a ≠ b) : isW b l = false := by
  have e : textH l = a := of_decide_eq_true (Bool.and_eq_true_iff.mp h).2
  unfold isW
  rw [decide_eq_false (fun z => n (e.symm.trans z) : ¬ textH l = b), Bool.and_false]
theorem Bd.tl {m : Nat} {l : Tl} (h : Bd m l) (h1 : isW "{" l = false) (h2 : isW "}" l = false) : Bd m l.tail := by
  cases l with
  | nil => exact h
  | cons k r =>
    unfold Bd at h
    rw [if_neg (by rw [h1]; decide), if_neg (by rw [h2]; decide)] at h
    exact h
theorem Bd.op {m : Nat} {l : Tl} (h : Bd m l) (h1 : isW "{" l = true) : ∃ m', m = m' + 1 ∧ Bd m' l.tail := by
  cases l with
  | nil => exact absurd h1 (by decide +kernel)
  | cons k r =>
    unfold Bd at h
    rw [if_pos h1] at h
    exact h
theorem Bd.cl {m : Nat} {l : Tl} (h : Bd m l) (h1 : isW "}" l = true) : Bd (m + 1) l.tail := by
  cases l with
  | nil => exact absurd h1 (by decide +kernel)
  | cons k r =>
    unfold Bd at h
    rw [if_neg (by rw [isW_two h1 br_ne.symm]; decide), if_pos h1] at h
    exact h
theorem isW_kind {z : Str} {l : Tl} (h : isW z l = true) : kindH l = "mark" := of_decide_eq_true (Bool.and_eq_true_iff.mp h).1
theorem isW_not {z : Str} {l : Tl} (h : kindH l ≠ "mark") : isW z l = false := by
  unfold isW
  rw [decide_eq_false h, Bool.false_and]
abbrev Pd (m : Nat) (l : Tl) : Prop := Bd m l ∧ Sh l
theorem Pd.w {m : Nat} {l : Tl} {w : Str} (h : Pd m l) (e : isW w l = true) (n1 : w ≠ "{") (n2 : w ≠ "}") : Pd m l.tail := ⟨h.1.tl (isW_two e n1) (isW_two e n2), h.2.tail⟩
theorem Pd.k {m : Nat} {l : Tl} (h : Pd m l) (e : kindH l ≠ "mark") : Pd m l.tail := ⟨h.1.tl (isW_not e) (isW_not e), h.2.tail⟩
theorem isN_mark {l : Tl} (h : isN l = true) : kindH l ≠ "mark" := fun e => by
  have := of_decide_eq_true h
  rw [e] at this
  exact absurd this (by decide +kernel)
/-- f finds nothing too large, and leaves the allowance as it was -/
def Kp (m : Nat) (f : Tl → RdR) : Prop := ∀ l, Pd m l → NL (f l) ∧ ∀ l', f l = .ok l' → Pd m l'
section
variable {m : Nat} {f g : Tl → RdR}
theorem nl_ok {l : Tl} : NL (.ok l) := fun _ h => nomatch h
theorem nl_syn {l : Tl} : NL (synE l) := fun _ h => nomatch h
theorem Kp.ok : Kp m fun l => .ok l := fun l h => ⟨nl_ok, fun l' e => by cases e; exact h⟩
theorem Kp.syn : Kp m synE := fun l h => ⟨nl_syn, fun l' e => nomatch e⟩
theorem nl_and {r : RdR} (h1 : NL r) (h2 : ∀ l, r = .ok l → NL (g l)) : NL (andR r g) := by
  cases r with
  | error e => exact fun w z => h1 w z
  | ok l => exact h2 l rfl
theorem Kp.and (hf : Kp m f) (hg : Kp m g) : Kp m fun l => andR (f l) g := fun l h => ⟨nl_and (hf l h).1 fun l1 e => (hg l1 ((hf l h).2 l1 e)).1, fun l' e => by
  obtain ⟨M, h1, h2⟩ := and_ok e
  exact (hg M ((hf l h).2 M h1)).2 l' h2⟩
theorem Kp.tl {w : Str} (n1 : w ≠ "{" := by decide +kernel) (n2 : w ≠ "}" := by decide +kernel) (hf : Kp m f) (hg : Kp m g) : Kp m fun l => if isW w l = true then f l.tail else g l := fun l h => by
  show NL (if isW w l = true then f l.tail else g l) ∧ ∀ l', (if isW w l = true then f l.tail else g l) = .ok l' → _
  by_cases e : isW w l = true
  · rw [if_pos e]
    exact hf _ (h.w e n1 n2)
  · rw [if_neg e]
    exact hg _ h
theorem Kp.ite {w : Str} (hf : Kp m f) (hg : Kp m g) : Kp m fun l => if isW w l = true then f l else g l := fun l h => by
  show NL (if isW w l = true then f l else g l) ∧ ∀ l', (if isW w l = true then f l else g l) = .ok l' → _
  by_cases e : isW w l = true
  · rw [if_pos e]
    exact hf _ h
  · rw [if_neg e]
    exact hg _ h
theorem kp_exp (w : Str) (n1 : w ≠ "{" := by decide +kernel) (n2 : w ≠ "}" := by decide +kernel) : Kp m (rExp w) := Kp.tl (f := fun l => .ok l) n1 n2 Kp.ok Kp.syn
theorem kp_name : Kp m rName := fun l h => by
  show NL (if isN l = true then .ok l.tail else synE l) ∧ ∀ l', (if isN l = true then .ok l.tail else synE l) = .ok l' → _
  by_cases e : isN l = true
  · rw [if_pos e]
    exact ⟨nl_ok, fun l' z => by cases z; exact h.k (isN_mark e)⟩
  · rw [if_neg e]
    exact ⟨nl_syn, fun l' z => nomatch z⟩
theorem kp_loop' {c : Tl → Bool} (sf : Suf f) (cn : c [] = false) (hc : ∀ l, Pd m l → c l = true → Pd m l.tail) (hf : Kp m f) : ∀ (k : Nat) (l : Tl), l.length ≤ k → Pd m l → NL (rLoop c f l.length l) ∧ ∀ l', rLoop c f l.length l = .ok l' → Pd m l'
  | k, l, hk, h => by
    rw [loop_eq sf cn]
    by_cases e : c l = true
    · rw [if_pos e]
      have ht := hc l h e
      have ne : l ≠ [] := fun z => by rw [z, cn] at e; cases e
      have lt := tail_lt ne
      have rec' : ∀ l1, f l.tail = .ok l1 → NL (rLoop c f l1.length l1) ∧ ∀ l', rLoop c f l1.length l1 = .ok l' → Pd m l' := fun l1 e1 => by
        have := (sf _ _ e1).length_le
        cases k with
        | zero => omega
        | succ k => exact kp_loop' sf cn hc hf k l1 (by omega) ((hf _ ht).2 l1 e1)
      refine ⟨nl_and (hf _ ht).1 fun l1 e1 => (rec' l1 e1).1, fun l' e2 => ?_⟩
      obtain ⟨M, h1, h2⟩ := and_ok e2
      exact (rec' M h1).2 l' h2
    · rw [if_neg e]
      exact ⟨nl_ok, fun l' z => by cases z; exact h⟩
theorem isW_nil (w : Str) : isW w [] = false := by
  unfold isW
  rw [show kindH [] = "" from rfl, decide_eq_false (by decide +kernel)]
  rfl
theorem kp_loop {w : Str} (n1 : w ≠ "{" := by decide +kernel) (n2 : w ≠ "}" := by decide +kernel) (sf : Suf f) (hf : Kp m f) : Kp m fun l => rLoop (isW w) f l.length l := fun l h => kp_loop' sf (isW_nil w) (fun l h e => h.w e n1 n2) hf l.length l (Nat.le_refl _) h
theorem kp_names : Kp m rNames := kp_name.and (kp_loop (sf := suf_name) (hf := kp_name))
theorem kp_row : Kp m rRow := kp_name.and (g := fun l => rLoop isN (fun l => .ok l) l.length l) fun l h => kp_loop' Suf.ok (by decide +kernel) (fun l h e => h.k (isN_mark e)) Kp.ok l.length l (Nat.le_refl _) h
theorem kp_term : Kp m rTerm := fun l h => by
  rw [rTerm_eq]
  by_cases e : isN l = true
  · rw [if_pos e]
    exact ⟨nl_ok, fun l' z => by cases z; exact h.k (isN_mark e)⟩
  · rw [if_neg e]
    by_cases n : kindH l = "number"
    · rw [if_pos (decide_eq_true n)]
      have ln : (textH l).length ≤ 12 := by
        cases l with
        | nil => exact absurd n (by decide +kernel)
        | cons k r => exact h.2 k List.mem_cons_self n
      unfold rNum
      rw [if_pos ln]
      exact Kp.tl (w := "*") (by decide +kernel) (by decide +kernel) kp_name Kp.ok l.tail (h.k (by rw [n]; decide +kernel))
    · rw [if_neg (by rw [decide_eq_false n]; decide)]
      exact ⟨nl_syn, fun l' z => nomatch z⟩
theorem kp_sums' : ∀ (k : Nat) (l : Tl), l.length ≤ k → Pd m l → NL (rSums l) ∧ ∀ l', rSums l = .ok l' → Pd m l'
  | k, l, hk, h => by
    rw [sums_eq]
    have key : ∀ l1, rTerm l = .ok l1 → NL (sumT l1) ∧ ∀ l', sumT l1 = .ok l' → Pd m l' := fun l1 e1 => by
      have h1 := (kp_term l h).2 l1 e1
      have le := (suf_term _ _ e1).length_le
      unfold sumT
      by_cases p : isW "+" l1 = true
      · rw [if_pos p]
        have lt := tail_lt (nonnil_W p)
        cases k with
        | zero => omega
        | succ k => exact kp_sums' k l1.tail (by omega) (h1.w p (by decide +kernel) (by decide +kernel))
      · rw [if_neg p]
        by_cases q : isW "-" l1 = true
        · rw [if_pos q]
          have lt := tail_lt (nonnil_W q)
          cases k with
          | zero => omega
          | succ k => exact kp_sums' k l1.tail (by omega) (h1.w q (by decide +kernel) (by decide +kernel))
        · rw [if_neg q]
          exact ⟨nl_ok, fun l' z => by cases z; exact h1⟩
    refine ⟨nl_and (kp_term l h).1 fun l1 e1 => (key l1 e1).1, fun l' e2 => ?_⟩
    obtain ⟨M, h1, h2⟩ := and_ok e2
    exact (key M h1).2 l' h2
theorem kp_expr : Kp m rExpr := by
  have e : rExpr = fun l => if isW "-" l = true then rSums l.tail else rSums l := funext fun l => by
    rw [expr_eq]
    split <;> rfl
  have k : Kp m rSums := fun l h => kp_sums' l.length l (Nat.le_refl _) h
  rw [e]
  exact Kp.tl (hf := k) (hg := k)
theorem kp_arg : Kp m rArg := Kp.tl (hf := kp_name) (hg := kp_expr)
theorem kp_list (sf : Suf f) (hf : Kp m f) : Kp m fun l => if isW ")" l = true then (.ok l.tail : RdR) else andR (f l) fun l2 => andR (rMore f l2.length l2) (rExp ")") :=
  Kp.tl (f := fun l => .ok l) (hf := Kp.ok) (hg := hf.and ((kp_loop (sf := sf) (hf := hf)).and (kp_exp ")")))
theorem kp_args : Kp m rArgs := (kp_exp "(").and (kp_list suf_arg kp_arg)
theorem kp_set : Kp m rSet := by
  have k : Kp m fun l => if (isN l && decide (textH l.tail = "(")) = true then andR (rName l) rArgs else rExpr l := fun l h => by
    show NL (if (isN l && decide (textH l.tail = "(")) = true then andR (rName l) rArgs else rExpr l) ∧ ∀ l', (if (isN l && decide (textH l.tail = "(")) = true then andR (rName l) rArgs else rExpr l) = .ok l' → _
    by_cases e : (isN l && decide (textH l.tail = "(")) = true
    · rw [if_pos e]
      exact (kp_name.and kp_args) l h
    · rw [if_neg e]
      exact kp_expr l h
  exact Kp.tl (w := "?") (f := fun l => .ok l) (hf := Kp.ok) (hg := k)
theorem kp_action : Kp m rAction := kp_name.and (Kp.ite kp_args ((kp_exp "=").and kp_set))
variable {blk : Tl → RdR}
theorem kp_hand (h : Kp m blk) : Kp m (rHand blk) := kp_names.and h
theorem kp_opt {w : Str} (n1 : w ≠ "{" := by decide +kernel) (n2 : w ≠ "}" := by decide +kernel) (h : Kp m f) : Kp m fun l => if isW w l = true then f l.tail else .ok l := Kp.tl n1 n2 h Kp.ok
theorem kp_try (s : Suf blk) (h : Kp m blk) : Kp m (rTry blk) := h.and (Kp.tl (w := "except") (hf := (kp_hand h).and ((kp_loop (w := "except") (sf := suf_names.and s) (hf := kp_hand h)).and (kp_opt (w := "finally") (h := h)))) (hg := (kp_exp "finally").and h))
theorem kp_with (h : Kp m blk) : Kp m (rWith blk) := kp_name.and (kp_args.and ((kp_exp ",").and (kp_name.and (kp_args.and ((kp_opt (w := "swallow") (h := kp_names)).and h)))))
theorem kp_stmt (s : Suf blk) (h : Kp m blk) : Kp m (rStmt blk) := fun l hl => by
  have k := Kp.tl (m := m) (w := "if") (hf := h.and (kp_opt (w := "else") (h := h))) (hg := Kp.tl (w := "while") (hf := h) (hg := Kp.tl (w := "risk") (hf := kp_names) (hg := Kp.tl (w := "raise") (hf := kp_name) (hg := Kp.tl (w := "try") (hf := kp_try s h) (hg := Kp.tl (w := "undo") (hf := kp_names.and h) (hg := Kp.tl (w := "with") (hf := kp_with h) (hg := (kp_exp "return").and kp_expr)))))))
  unfold rStmt
  by_cases e : isN l = true
  · rw [if_pos e]
    exact kp_action l hl
  · rw [if_neg e]
    exact k l hl
theorem kp_stms' {n : Nat} (s3 : Rd3 blk) (h : Kp n blk) : ∀ (k : Nat) (l : Tl), l.length ≤ k → Pd n l → NL (rStms blk l) ∧ ∀ l', rStms blk l = .ok l' → Pd (n + 1) l'
  | k, l, hk, hp => by
    rw [stms_eq s3]
    by_cases p : isW "}" l = true
    · rw [if_pos p]
      exact ⟨nl_ok, fun l' z => by cases z; exact ⟨hp.1.cl p, hp.2.tail⟩⟩
    · rw [if_neg p]
      have ks := kp_stmt s3.u h l hp
      have key : ∀ l1, rStmt blk l = .ok l1 → NL (rStms blk l1) ∧ ∀ l', rStms blk l1 = .ok l' → Pd (n + 1) l' := fun l1 e1 => by
        have lt := dec_stmt s3 _ _ e1
        cases k with
        | zero => omega
        | succ k => exact kp_stms' s3 h k l1 (by omega) (ks.2 l1 e1)
      refine ⟨nl_and ks.1 fun l1 e1 => (key l1 e1).1, fun l' e2 => ?_⟩
      obtain ⟨M, h1, h2⟩ := and_ok e2
      exact (key M h1).2 l' h2
theorem kp_block : ∀ m, Kp m (rBlock m)
  | 0 => fun l h => by
    show NL (if isW "{" l = true then .error (.large "nesting") else synE l) ∧ ∀ l', (if isW "{" l = true then .error (.large "nesting") else synE l) = .ok l' → _
    have e : isW "{" l = false := by
      cases q : isW "{" l with
      | false => rfl
      | true =>
        obtain ⟨m', z, _⟩ := h.1.op q
        cases z
    rw [if_neg (by rw [e]; decide)]
    exact ⟨nl_syn, fun l' z => nomatch z⟩
  | m + 1 => fun l h => by
    show NL (andR (if isW "{" l = true then .ok l.tail else synE l) (rStms (rBlock m))) ∧ ∀ l', andR (if isW "{" l = true then .ok l.tail else synE l) (rStms (rBlock m)) = .ok l' → _
    by_cases e : isW "{" l = true
    · rw [if_pos e]
      obtain ⟨m', z, hb⟩ := h.1.op e
      have : m' = m := by omega
      subst this
      exact kp_stms' (block3 m') (kp_block m') l.tail.length l.tail (Nat.le_refl _) ⟨hb, h.2.tail⟩
    · rw [if_neg e]
      exact ⟨(fun _ z => nomatch z), fun l' z => nomatch z⟩
theorem kp_param : Kp m rParam := by
  have e : rParam = fun l => if isW "&" l = true then rName l.tail else rName l := funext fun l => by
    unfold rParam
    split <;> rfl
  rw [e]
  exact Kp.tl (hf := kp_name) (hg := kp_name)
theorem kp_function : Kp 30 rFunction := kp_name.and ((kp_exp "(").and (Kp.and (f := fun l2 => if isW ")" l2 = true then (.ok l2.tail : RdR) else andR (rParam l2) fun l3 => andR (rMore rParam l3.length l3) (rExp ")")) (kp_list param3.u kp_param) (kp_block 30)))
/-- a text of few brackets has nothing too large -/
theorem nl_prog {l : Tl} (h : Pd 30 l) : NL (rProgram l) := by
  have e4 : Kp 30 fun l4 => if kindH l4 = "end" then (.ok l4 : RdR) else synE l4 := fun l h => by
    show NL (if kindH l = "end" then (.ok l : RdR) else synE l) ∧ ∀ l', (if kindH l = "end" then (.ok l : RdR) else synE l) = .ok l' → _
    by_cases e : kindH l = "end"
    · rw [if_pos e]
      exact ⟨nl_ok, fun l' z => by cases z; exact h⟩
    · rw [if_neg e]
      exact ⟨nl_syn, fun l' z => nomatch z⟩
  exact (((kp_opt (w := "globals") (h := kp_row)).and ((kp_opt (w := "kinds") (h := kp_row)).and ((kp_loop (w := "keep") (sf := suf_expr) (hf := kp_expr)).and ((kp_loop (w := "def") (sf := function3.u) (hf := kp_function)).and e4)))) l h).1
end

/-! ### k04: words, the balance of brackets, lists of words -/
def BdW : Nat → List Str → Prop
  | _, [] => True
  | m, w :: r => if w = "{" then (∃ m', m = m' + 1 ∧ BdW m' r) else if w = "}" then BdW (m + 1) r else BdW m r
theorem bdW_op {m : Nat} {r : List Str} (h : BdW m r) : BdW (m + 1) ("{" :: r) := by
  unfold BdW
  rw [if_pos rfl]
  exact ⟨m, rfl, h⟩
theorem bdW_cl {m : Nat} {r : List Str} (h : BdW (m + 1) r) : BdW m ("}" :: r) := by
  unfold BdW
  rw [if_neg br_ne.symm, if_pos rfl]
  exact h
theorem bdW_no {m : Nat} {w : Str} {r : List Str} (h1 : w ≠ "{") (h2 : w ≠ "}") (h : BdW m r) : BdW m (w :: r) := by
  unfold BdW
  rw [if_neg h1, if_neg h2]
  exact h
theorem bdW_inv {m : Nat} {w : Str} {r : List Str} (h : BdW m (w :: r)) : (w = "{" ∧ ∃ m', m = m' + 1 ∧ BdW m' r) ∨ (w = "}" ∧ BdW (m + 1) r) ∨ (w ≠ "{" ∧ w ≠ "}" ∧ BdW m r) := by
  unfold BdW at h
  by_cases e : w = "{"
  · rw [if_pos e] at h; exact .inl ⟨e, h⟩
  · rw [if_neg e] at h
    by_cases e2 : w = "}"
    · rw [if_pos e2] at h; exact .inr (.inl ⟨e2, h⟩)
    · rw [if_neg e2] at h; exact .inr (.inr ⟨e, e2, h⟩)
theorem BdW.mono : ∀ {l : List Str} {m : Nat}, BdW m l → BdW (m + 1) l
  | [], _, _ => trivial
  | w :: r, m, h => by
    rcases bdW_inv h with ⟨rfl, m', rfl, g⟩ | ⟨rfl, g⟩ | ⟨e1, e2, g⟩
    · exact bdW_op g.mono
    · exact bdW_cl g.mono
    · exact bdW_no e1 e2 g.mono
theorem BdW.le {l : List Str} {m : Nat} (h : BdW m l) : ∀ {k : Nat}, m ≤ k → BdW k l := fun {k} hk => by
  obtain ⟨d, rfl⟩ : ∃ d, k = m + d := ⟨k - m, by omega⟩
  clear hk
  induction d with
  | zero => exact h
  | succ d ih => exact ih.mono
theorem bdW_ins {x : Str} {B : List Str} : ∀ {A : List Str} {m : Nat}, BdW m (A ++ B) → BdW (m + 1) (A ++ x :: B)
  | [], m, h => by
    by_cases e : x = "{"
    · rw [e]; exact bdW_op h
    · by_cases e2 : x = "}"
      · rw [e2]; exact bdW_cl (BdW.le h (by omega))
      · exact bdW_no e e2 (BdW.le h (by omega))
  | w :: r, m, h => by
    rcases bdW_inv h with ⟨rfl, m', rfl, g⟩ | ⟨rfl, g⟩ | ⟨e1, e2, g⟩
    · exact bdW_op (bdW_ins g)
    · exact bdW_cl (bdW_ins g)
    · exact bdW_no e1 e2 (bdW_ins g)
theorem bdW_del {y : Str} {B : List Str} : ∀ {A : List Str} {m : Nat}, BdW m (A ++ y :: B) → BdW (m + 1) (A ++ B)
  | [], m, h => by
    rcases bdW_inv h with ⟨_, m', rfl, g⟩ | ⟨_, g⟩ | ⟨_, _, g⟩
    · exact BdW.le g (by omega)
    · exact g
    · exact BdW.le g (by omega)
  | w :: r, m, h => by
    rcases bdW_inv h with ⟨rfl, m', rfl, g⟩ | ⟨rfl, g⟩ | ⟨e1, e2, g⟩
    · exact bdW_op (bdW_del g)
    · exact bdW_cl (bdW_del g)
    · exact bdW_no e1 e2 (bdW_del g)
theorem bdW_take {B : List Str} : ∀ {A : List Str} {m : Nat}, BdW m (A ++ B) → BdW m A
  | [], _, _ => trivial
  | w :: r, m, h => by
    rcases bdW_inv h with ⟨rfl, m', rfl, g⟩ | ⟨rfl, g⟩ | ⟨e1, e2, g⟩
    · exact bdW_op (bdW_take g)
    · exact bdW_cl (bdW_take g)
    · exact bdW_no e1 e2 (bdW_take g)
/-- balanced, at most d open -/
def BalW (d : Nat) (ws : List Str) : Prop := ∀ m rest, d ≤ m → BdW m rest → BdW m (ws ++ rest)
theorem BalW.nil {d : Nat} : BalW d [] := fun _ _ _ h => h
theorem BalW.mono {d e : Nat} {ws : List Str} (h : BalW d ws) (k : d ≤ e) : BalW e ws := fun m rest h1 h2 => h m rest (by omega) h2
theorem BalW.app {d : Nat} {a b : List Str} (h : BalW d a) (k : BalW d b) : BalW d (a ++ b) := fun m rest h1 h2 => by
  rw [List.append_assoc]
  exact h m _ h1 (k m rest h1 h2)
theorem BalW.cons {d : Nat} {w : Str} {ws : List Str} (h1 : w ≠ "{") (h2 : w ≠ "}") (h : BalW d ws) : BalW d (w :: ws) := fun m rest k1 k2 => bdW_no h1 h2 (h m rest k1 k2)
theorem BalW.blk {d : Nat} {ws : List Str} (h : BalW d ws) : BalW (d + 1) ("{" :: (ws ++ [("}" : Str)])) := fun m rest h1 h2 => by
  obtain ⟨m', rfl⟩ : ∃ m', m = m' + 1 := ⟨m - 1, by omega⟩
  show BdW (m' + 1) ("{" :: ((ws ++ [("}" : Str)]) ++ rest))
  rw [List.append_assoc]
  exact bdW_op (h m' _ (by omega) (bdW_cl h2))
theorem BalW.bd {d : Nat} {ws : List Str} (h : BalW d ws) : BdW d ws := by
  have := h d [] (Nat.le_refl _) trivial
  rw [List.append_nil] at this
  exact this
/-- the written words of the law -/
def FIX : List Str := MARKS ++ [("0" : Str), "12", "7", "30", "q", "q7"]
structure NmN (N : List Str) : Prop where
  nm : ∀ x ∈ N, isName x = true ∧ x.length ≤ 10
  ln : N.length = 4
structure WsG (N : List Str) (d : Nat) (ws : List Str) : Prop where
  w : ∀ x ∈ ws, x ∈ N ∨ x ∈ FIX
  b : BalW d ws
section
variable {N : List Str} {d e : Nat} {a b ws : List Str} {x : Str}
theorem WsG.nil : WsG N d [] := ⟨(fun _ h => nomatch h), .nil⟩
theorem WsG.app (h : WsG N d a) (k : WsG N d b) : WsG N d (a ++ b) := ⟨fun x hx => (List.mem_append.mp hx).elim (h.w x) (k.w x), h.b.app k.b⟩
theorem WsG.mono (h : WsG N d a) (k : d ≤ e) : WsG N e a := ⟨h.w, h.b.mono k⟩
theorem WsG.fix (h : x ∈ FIX) (h1 : x ≠ "{") (h2 : x ≠ "}") (k : WsG N d ws) : WsG N d (x :: ws) := ⟨fun y hy => by
  rcases List.mem_cons.mp hy with rfl | z
  · exact .inr h
  · exact k.w y z, k.b.cons h1 h2⟩
theorem name_br (h : isName x = true) : x ≠ "{" ∧ x ≠ "}" := by
  have ha := (name_al h).2.1
  refine ⟨fun z => ?_, fun z => ?_⟩
  · rw [z] at ha
    exact absurd (ha 123 (by decide +kernel)) (by decide +kernel)
  · rw [z] at ha
    exact absurd (ha 125 (by decide +kernel)) (by decide +kernel)
theorem WsG.nme (nn : NmN N) (h : x ∈ N) (k : WsG N d ws) : WsG N d (x :: ws) := ⟨fun y hy => by
  rcases List.mem_cons.mp hy with rfl | z
  · exact .inl h
  · exact k.w y z, k.b.cons (name_br (nn.nm x h).1).1 (name_br (nn.nm x h).1).2⟩
theorem WsG.blk (h : WsG N d ws) : WsG N (d + 1) ("{" :: (ws ++ [("}" : Str)])) := ⟨fun y hy => by
  rcases List.mem_cons.mp hy with rfl | z
  · exact .inr (by decide +kernel)
  · rcases List.mem_append.mp z with z | z
    · exact h.w y z
    · rw [List.mem_singleton.mp z]
      exact .inr (by decide +kernel), h.b.blk⟩
end
/-- a list of words, apart from the pool -/
structure LsW (H : Hp) (p c q : Addr) (ws : List Str) : Prop where
  e : H q = some (.lst (ws.map V.str))
  n1 : q ≠ p
  n2 : q ≠ c
theorem But.ofs {p c : Addr} {H H' : Hp} (s : Same H H') : But p c H H' := fun b o e _ _ => s b o e
section
variable {H H' : Hp} {p c q q1 q2 : Addr} {lim : V} {n : Nat} {ws w1 w2 : List Str} {Q : VK}
theorem LsW.but (h : LsW H p c q ws) (b : But p c H H') : LsW H' p c q ws := ⟨b _ _ h.e h.n1 h.n2, h.n1, h.n2⟩
theorem LsW.same (h : LsW H p c q ws) (b : Same H H') : LsW H' p c q ws := ⟨b _ _ h.e, h.n1, h.n2⟩
theorem LsW.new (P : PoolAt H p c lim n) (hq : H q = none) : LsW (upd H q (.lst (ws.map V.str))) p c q ws := ⟨upd_same, P.ne1 hq, P.ne2 hq⟩
/-- a list display of words -/
theorem lst_new (ws : List Str) (P : PoolAt H p c lim n) (hl : ws.length ≤ 100000) (k : ∀ r H', Same H H' → LsW H' p c r ws → Q (.ref r) H') : (ws.map V.str).length ≤ sizeLine ∧ ∀ r, H r = none → Q (.ref r) (upd H r (.lst (ws.map V.str))) :=
  ⟨by rw [List.length_map]; exact Nat.le_trans hl (by decide), fun r hr => k r _ (same_new hr) (.new P hr)⟩
/-- the sum of two lists of words -/
theorem cat_new (P : PoolAt H p c lim n) (a : LsW H p c q1 w1) (b : LsW H p c q2 w2) (hl : w1.length + w2.length ≤ 100000) (k : ∀ r H', Same H H' → LsW H' p c r (w1 ++ w2) → Q (.ref r) H') : rCat (.ref q1) (.ref q2) H Q :=
  ⟨q1, q2, _, _, rfl, rfl, a.e, b.e, by rw [List.length_map, List.length_map]; exact Nat.le_trans hl (by decide), fun r hr => by
    rw [← List.map_append]
    exact k r _ (same_new hr) (.new P hr)⟩
end
theorem at_nm {N : List Str} {r : Int} (r0 : 0 ≤ r) (r1 : r < N.length) : ∃ x, x ∈ N ∧ atI (N.map V.str) r = some (.str x) := by
  obtain ⟨j, rfl⟩ : ∃ j : Nat, r = (j : Int) := ⟨r.toNat, by omega⟩
  have hj : j < N.length := by omega
  exact ⟨N[j], List.getElem_mem hj, atI_nat (by rw [List.getElem?_map, List.getElem?_eq_getElem hj]; rfl)⟩
def spGs (C L : Nat) : Sp := fun vs H Q _ => ∃ (p c nl : Addr) (lim : V) (n : Nat) (N : List Str), vs = [.ref p, .ref nl] ∧ PoolAt H p c lim n ∧ n + C ≤ 100000000000 ∧ LsW H p c nl N ∧ NmN N ∧ ∀ (q : Addr) (ws : List Str) (H' : Hp), LsW H' p c q ws → WsG N 0 ws → ws.length ≤ L → PoolAt H' p c lim (n + C) → But p c H H' → Q (.ref q) H'

/-! ### k04: sums, lists, calls are drawn -/
abbrev sGSm : Stmt := topS 24
abbrev NGSm : List Str := ["_law_pool_here", "_law_names_here", "_law_tokens", "_law_k", "_law_sign", "_law_term", "_law_form"]
abbrev PGSm : List Str := ["_law_pool_here", "_law_names_here"]
theorem scGSm : FnScope NGSm PGSm (defScope sGSm) := ⟨rfl, rfl, rfl, by decide +kernel, rfl, by decide +kernel, by decide +kernel⟩
abbrev sGLs : Stmt := topS 25
abbrev NGLs : List Str := ["_law_pool_here", "_law_names_here", "_law_tokens", "_law_k"]
abbrev PGLs : List Str := ["_law_pool_here", "_law_names_here"]
theorem scGLs : FnScope NGLs PGLs (defScope sGLs) := ⟨rfl, rfl, rfl, by decide +kernel, rfl, by decide +kernel, by decide +kernel⟩
abbrev sGCl : Stmt := topS 26
abbrev NGCl : List Str := ["_law_pool_here", "_law_names_here", "_law_tokens", "_law_k", "_law_arg"]
abbrev PGCl : List Str := ["_law_pool_here", "_law_names_here"]
theorem scGCl : FnScope NGCl PGCl (defScope sGCl) := ⟨rfl, rfl, rfl, by decide +kernel, rfl, by decide +kernel, by decide +kernel⟩
structure TxG4 (mg : Str → Option Value) : Prop where
  n_len : mg "len" = none
  n_range : mg "range" = none
abbrev rLnS (K : PySem.W.Frag) : List V → Hp → VK → Prop := fun xs H Q => ∃ p ys, xs = [.ref p] ∧ (SqL K H p ys ∨ SqT K H p ys) ∧ Q (.int ys.length) H
/-- a name is drawn -/
theorem draw_nm {K : PySem.W.Frag} {p c nl : Addr} {lim : V} {N : List Str} (nn : NmN N) {σ : L2.St} {H1 : Hp} {n1 : Nat} {Q1 : VK} (hN : LsW H1 p c nl N) (h0 : σ[0]? = some (some (.ref p))) (h1 : σ[1]? = some (some (.ref nl))) (P1 : PoolAt H1 p c lim n1) (hn1 : n1 ≤ 100000000000) (k1 : ∀ x H2, x ∈ N → PoolAt H2 p c lim (n1 + 1) → But p c H1 H2 → Q1 (.str x) H2) :
    tOp (rIxL K) (tVar 1) (tCall spDraw [] E0 (tCons (tVar 0) (tCons (tCB (rLnS K) (tCons (tVar 1) tNil)) tNil))) σ H1 Q1 := by
  have lN : (N.map V.str).length = 4 := by rw [List.length_map]; exact nn.ln
  refine ⟨_, h1, _, h0, _, h1, nl, _, rfl, .inl (SqL.of hN.e), p, c, lim, n1, _, rfl, P1, by omega, by rw [lN]; decide, by rw [lN]; decide, fun r H2 r0 r1 P2 b2 => ?_⟩
  rw [lN] at r1
  obtain ⟨x, hx, ax⟩ := at_nm (N := N) r0 (by rw [nn.ln]; exact r1)
  exact ⟨nl, _, r, _, rfl, rfl, SqL.of (hN.but b2).e, ax, k1 x H2 hx P2 b2⟩
section
variable {P : Program} {w : World} {K : PySem.W.Frag} {mg : Str → Option Value} {base : Heap}
theorem ok_GLs {f : Addr} {fd : FuncData} (F : Fun K "_law_some_list" "_law_some_list" sGLs f fd) (T : TxG4 mg) (GD : Has P w K mg base CX0 2 "_law_draw" PDraw spDraw) : FnOk P w K mg base CX0 3 f fd PGLs (spGs 10 5) := by
  refine F.ok scGLs (fun vs H Q E h => ?_) (fun cdv A outer s H vs Q E hr h => ?_)
  · obtain ⟨p, c, nl, lim, n, N, rfl, _⟩ := h
    rfl
  · obtain ⟨p, c, nl, lim, n, N, rfl, P0, hn, hN, nn, k⟩ := h
    refine ⟨_, (pss_cons (ps_set (i := 2) scGLs.nd rfl (Or.inl rfl) (pe_lst (pa_cons (pe_ix (r := rIxL K) ix_list (pv 1) (pe_callH GD hr rfl pass0 (pa_cons (pv 0) (pa_cons (pe_callB call_len_seq (by rfl) T.n_len bb_len (pa_cons (pv 1) pa_nil)) pa_nil))) (fun _ _ => rfl)) pa_nil)))
  (pss_cons (ps_for PassesOwn.never rfl (pi_range1 (by rfl) T.n_range (pa_cons (pe_callH GD hr rfl pass0 (pa_cons (pv 0) (pa_cons pe_int pa_nil))) pa_nil)) (pg_name (i := 3) scGLs.nd rfl (Or.inl rfl))
  (pss_one (ps_set (i := 2) scGLs.nd rfl (Or.inl rfl) (pe_op op_cat (pv 2) (pe_lst (pa_cons pe_str (pa_cons (pe_ix (r := rIxL K) ix_list (pv 1) (pe_callH GD hr rfl pass0 (pa_cons (pv 0) (pa_cons (pe_callB call_len_seq (by rfl) T.n_len bb_len (pa_cons (pv 1) pa_nil)) pa_nil))) (fun _ _ => rfl)) pa_nil)))))))
  (pss_one (ps_ret (pv 2))))), ?_⟩
    have l3 : ∀ r : Int, 0 ≤ r → r < 3 → r.toNat ≤ 2 := fun r _ _ => by omega
    refine draw_nm nn hN rfl rfl P0 (by omega) fun x H1 hx P1 b1 => ?_
    refine ⟨(by show 1 ≤ sizeLine; decide), fun q1 nq1 => ?_⟩
    have sq1 := same_new (o := .lst [V.str x]) nq1
    have hq1 : LsW (upd H1 q1 (.lst [V.str x])) p c q1 [(x : Str)] := ⟨upd_same, P1.ne1 nq1, P1.ne2 nq1⟩
    have P2 := P1.same sq1
    generalize upd H1 q1 (.lst [V.str x]) = H2 at *
    have b2 : But p c H H2 := b1.trans (.ofs sq1)
    refine ⟨_, rfl, p, c, lim, _, 3, rfl, P2, by omega, by decide, by decide, fun r H3 r0 r1 P3 b3 => ⟨r, rfl, by omega, by omega, ?_⟩⟩
    have lr := l3 r r0 r1
    refine for_range (lo := 0) (n := r.toNat) (fun i σ H' => ∃ (q2 : Addr) (ws : List Str) (x3 : Option V), σ = [some (.ref p), some (.ref nl), some (.ref q2), x3] ∧ LsW H' p c q2 ws ∧ WsG N 0 ws ∧ ws.length ≤ 1 + 2 * i ∧ PoolAt H' p c lim (n + 2 + i) ∧ But p c H H') ⟨q1, [x], _, rfl, hq1.but b3, .nme nn hx .nil, Nat.le_refl _, P3, b2.trans b3⟩ ?_ ?_
    · rintro i σ H4 hi ⟨q2, ws, x3, rfl, hq2, g2, l2, P4, b4⟩
      refine ⟨_, rfl, ?_⟩
      refine draw_nm nn (hN.but b4) rfl rfl P4 (by omega) fun y H5 hy P5 b5 => ?_
      refine ⟨(by show 2 ≤ sizeLine; decide), fun q3 nq3 => ?_⟩
      have sq3 := same_new (o := .lst [V.str ",", V.str y]) nq3
      have hq3 : LsW (upd H5 q3 (.lst [V.str ",", V.str y])) p c q3 [("," : Str), (y : Str)] := ⟨upd_same, P5.ne1 nq3, P5.ne2 nq3⟩
      have P6 := P5.same sq3
      generalize upd H5 q3 (.lst [V.str ",", V.str y]) = H6 at *
      refine cat_new P6 ((hq2.but b5).same sq3) hq3 (by show _ + 2 ≤ _; omega) fun q4 H7 s7 hq4 => ?_
      exact ⟨q4, ws ++ [("," : Str), y], _, rfl, hq4, g2.app (.fix (by decide +kernel) (by decide +kernel) (by decide +kernel) (.nme nn hy .nil)), by rw [List.length_append]; show _ + 2 ≤ _; omega, ((P6.same s7).mono (by omega)), b4.trans (b5.trans ((But.ofs sq3).trans (.ofs s7)))⟩
    · rintro σ H4 ⟨q2, ws, x3, rfl, hq2, g2, l2, P4, b4⟩
      exact ⟨_, rfl, k q2 ws H4 hq2 g2 (by omega) (P4.mono (by omega)) b4⟩
theorem ok_GSm {f : Addr} {fd : FuncData} (F : Fun K "_law_some_sum" "_law_some_sum" sGSm f fd) (T : TxG4 mg) (GD : Has P w K mg base CX0 2 "_law_draw" PDraw spDraw) : FnOk P w K mg base CX0 3 f fd PGSm (spGs 20 12) := by
  refine F.ok scGSm (fun vs H Q E h => ?_) (fun cdv A outer s H vs Q E hr h => ?_)
  · obtain ⟨p, c, nl, lim, n, N, rfl, _⟩ := h
    rfl
  · obtain ⟨p, c, nl, lim, n, N, rfl, P0, hn, hN, nn, k⟩ := h
    refine ⟨_, (pss_cons (ps_set (i := 2) scGSm.nd rfl (Or.inl rfl) (pe_lst pa_nil))
  (pss_cons (ps_for PassesOwn.never rfl (pi_range1 (by rfl) T.n_range (pa_cons (pe_op op_add pe_int (pe_callH GD hr rfl pass0 (pa_cons (pv 0) (pa_cons pe_int pa_nil)))) pa_nil)) (pg_name (i := 3) scGSm.nd rfl (Or.inl rfl))
  (pss_cons (ps_set (i := 4) scGSm.nd rfl (Or.inl rfl) (pe_ix (r := rIxL K) ix_list (pe_lst (pa_cons pe_str (pa_cons pe_str pa_nil))) (pe_callH GD hr rfl pass0 (pa_cons (pv 0) (pa_cons pe_int pa_nil))) (fun _ _ => rfl)))
  (pss_cons (ps_set (i := 5) scGSm.nd rfl (Or.inl rfl) (pe_ix (r := rIxL K) ix_list (pv 1) (pe_callH GD hr rfl pass0 (pa_cons (pv 0) (pa_cons (pe_callB call_len_seq (by rfl) T.n_len bb_len (pa_cons (pv 1) pa_nil)) pa_nil))) (fun _ _ => rfl)))
  (pss_cons (ps_set (i := 6) scGSm.nd rfl (Or.inl rfl) (pe_callH GD hr rfl pass0 (pa_cons (pv 0) (pa_cons pe_int pa_nil))))
  (pss_cons (ps_set (i := 2) scGSm.nd rfl (Or.inl rfl) (pe_op op_cat (pv 2) (pe_ifExp (PW.pt (pw_or (pt_cmpR op_gt (pv 3) pe_int (nomark _)) (pw_or1 (pt_cmpR op_eq (pv 4) pe_str (nomark _))))) (pe_lst (pa_cons (pv 4) pa_nil)) (pe_lst pa_nil))))
  (pss_one (ps_set (i := 2) scGSm.nd rfl (Or.inl rfl) (pe_op op_cat (pv 2) (pe_ix (r := rIxL K) ix_list (pe_lst (pa_cons (pe_lst (pa_cons (pv 5) pa_nil)) (pa_cons (pe_lst (pa_cons pe_str pa_nil)) (pa_cons (pe_lst (pa_cons pe_str (pa_cons pe_str (pa_cons (pv 5) pa_nil)))) pa_nil)))) (pv 6) (fun _ _ => rfl))))))))))
  (pss_one (ps_ret (pv 2))))), ?_⟩
    refine ⟨(by show 0 ≤ sizeLine; decide), fun q1 nq1 => ?_⟩
    have sq1 := same_new (o := .lst []) nq1
    have hq1 : LsW (upd H q1 (.lst [])) p c q1 [] := ⟨upd_same, P0.ne1 nq1, P0.ne2 nq1⟩
    have P1 := P0.same sq1
    generalize upd H q1 (.lst []) = H1 at *
    have b1 : But p c H H1 := .ofs sq1
    refine ⟨_, rfl, p, c, lim, _, 3, rfl, P1, by omega, by decide, by decide, fun r H2 r0 r1 P2 b2 => ⟨_, _, rfl, rfl, _, rfl, by omega, by omega, ?_⟩⟩
    refine for_range (lo := 0) (n := (1 + r).toNat) (fun i σ H' => ∃ (q2 : Addr) (ws : List Str) (x3 x4 x5 x6 : Option V), σ = [some (.ref p), some (.ref nl), some (.ref q2), x3, x4, x5, x6] ∧ LsW H' p c q2 ws ∧ WsG N 0 ws ∧ ws.length ≤ 4 * i ∧ PoolAt H' p c lim (n + 1 + 3 * i) ∧ But p c H H') ⟨q1, [], _, _, _, _, rfl, hq1.but b2, .nil, Nat.le_refl _, P2, b1.trans b2⟩ ?_ ?_
    · rintro i σ H4 hi ⟨q2, ws, x3, x4, x5, x6, rfl, hq2, g2, l2, P4, b4⟩
      refine ⟨(by show 2 ≤ sizeLine; decide), fun q3 nq3 => ?_⟩
      have sq3 := same_new (o := .lst [V.str "+", V.str "-"]) nq3
      have hq3 : LsW (upd H4 q3 (.lst [V.str "+", V.str "-"])) p c q3 [("+" : Str), ("-" : Str)] := ⟨upd_same, P4.ne1 nq3, P4.ne2 nq3⟩
      have P5 := P4.same sq3
      generalize upd H4 q3 (.lst [V.str "+", V.str "-"]) = H5 at *
      have b5 : But p c H H5 := b4.trans (.ofs sq3)
      replace hq2 := hq2.same sq3
      refine ⟨_, rfl, p, c, lim, _, 2, rfl, P5, by omega, by decide, by decide, fun rs H6 rs0 rs1 P6 b6 => ?_⟩
      obtain ⟨v, hv, av⟩ := at_nm (N := [("+" : Str), "-"]) rs0 rs1
      refine ⟨q3, _, rs, _, rfl, rfl, SqL.of (hq3.but b6).e, av, ?_⟩
      have hv : v ∈ FIX ∧ v ≠ "{" ∧ v ≠ "}" := by
        simp only [List.mem_cons, List.not_mem_nil, or_false] at hv
        rcases hv with rfl | rfl <;> decide +kernel
      replace hq2 := hq2.but b6
      replace b6 := b5.trans b6
      refine draw_nm nn (hN.but b6) rfl rfl P6 (by omega) fun y H7 hy P7 b7 => ?_
      replace hq2 := hq2.but b7
      replace b7 := b6.trans b7
      refine ⟨_, rfl, p, c, lim, _, 3, rfl, P7, by omega, by decide, by decide, fun fm H8 f0 f1 P8 b8 => ?_⟩
      replace hq2 := hq2.but b8
      replace b8 := b7.trans b8
      have one : ∀ {Q9 : VK}, (∀ (q4 : Addr) (w4 : List Str) (H' : Hp), Same H8 H' → LsW H' p c q4 w4 → WsG N 0 w4 → w4.length ≤ 1 → PoolAt H' p c lim (n + 1 + 3 * i + 1 + 1 + 1) → Q9 (.ref q4) H') → tLst (tCons (tVar 4) tNil) [some (.ref p), some (.ref nl), some (.ref q2), some (.int (0 + (i : Nat))), some (.str v), some (.str y), some (.int fm)] H8 Q9 := fun {Q9} kk => by
        refine ⟨_, rfl, ?_⟩
        refine ⟨(by show 1 ≤ sizeLine; decide), fun q4 nq4 => ?_⟩
        have sq4 := same_new (o := .lst [V.str v]) nq4
        have hq4 : LsW (upd H8 q4 (.lst [V.str v])) p c q4 [(v : Str)] := ⟨upd_same, P8.ne1 nq4, P8.ne2 nq4⟩
        have P9 := P8.same sq4
        generalize upd H8 q4 (.lst [V.str v]) = H9 at *
        exact kk q4 [v] H9 sq4 hq4 (.fix hv.1 hv.2.1 hv.2.2 .nil) (Nat.le_refl _) P9
      have opt : ∀ {Q9 : VK}, (∀ (q4 : Addr) (w4 : List Str) (H' : Hp), Same H8 H' → LsW H' p c q4 w4 → WsG N 0 w4 → w4.length ≤ 1 → PoolAt H' p c lim (n + 1 + 3 * i + 1 + 1 + 1) → Q9 (.ref q4) H') → tIf (tOr (tTest (tOp (rI0 fun i j => V.bl (decide (j < i))) (tVar 3) (tC (V.int 0)))) (tTest (tOp rEq (tVar 4) (tC (V.str "-"))))) (tLst (tCons (tVar 4) tNil)) (tLst tNil) [some (.ref p), some (.ref nl), some (.ref q2), some (.int (0 + (i : Nat))), some (.str v), some (.str y), some (.int fm)] H8 Q9 := fun {Q9} key => by
        refine ⟨_, rfl, _, _, rfl, rfl, _, rfl, ?_⟩
        by_cases z : (0 : Int) < 0 + (i : Nat)
        · rw [decide_eq_true z]
          exact iteT (iteT (one key))
        · rw [decide_eq_false z]
          refine iteF ⟨_, rfl, rfl, _, rfl, ?_⟩
          by_cases z2 : v = "-"
          · exact iteS (decide_eq_true (by rw [z2])) (one key)
          · refine iteE (decide_eq_false fun e => z2 (V.str.inj e)) ?_
            refine ⟨(by show 0 ≤ sizeLine; decide), fun q4 nq4 => ?_⟩
            have sq4 := same_new (o := .lst []) nq4
            have hq4 : LsW (upd H8 q4 (.lst [])) p c q4 [] := ⟨upd_same, P8.ne1 nq4, P8.ne2 nq4⟩
            have P9 := P8.same sq4
            generalize upd H8 q4 (.lst []) = H9 at *
            exact key q4 [] H9 sq4 hq4 .nil (Nat.zero_le _) P9
      refine ⟨_, rfl, opt fun q4 w4 H9 s9 hq4 g4 l4 P9 => ?_⟩
      refine cat_new P9 (hq2.same s9) hq4 (by omega) fun q5 H10 s10 hq5 => ?_
      have P10 := P9.same s10
      have b10 : But p c H H10 := b8.trans ((But.ofs s9).trans (.ofs s10))
      refine ⟨_, rfl, _, rfl, ?_⟩
      refine ⟨(by show 1 ≤ sizeLine; decide), fun q6 nq6 => ?_⟩
      have sq6 := same_new (o := .lst [V.str y]) nq6
      have hq6 : LsW (upd H10 q6 (.lst [V.str y])) p c q6 [(y : Str)] := ⟨upd_same, P10.ne1 nq6, P10.ne2 nq6⟩
      have P11 := P10.same sq6
      generalize upd H10 q6 (.lst [V.str y]) = H11 at *
      refine ⟨(by show 1 ≤ sizeLine; decide), fun q7 nq7 => ?_⟩
      have sq7 := same_new (o := .lst [V.str "7"]) nq7
      have hq7 : LsW (upd H11 q7 (.lst [V.str "7"])) p c q7 [("7" : Str)] := ⟨upd_same, P11.ne1 nq7, P11.ne2 nq7⟩
      have P12 := P11.same sq7
      generalize upd H11 q7 (.lst [V.str "7"]) = H12 at *
      refine ⟨_, rfl, ?_⟩
      refine ⟨(by show 3 ≤ sizeLine; decide), fun q8 nq8 => ?_⟩
      have sq8 := same_new (o := .lst [V.str "30", V.str "*", V.str y]) nq8
      have hq8 : LsW (upd H12 q8 (.lst [V.str "30", V.str "*", V.str y])) p c q8 [("30" : Str), ("*" : Str), (y : Str)] := ⟨upd_same, P12.ne1 nq8, P12.ne2 nq8⟩
      have P13 := P12.same sq8
      generalize upd H12 q8 (.lst [V.str "30", V.str "*", V.str y]) = H13 at *
      replace hq5 := ((hq5.same sq6).same sq7).same sq8
      replace hq6 := (hq6.same sq7).same sq8
      replace hq7 := hq7.same sq8
      refine ⟨(by show 3 ≤ sizeLine; decide), fun q9 n9 => ?_⟩
      have s9' := same_new (o := .lst [.ref q6, .ref q7, .ref q8]) n9
      have e9 : upd H13 q9 (.lst [.ref q6, .ref q7, .ref q8]) q9 = some (.lst [.ref q6, .ref q7, .ref q8]) := upd_same
      have P14 := P13.same s9'
      generalize upd H13 q9 (.lst [.ref q6, .ref q7, .ref q8]) = H14 at *
      have b14 : But p c H H14 := b10.trans ((But.ofs sq6).trans ((But.ofs sq7).trans ((But.ofs sq8).trans (.ofs s9'))))
      refine ⟨_, rfl, ?_⟩
      have fin : ∀ (q : Addr) (w : List Str), LsW H14 p c q w → WsG N 0 w → w.length ≤ 3 → rCat (.ref q5) (.ref q) H14 fun x H' => ∃ (q2 : Addr) (ws : List Str) (x3 x4 x5 x6 : Option V), [some (.ref p), some (.ref nl), some x, some (.int (0 + (i : Nat))), some (.str v), some (.str y), some (.int fm)] = [some (.ref p), some (.ref nl), some (.ref q2), x3, x4, x5, x6] ∧ LsW H' p c q2 ws ∧ WsG N 0 ws ∧ ws.length ≤ 4 * (i + 1) ∧ PoolAt H' p c lim (n + 1 + 3 * (i + 1)) ∧ But p c H H' := fun q w hq gw lw => by
        refine cat_new P14 (hq5.same s9') hq (by rw [List.length_append]; omega) fun q5 H15 s15 hq5 => ?_
        exact ⟨q5, _, _, _, _, _, rfl, hq5, (g2.app g4).app gw, by rw [List.length_append, List.length_append]; omega, (P14.same s15).mono (by omega), b14.trans (.ofs s15)⟩
      have : fm = 0 ∨ fm = 1 ∨ fm = 2 := by omega
      rcases this with rfl | rfl | rfl
      · exact ⟨q9, _, 0, _, rfl, rfl, SqL.of e9, rfl, fin q6 [y] (hq6.same s9') (.nme nn hy .nil) (by show 1 ≤ 3; decide)⟩
      · exact ⟨q9, _, 1, _, rfl, rfl, SqL.of e9, rfl, fin q7 ["7"] (hq7.same s9') (.fix (by decide +kernel) (by decide +kernel) (by decide +kernel) .nil) (by show 1 ≤ 3; decide)⟩
      · exact ⟨q9, _, 2, _, rfl, rfl, SqL.of e9, rfl, fin q8 ["30", "*", y] (hq8.same s9') (.fix (by decide +kernel) (by decide +kernel) (by decide +kernel) (.fix (by decide +kernel) (by decide +kernel) (by decide +kernel) (.nme nn hy .nil))) (by show 3 ≤ 3; decide)⟩
    · rintro σ H4 ⟨q2, ws, x3, x4, x5, x6, rfl, hq2, g2, l2, P4, b4⟩
      exact ⟨_, rfl, k q2 ws H4 hq2 g2 (by omega) (P4.mono (by omega)) b4⟩
end

/-! ### k04: calls are drawn -/
section
variable {P : Program} {w : World} {K : PySem.W.Frag} {mg : Str → Option Value} {base : Heap}
theorem ok_GCl {f : Addr} {fd : FuncData} (F : Fun K "_law_some_call" "_law_some_call" sGCl f fd) (T : TxG4 mg) (GD : Has P w K mg base CX0 2 "_law_draw" PDraw spDraw) (GX : Has P w K mg base CX0 3 "_law_some_sum" PGSm (spGs 20 12)) : FnOk P w K mg base CX0 4 f fd PGCl (spGs 60 30) := by
  refine F.ok scGCl (fun vs H Q E h => ?_) (fun cdv A outer s H vs Q E hr h => ?_)
  · obtain ⟨p, c, nl, lim, n, N, rfl, _⟩ := h
    rfl
  · obtain ⟨p, c, nl, lim, n, N, rfl, P0, hn, hN, nn, k⟩ := h
    have hr2 := hr.mono (j := 2) (by omega)
    refine ⟨_, (pss_cons (ps_set (i := 2) scGCl.nd rfl (Or.inl rfl) (pe_lst (pa_cons (pe_ix (r := rIxL K) ix_list (pv 1) (pe_callH GD hr2 rfl pass0 (pa_cons (pv 0) (pa_cons (pe_callB call_len_seq (by rfl) T.n_len bb_len (pa_cons (pv 1) pa_nil)) pa_nil))) (fun _ _ => rfl)) (pa_cons pe_str pa_nil))))
  (pss_cons (ps_for PassesOwn.never rfl (pi_range1 (by rfl) T.n_range (pa_cons (pe_callH GD hr2 rfl pass0 (pa_cons (pv 0) (pa_cons pe_int pa_nil))) pa_nil)) (pg_name (i := 3) scGCl.nd rfl (Or.inl rfl))
  (pss_cons (ps_set (i := 4) scGCl.nd rfl (Or.inl rfl) (pe_ifExp (pt_cmpR op_eq (pe_callH GD hr2 rfl pass0 (pa_cons (pv 0) (pa_cons pe_int pa_nil))) pe_int (nomark _)) (pe_lst (pa_cons pe_str (pa_cons (pe_ix (r := rIxL K) ix_list (pv 1) (pe_callH GD hr2 rfl pass0 (pa_cons (pv 0) (pa_cons (pe_callB call_len_seq (by rfl) T.n_len bb_len (pa_cons (pv 1) pa_nil)) pa_nil))) (fun _ _ => rfl)) pa_nil))) (pe_callH GX hr rfl pass0 (pa_cons (pv 0) (pa_cons (pv 1) pa_nil)))))
  (pss_one (ps_set (i := 2) scGCl.nd rfl (Or.inl rfl) (pe_op op_cat (pe_op op_cat (pv 2) (pe_ifExp (pt_cmpR op_gt (pv 3) pe_int (nomark _)) (pe_lst (pa_cons pe_str pa_nil)) (pe_lst pa_nil))) (pv 4))))))
  (pss_one (ps_ret (pe_op op_cat (pv 2) (pe_lst (pa_cons pe_str pa_nil))))))), ?_⟩
    refine draw_nm nn hN rfl rfl P0 (by omega) fun x H1 hx P1 b1 => ?_
    refine ⟨(by show 2 ≤ sizeLine; decide), fun q1 nq1 => ?_⟩
    have sq1 := same_new (o := .lst [V.str x, V.str "("]) nq1
    have hq1 : LsW (upd H1 q1 (.lst [V.str x, V.str "("])) p c q1 [(x : Str), ("(" : Str)] := ⟨upd_same, P1.ne1 nq1, P1.ne2 nq1⟩
    have P2 := P1.same sq1
    generalize upd H1 q1 (.lst [V.str x, V.str "("]) = H2 at *
    have b2 : But p c H H2 := b1.trans (.ofs sq1)
    refine ⟨_, rfl, p, c, lim, _, 3, rfl, P2, by omega, by decide, by decide, fun r H3 r0 r1 P3 b3 => ⟨r, rfl, by omega, by omega, ?_⟩⟩
    refine for_range (lo := 0) (n := r.toNat) (fun i σ H' => ∃ (q2 : Addr) (ws : List Str) (x3 x4 : Option V), σ = [some (.ref p), some (.ref nl), some (.ref q2), x3, x4] ∧ LsW H' p c q2 ws ∧ WsG N 0 ws ∧ ws.length ≤ 2 + 13 * i ∧ PoolAt H' p c lim (n + 2 + 22 * i) ∧ But p c H H') ⟨q1, [x, "("], _, _, rfl, hq1.but b3, .nme nn hx (.fix (by decide +kernel) (by decide +kernel) (by decide +kernel) .nil), Nat.le_refl _, P3, b2.trans b3⟩ ?_ ?_
    · rintro i σ H4 hi ⟨q2, ws, x3, x4, rfl, hq2, g2, l2, P4, b4⟩
      refine ⟨_, rfl, p, c, lim, _, 2, rfl, P4, by omega, by decide, by decide, fun r5 H5 _ _ P5 b5 => ?_⟩
      replace hq2 := hq2.but b5
      replace b5 := b4.trans b5
      have rest : ∀ (q3 : Addr) (w3 : List Str) (H6 : Hp), But p c H5 H6 → LsW H6 p c q3 w3 → WsG N 0 w3 → w3.length ≤ 12 → PoolAt H6 p c lim (n + 2 + 22 * i + 1 + 20) → tAsg (tOp rCat (tOp rCat (tVar 2) (tIf (tTest (tOp (rI0 fun i j => V.bl (decide (j < i))) (tVar 3) (tC (V.int 0)))) (tLst (tCons (tC (V.str ",")) tNil)) (tLst tNil))) (tVar 4)) (gName 2) { nx := fun σ H' => ∃ (q2 : Addr) (ws : List Str) (x3 x4 : Option V), σ = [some (.ref p), some (.ref nl), some (.ref q2), x3, x4] ∧ LsW H' p c q2 ws ∧ WsG N 0 ws ∧ ws.length ≤ 2 + 13 * (i + 1) ∧ PoolAt H' p c lim (n + 2 + 22 * (i + 1)) ∧ But p c H H', rt := Q } [some (.ref p), some (.ref nl), some (.ref q2), some (.int (0 + (i : Nat))), some (.ref q3)] H6 := fun q3 w3 H6 b6 hq3 g3 l3 P6 => by
        replace hq2 := hq2.but b6
        replace b6 := b5.trans b6
        have fin : ∀ {q4 : Addr} {w4 : List Str} {H7 : Hp}, Same H6 H7 → LsW H7 p c q4 w4 → WsG N 0 w4 → w4.length ≤ 1 → PoolAt H7 p c lim (n + 2 + 22 * i + 1 + 20) → rCat (.ref q2) (.ref q4) H7 fun x H8 => tVar 4 [some (.ref p), some (.ref nl), some (.ref q2), some (.int (0 + (i : Nat))), some (.ref q3)] H8 fun y H9 => rCat x y H9 fun z H10 => ∃ (q2 : Addr) (ws : List Str) (x3 x4 : Option V), [some (.ref p), some (.ref nl), some z, some (.int (0 + (i : Nat))), some (.ref q3)] = [some (.ref p), some (.ref nl), some (.ref q2), x3, x4] ∧ LsW H10 p c q2 ws ∧ WsG N 0 ws ∧ ws.length ≤ 2 + 13 * (i + 1) ∧ PoolAt H10 p c lim (n + 2 + 22 * (i + 1)) ∧ But p c H H10 := fun {q4 w4 H7} s7 hq4 g4 l4 P7 => by
          refine cat_new P7 (hq2.same s7) hq4 (by omega) fun q5 H8 s8 hq5 => ⟨_, rfl, ?_⟩
          refine cat_new (P7.same s8) hq5 ((hq3.same s7).same s8) (by rw [List.length_append]; omega) fun q6 H9 s9 hq6 => ?_
          exact ⟨q6, _, _, _, rfl, hq6, (g2.app g4).app g3, by rw [List.length_append, List.length_append]; omega, ((P7.same s8).same s9).mono (by omega), b6.trans ((But.ofs s7).trans ((But.ofs s8).trans (.ofs s9)))⟩
        refine ⟨_, rfl, _, rfl, _, _, rfl, rfl, _, rfl, ?_⟩
        by_cases z : (0 : Int) < 0 + (i : Nat)
        · refine iteS (decide_eq_true z) ?_
          refine ⟨(by show 1 ≤ sizeLine; decide), fun q4 nq4 => ?_⟩
          have sq4 := same_new (o := .lst [V.str ","]) nq4
          have hq4 : LsW (upd H6 q4 (.lst [V.str ","])) p c q4 [("," : Str)] := ⟨upd_same, P6.ne1 nq4, P6.ne2 nq4⟩
          have P7 := P6.same sq4
          generalize upd H6 q4 (.lst [V.str ","]) = H7 at *
          exact fin sq4 hq4 (.fix (by decide +kernel) (by decide +kernel) (by decide +kernel) .nil) (Nat.le_refl _) P7
        · refine iteE (decide_eq_false z) ?_
          refine ⟨(by show 0 ≤ sizeLine; decide), fun q4 nq4 => ?_⟩
          have sq4 := same_new (o := .lst []) nq4
          have hq4 : LsW (upd H6 q4 (.lst [])) p c q4 [] := ⟨upd_same, P6.ne1 nq4, P6.ne2 nq4⟩
          have P7 := P6.same sq4
          generalize upd H6 q4 (.lst []) = H7 at *
          exact fin sq4 hq4 .nil (Nat.zero_le _) P7
      refine ⟨rfl, _, rfl, ?_⟩
      by_cases z : r5 = 1
      · refine iteS (decide_eq_true (by rw [z])) ?_
        refine draw_nm nn (hN.but b5) rfl rfl P5 (by omega) fun y H6 hy P6 b6 => ?_
        refine ⟨(by show 2 ≤ sizeLine; decide), fun q3 nq3 => ?_⟩
        have sq3 := same_new (o := .lst [V.str "&", V.str y]) nq3
        have hq3 : LsW (upd H6 q3 (.lst [V.str "&", V.str y])) p c q3 [("&" : Str), (y : Str)] := ⟨upd_same, P6.ne1 nq3, P6.ne2 nq3⟩
        have P7 := P6.same sq3
        generalize upd H6 q3 (.lst [V.str "&", V.str y]) = H7 at *
        exact rest q3 ["&", y] H7 (b6.trans (.ofs sq3)) hq3 (.fix (by decide +kernel) (by decide +kernel) (by decide +kernel) (.nme nn hy .nil)) (by show 2 ≤ 12; decide) (P7.mono (by omega))
      · refine iteE (decide_eq_false fun e => z (V.int.inj e)) ?_
        refine ⟨_, rfl, _, rfl, p, c, nl, lim, _, N, rfl, P5, by omega, hN.but b5, nn, fun q3 w3 H6 hq3 g3 l3 P6 b6 => ?_⟩
        exact rest q3 w3 H6 b6 hq3 g3 l3 P6
    · rintro σ H4 ⟨q2, ws, x3, x4, rfl, hq2, g2, l2, P4, b4⟩
      refine ⟨_, rfl, ?_⟩
      refine ⟨(by show 1 ≤ sizeLine; decide), fun q3 nq3 => ?_⟩
      have sq3 := same_new (o := .lst [V.str ")"]) nq3
      have hq3 : LsW (upd H4 q3 (.lst [V.str ")"])) p c q3 [(")" : Str)] := ⟨upd_same, P4.ne1 nq3, P4.ne2 nq3⟩
      have P5 := P4.same sq3
      generalize upd H4 q3 (.lst [V.str ")"]) = H5 at *
      refine cat_new P5 (hq2.same sq3) hq3 (by show _ + 1 ≤ _; omega) fun q4 H6 s6 hq4 => ?_
      exact k q4 _ H6 hq4 (g2.app (.fix (by decide +kernel) (by decide +kernel) (by decide +kernel) .nil)) (by rw [List.length_append]; show _ + 1 ≤ _; omega) ((P5.same s6).mono (by omega)) (b4.trans ((But.ofs sq3).trans (.ofs s6)))
end

/-! ### k04: blocks are drawn -/
abbrev sGBk : Stmt := topS 27
abbrev NGBk : List Str := ["_law_pool_here", "_law_names_here", "_law_depth", "_law_tokens", "_law_k"]
abbrev PGBk : List Str := ["_law_pool_here", "_law_names_here", "_law_depth"]
theorem scGBk : FnScope NGBk PGBk (defScope sGBk) := ⟨rfl, rfl, rfl, by decide +kernel, rfl, by decide +kernel, by decide +kernel⟩
def Lim (bu : Nat) : V := .int (bu : Int)
theorem pool_lim {H : Hp} {p c : Addr} {bu : Nat} {n : Nat} (h : PoolAt H p c (Lim bu) n) : ∃ xs, H p = some (.lst xs) ∧ atI xs 5 = some (.int (bu : Int)) ∧ xs.length = 6 ∧ ∀ b2 : Nat, PoolAt (upd H p (.lst (xs.set 5 (Lim b2)))) p c (Lim b2) n := by
  obtain ⟨i, cs, cn, sd, md, e1, e2, e⟩ := h
  refine ⟨_, e1, rfl, rfl, fun b2 => ⟨i, cs, cn, sd, md, upd_same, ?_, e⟩⟩
  rw [upd_ne (pool_ne e1 e2).symm]
  exact e2
/-- a list of words is drawn: at most C draws, D deep, L words and a hundred for each piece of the budget -/
structure Dr (p c : Addr) (N : List Str) (C D L : Nat) (t : TE) (σ : L2.St) (H : Hp) (n b : Nat) : Prop where
  go : ∀ {Q : VK}, (∀ (q : Addr) (ws : List Str) (H' : Hp) (b' : Nat), LsW H' p c q ws → WsG N D ws → ws.length + 100 * b' ≤ L + 100 * b → PoolAt H' p c (Lim b') (n + C) → b' ≤ b → But p c H H' → Q (.ref q) H') → t σ H Q
section
variable {p c : Addr} {N : List Str} {C D L C1 D1 L1 C2 D2 L2' : Nat} {t t1 t2 : TE} {σ : L2.St} {H : Hp} {n b : Nat}
theorem Dr.mono (h : Dr p c N C D L t σ H n b) (hC : C ≤ C1) (hD : D ≤ D1) (hL : L ≤ L1) : Dr p c N C1 D1 L1 t σ H n b := ⟨fun {Q} k => h.go fun q ws H' b' hq g l P le bt => k q ws H' b' hq (g.mono hD) (by omega) (P.mono (by omega)) le bt⟩
theorem Dr.cat (hl : L1 + L2' + 100 * b ≤ 100000) (h1 : Dr p c N C1 D L1 t1 σ H n b) (h2 : ∀ H' b', b' ≤ b → But p c H H' → PoolAt H' p c (Lim b') (n + C1) → Dr p c N C2 D L2' t2 σ H' (n + C1) b') : Dr p c N (C1 + C2) D (L1 + L2') (tOp rCat t1 t2) σ H n b := ⟨fun {Q} k => by
  refine h1.go fun q ws H1 b1 hq g l P1 le1 bt1 => ?_
  refine (h2 H1 b1 le1 bt1 P1).go fun q2 w2 H2 b2 hq2 g2 l2 P2 le2 bt2 => ?_
  refine cat_new P2 (hq.but bt2) hq2 (by omega) fun q3 H3 s3 hq3 => ?_
  exact k q3 _ H3 b2 hq3 (g.app g2) (by rw [List.length_append]; omega) (by rw [← Nat.add_assoc]; exact P2.same s3) (by omega) (bt1.trans (bt2.trans (.ofs s3)))⟩
theorem Dr.var {i : Nat} {q : Addr} {ws : List Str} (e : σ[i]? = some (some (.ref q))) (P : PoolAt H p c (Lim b) n) (hq : LsW H p c q ws) (g : WsG N D ws) : Dr p c N 0 D ws.length (tVar i) σ H n b := ⟨fun {Q} k => ⟨_, e, k q ws H b hq g (Nat.le_refl _) P (Nat.le_refl _) (.ofs (Same.refl _))⟩⟩
theorem Dr.one (w : Str) (P : PoolAt H p c (Lim b) n) (hw : w ∈ FIX ∧ w ≠ "{" ∧ w ≠ "}") : Dr p c N 0 D 1 (tLst (tCons (tC (V.str w)) tNil)) σ H n b := ⟨fun {Q} k => by
  refine ⟨(by show 1 ≤ sizeLine; decide), fun q nq => ?_⟩
  have sq := same_new (o := .lst [V.str w]) nq
  have hq : LsW (upd H q (.lst [V.str w])) p c q [(w : Str)] := ⟨upd_same, P.ne1 nq, P.ne2 nq⟩
  have P1 := P.same sq
  generalize upd H q (.lst [V.str w]) = H1 at *
  exact k q _ _ b hq (.fix hw.1 hw.2.1 hw.2.2 .nil) (Nat.le_refl _) P1 (Nat.le_refl _) (.ofs sq)⟩
theorem Dr.nil (P : PoolAt H p c (Lim b) n) : Dr p c N 0 D 0 (tLst tNil) σ H n b := ⟨fun {Q} k => by
  refine ⟨(by show 0 ≤ sizeLine; decide), fun q nq => ?_⟩
  have sq := same_new (o := .lst []) nq
  have hq : LsW (upd H q (.lst [])) p c q [] := ⟨upd_same, P.ne1 nq, P.ne2 nq⟩
  have P1 := P.same sq
  generalize upd H q (.lst []) = H1 at *
  exact k q _ _ b hq .nil (Nat.le_refl _) P1 (Nat.le_refl _) (.ofs sq)⟩
theorem Dr.gs {nl : Addr} (e0 : σ[0]? = some (some (.ref p))) (e1 : σ[1]? = some (some (.ref nl))) (P : PoolAt H p c (Lim b) n) (hn : n + C ≤ 100000000000) (hN : LsW H p c nl N) (nn : NmN N) : Dr p c N C D L (tCall (spGs C L) [] E0 (tCons (tVar 0) (tCons (tVar 1) tNil))) σ H n b := ⟨fun {Q} k => by
  refine ⟨_, e0, _, e1, p, c, nl, Lim b, n, N, rfl, P, hn, hN, nn, fun q ws H' hq g l P' bt => ?_⟩
  exact k q ws H' b hq (g.mono (Nat.zero_le _)) (by omega) P' (Nat.le_refl _) bt⟩
end
/-- the most draws of a statement, of a block -/
def gsC : Nat → Nat
  | 0 => 100
  | m + 1 => 400 + 4 * (1 + 3 * gsC m)
def gbC (m : Nat) : Nat := 1 + 3 * gsC m
/-- a statement, m deep -/
def spGSt (m : Nat) : Sp := fun vs H Q _ => ∃ (p c nl : Addr) (n b : Nat) (N : List Str), vs = [.ref p, .ref nl, .int (m : Nat)] ∧ PoolAt H p c (Lim b) n ∧ n + gsC m ≤ 100000000000 ∧ b ≤ 30 ∧ LsW H p c nl N ∧ NmN N ∧ ∀ (q : Addr) (ws : List Str) (H' : Hp) (b' : Nat), LsW H' p c q ws → WsG N m ws → ws.length + 100 * b' ≤ 98 + 100 * b → PoolAt H' p c (Lim b') (n + gsC m) → b' ≤ b → But p c H H' → Q (.ref q) H'
def spGCm (m : Nat) : Sp := fun vs H Q _ => ∃ (p c nl : Addr) (n b m' : Nat) (N : List Str), m = m' + 1 ∧ vs = [.ref p, .ref nl, .int (m : Nat)] ∧ PoolAt H p c (Lim b) n ∧ n + 300 + 4 * gbC m' ≤ 100000000000 ∧ b ≤ 30 ∧ LsW H p c nl N ∧ NmN N ∧ ∀ (q : Addr) (ws : List Str) (H' : Hp) (b' : Nat), LsW H' p c q ws → WsG N m ws → ws.length + 100 * b' ≤ 98 + 100 * b → PoolAt H' p c (Lim b') (n + 300 + 4 * gbC m') → b' ≤ b → But p c H H' → Q (.ref q) H'
/-- a block, k = its depth and one -/
def spGBk (k : Nat) : Sp := fun vs H Q _ => ∃ (p c nl : Addr) (n b m : Nat) (N : List Str), k = m + 1 ∧ vs = [.ref p, .ref nl, .int (m : Nat)] ∧ PoolAt H p c (Lim b) n ∧ n + gbC m ≤ 100000000000 ∧ b ≤ 30 ∧ LsW H p c nl N ∧ NmN N ∧ ∀ (q : Addr) (ws : List Str) (H' : Hp) (b' : Nat), LsW H' p c q ws → WsG N k ws → ws.length + 100 * b' ≤ 2 + 100 * b → PoolAt H' p c (Lim b') (n + gbC m) → b' ≤ b → But p c H H' → Q (.ref q) H'
section
variable {P : Program} {w : World} {K : PySem.W.Frag} {mg : Str → Option Value} {base : Heap}
theorem ok_GBk {k0 m : Nat} {f : Addr} {fd : FuncData} (F : Fun K "_law_some_block" "_law_some_block" sGBk f fd) (T : TxG4 mg) (GD : Has P w K mg base CX0 2 "_law_draw" PDraw spDraw) (GS : Has P w K mg base CX0 k0 "_law_some_statement" PGSt (spGSt m)) (hk : 2 ≤ k0) : FnOk P w K mg base CX0 (k0 + 1) f fd PGBk (spGBk (m + 1)) := by
  refine F.ok scGBk (fun vs H Q E h => ?_) (fun cdv A outer s H vs Q E hr h => ?_)
  · obtain ⟨p, c, nl, n, b, m, N, _, rfl, _⟩ := h
    rfl
  · obtain ⟨p, c, nl, n, b, m, N, em, rfl, P0, hn, hb, hN, nn, k⟩ := h
    injection em with em
    subst em
    have hr2 := hr.mono (j := 2) (by omega)
    have eg : gbC m = 1 + 3 * gsC m := rfl
    refine ⟨_, (pss_cons (ps_set (i := 3) scGBk.nd rfl (Or.inl rfl) (pe_lst (pa_cons pe_str pa_nil)))
  (pss_cons (ps_for PassesOwn.never rfl (pi_range1 (by rfl) T.n_range (pa_cons (pe_callH GD hr2 rfl pass0 (pa_cons (pv 0) (pa_cons pe_int pa_nil))) pa_nil)) (pg_name (i := 4) scGBk.nd rfl (Or.inl rfl))
  (pss_one (ps_if (pt_cmpR op_gt (pe_ix (r := rIxL K) ix_list (pv 0) pe_int (fun _ _ => rfl)) pe_int (nomark _))
  (pss_cons (ps_asg (pe_op op_sub (pe_ix (r := rIxL K) ix_list (pv 0) pe_int (fun _ _ => rfl)) pe_int) (pg_sub (pv 0) pe_int set_list))
  (pss_one (ps_set (i := 3) scGBk.nd rfl (Or.inl rfl) (pe_op op_cat (pv 3) (pe_callH GS hr rfl pass0 (pa_cons (pv 0) (pa_cons (pv 1) (pa_cons (pv 2) pa_nil))))))))
  pss_nil)))
  (pss_one (ps_ret (pe_op op_cat (pv 3) (pe_lst (pa_cons pe_str pa_nil))))))), ?_⟩
    refine ⟨(by show 1 ≤ sizeLine; decide), fun q1 nq1 => ?_⟩
    have sq1 := same_new (o := .lst [V.str "{"]) nq1
    have hq1 : LsW (upd H q1 (.lst [V.str "{"])) p c q1 [("{" : Str)] := ⟨upd_same, P0.ne1 nq1, P0.ne2 nq1⟩
    have P1 := P0.same sq1
    generalize upd H q1 (.lst [V.str "{"]) = H1 at *
    have b1 : But p c H H1 := .ofs sq1
    refine ⟨_, rfl, p, c, _, _, 4, rfl, P1, by omega, by decide, by decide, fun r H2 r0 r1 P2 b2 => ⟨r, rfl, by omega, by omega, ?_⟩⟩
    refine for_range (lo := 0) (n := r.toNat) (fun i σ H' => ∃ (q2 : Addr) (ws : List Str) (b' : Nat) (x4 : Option V), σ = [some (.ref p), some (.ref nl), some (.int (m : Nat)), some (.ref q2), x4] ∧ LsW H' p c q2 (("{" : Str) :: ws) ∧ WsG N m ws ∧ ws.length + 100 * b' ≤ 100 * b ∧ b' ≤ b ∧ PoolAt H' p c (Lim b') (n + 1 + i * gsC m) ∧ But p c H H') ⟨q1, [], b, _, rfl, hq1.but b2, .nil, by show 0 + _ ≤ _; omega, Nat.le_refl _, by rw [Nat.zero_mul]; exact P2, b1.trans b2⟩ ?_ ?_
    · rintro i σ H3 hi ⟨q2, ws, b', x4, rfl, hq2, g2, l2, le2, P3, b3⟩
      have np : (n + 1 + i * gsC m) + gsC m = n + 1 + (i + 1) * gsC m := by rw [Nat.succ_mul]; omega
      have nle : (i + 1) * gsC m ≤ 3 * gsC m := Nat.mul_le_mul_right _ (by omega)
      obtain ⟨xs, ep, e5, l6, upl⟩ := pool_lim P3
      refine ⟨_, rfl, p, _, _, _, rfl, rfl, SqL.of ep, e5, _, _, rfl, rfl, _, rfl, ?_⟩
      by_cases hb' : 0 < b'
      · refine iteS (decide_eq_true (by omega)) ?_
        refine ⟨_, rfl, p, _, _, _, rfl, rfl, SqL.of ep, e5, _, _, rfl, rfl, ?_⟩
        refine ⟨_, rfl, p, xs, _, 5, rfl, rfl, ep, by rw [l6]; rfl, ?_⟩
        have P5 := upl (b' - 1)
        rw [show Lim (b' - 1) = V.int ((b' : Int) - 1) by unfold Lim; congr 1; omega] at P5
        have b5 : But p c H3 (upd H3 p (.lst (xs.set 5 (.int ((b' : Int) - 1))))) := fun b o z h1 _ => by rw [upd_ne h1]; exact z
        generalize upd H3 p (.lst (xs.set 5 (.int ((b' : Int) - 1)))) = H5 at *
        have P5 : PoolAt H5 p c (Lim (b' - 1)) (n + 1 + i * gsC m) := by rw [show Lim (b' - 1) = V.int ((b' : Int) - 1) by unfold Lim; congr 1; omega]; exact P5
        have b05 := b3.trans b5
        refine ⟨_, rfl, _, rfl, _, rfl, _, rfl, p, c, nl, _, b' - 1, N, rfl, P5, by omega, by omega, hN.but b05, nn, fun q3 w3 H6 b6 hq3 g3 l3 P6 le6 bt6 => ?_⟩
        refine cat_new P6 ((hq2.but b5).but bt6) hq3 (by show ws.length + 1 + _ ≤ _; omega) fun q4 H7 s7 hq4 => ?_
        exact ⟨q4, ws ++ w3, b6, _, rfl, hq4, g2.app g3, by rw [List.length_append]; omega, by omega, by rw [← np]; exact P6.same s7, b05.trans (bt6.trans (.ofs s7))⟩
      · refine iteE (decide_eq_false (by omega)) ?_
        exact ⟨q2, ws, b', _, rfl, hq2, g2, l2, le2, P3.mono (by omega), b3⟩
    · rintro σ H3 ⟨q2, ws, b', x4, rfl, hq2, g2, l2, le2, P3, b3⟩
      have nle : r.toNat * gsC m ≤ 3 * gsC m := Nat.mul_le_mul_right _ (by omega)
      refine ⟨_, rfl, ?_⟩
      refine ⟨(by show 1 ≤ sizeLine; decide), fun q3 nq3 => ?_⟩
      have sq3 := same_new (o := .lst [V.str "}"]) nq3
      have hq3 : LsW (upd H3 q3 (.lst [V.str "}"])) p c q3 [("}" : Str)] := ⟨upd_same, P3.ne1 nq3, P3.ne2 nq3⟩
      have P4 := P3.same sq3
      generalize upd H3 q3 (.lst [V.str "}"]) = H4 at *
      refine cat_new P4 (hq2.same sq3) hq3 (by show ws.length + 1 + 1 ≤ _; omega) fun q4 H5 s5 hq4 => ?_
      exact k q4 _ H5 b' hq4 g2.blk (by show (ws ++ [("}" : Str)]).length + 1 + _ ≤ _; rw [List.length_append]; show ws.length + 1 + 1 + _ ≤ _; omega) ((P4.same s5).mono (by omega)) le2 (b3.trans ((But.ofs sq3).trans (.ofs s5)))
end

/-! ### k04: statements are drawn -/
abbrev sGCm : Stmt := topS 28
abbrev NGCm : List Str := ["_law_pool_here", "_law_names_here", "_law_depth", "_law_block", "_law_choice", "_law_more", "_law_count", "_law_tokens", "_law_k"]
abbrev PGCm : List Str := ["_law_pool_here", "_law_names_here", "_law_depth"]
theorem scGCm : FnScope NGCm PGCm (defScope sGCm) := ⟨rfl, rfl, rfl, by decide +kernel, rfl, by decide +kernel, by decide +kernel⟩
theorem Dr.blk {p c nl : Addr} {N : List Str} {σ : L2.St} {H : Hp} {n b m : Nat} (e0 : σ[0]? = some (some (.ref p))) (e1 : σ[1]? = some (some (.ref nl))) (e2 : σ[2]? = some (some (.int ((m + 1 : Nat) : Int)))) (P : PoolAt H p c (Lim b) n) (hn : n + gbC m ≤ 100000000000) (hb : b ≤ 30) (hN : LsW H p c nl N) (nn : NmN N) : Dr p c N (gbC m) (m + 1) 2 (tCall (spGBk (m + 1)) [] E0 (tCons (tVar 0) (tCons (tVar 1) (tCons (tOp (rI0 fun i j => V.int (i - j)) (tVar 2) (tC (V.int 1))) tNil)))) σ H n b := ⟨fun {Q} k => by
  refine ⟨_, e0, _, e1, _, e2, _, _, rfl, rfl, p, c, nl, n, b, m, N, rfl, ?_, P, hn, hb, hN, nn, fun q ws H' b' hq g l P' le bt => k q ws H' b' hq g l P' le bt⟩
  show [V.ref p, V.ref nl, V.int (((m + 1 : Nat) : Int) - 1)] = _
  rw [show ((m + 1 : Nat) : Int) - 1 = (m : Nat) by omega]⟩
section
variable {P : Program} {w : World} {K : PySem.W.Frag} {mg : Str → Option Value} {base : Heap}
theorem ok_GCm {k0 m : Nat} {f : Addr} {fd : FuncData} (F : Fun K "_law_some_compound" "_law_some_compound" sGCm f fd) (T : TxG4 mg) (GD : Has P w K mg base CX0 2 "_law_draw" PDraw spDraw) (GX : Has P w K mg base CX0 3 "_law_some_list" PGLs (spGs 10 5)) (GC : Has P w K mg base CX0 4 "_law_some_call" PGCl (spGs 60 30)) (GB : Has P w K mg base CX0 k0 "_law_some_block" PGBk (spGBk m)) (hk : 4 ≤ k0) : FnOk P w K mg base CX0 (k0 + 1) f fd PGCm (spGCm m) := by
  refine F.ok scGCm (fun vs H Q E h => ?_) (fun cdv A outer s H vs Q E hr h => ?_)
  · obtain ⟨p, c, nl, n, b, m', N, _, rfl, _⟩ := h
    rfl
  · obtain ⟨p, c, nl, n, b, m', N, rfl, rfl, P0, hn, hb, hN, nn, k⟩ := h
    have hr2 := hr.mono (j := 2) (by omega)
    have hr3 := hr.mono (j := 3) (by omega)
    have hr4 := hr.mono (j := 4) (by omega)
    refine ⟨_, (pss_cons (ps_set (i := 3) scGCm.nd rfl (Or.inl rfl) (pe_callH GB hr rfl pass0 (pa_cons (pv 0) (pa_cons (pv 1) (pa_cons (pe_op op_sub (pv 2) pe_int) pa_nil)))))
  (pss_cons (ps_set (i := 4) scGCm.nd rfl (Or.inl rfl) (pe_callH GD hr2 rfl pass0 (pa_cons (pv 0) (pa_cons pe_int pa_nil))))
  (pss_cons (ps_if (pt_cmpR op_eq (pv 4) pe_int (nomark _))
  (pss_one (ps_ret (pe_op op_cat (pe_lst (pa_cons pe_str pa_nil)) (pv 3))))
  pss_nil)
  (pss_cons (ps_if (pt_cmpR op_eq (pv 4) pe_int (nomark _))
  (pss_one (ps_ret (pe_op op_cat (pe_op op_cat (pe_op op_cat (pe_lst (pa_cons pe_str pa_nil)) (pv 3)) (pe_lst (pa_cons pe_str pa_nil))) (pe_callH GB hr rfl pass0 (pa_cons (pv 0) (pa_cons (pv 1) (pa_cons (pe_op op_sub (pv 2) pe_int) pa_nil)))))))
  pss_nil)
  (pss_cons (ps_if (pt_cmpR op_eq (pv 4) pe_int (nomark _))
  (pss_one (ps_ret (pe_op op_cat (pe_op op_cat (pe_lst (pa_cons pe_str pa_nil)) (pe_callH GX hr3 rfl pass0 (pa_cons (pv 0) (pa_cons (pv 1) pa_nil)))) (pv 3))))
  pss_nil)
  (pss_cons (ps_if (pt_cmpR op_eq (pv 4) pe_int (nomark _))
  (pss_cons (ps_set (i := 5) scGCm.nd rfl (Or.inl rfl) (pe_ifExp (pt_cmpR op_eq (pe_callH GD hr2 rfl pass0 (pa_cons (pv 0) (pa_cons pe_int pa_nil))) pe_int (nomark _)) (pe_op op_cat (pe_lst (pa_cons pe_str pa_nil)) (pe_callH GX hr3 rfl pass0 (pa_cons (pv 0) (pa_cons (pv 1) pa_nil)))) (pe_lst pa_nil)))
  (pss_one (ps_ret (pe_op op_cat (pe_op op_cat (pe_op op_cat (pe_op op_cat (pe_op op_cat (pe_lst (pa_cons pe_str pa_nil)) (pe_callH GC hr4 rfl pass0 (pa_cons (pv 0) (pa_cons (pv 1) pa_nil)))) (pe_lst (pa_cons pe_str pa_nil))) (pe_callH GC hr4 rfl pass0 (pa_cons (pv 0) (pa_cons (pv 1) pa_nil)))) (pv 5)) (pv 3)))))
  pss_nil)
  (pss_cons (ps_if (pt_cmpR op_eq (pv 4) pe_int (nomark _))
  (pss_one (ps_ret (pe_op op_cat (pe_lst (pa_cons pe_str pa_nil)) (pv 3))))
  pss_nil)
  (pss_cons (ps_set (i := 6) scGCm.nd rfl (Or.inl rfl) (pe_callH GD hr2 rfl pass0 (pa_cons (pv 0) (pa_cons pe_int pa_nil))))
  (pss_cons (ps_set (i := 7) scGCm.nd rfl (Or.inl rfl) (pe_op op_cat (pe_lst (pa_cons pe_str pa_nil)) (pv 3)))
  (pss_cons (ps_for PassesOwn.never rfl (pi_range1 (by rfl) T.n_range (pa_cons (pv 6) pa_nil)) (pg_name (i := 8) scGCm.nd rfl (Or.inl rfl))
  (pss_one (ps_set (i := 7) scGCm.nd rfl (Or.inl rfl) (pe_op op_cat (pe_op op_cat (pe_op op_cat (pv 7) (pe_lst (pa_cons pe_str pa_nil))) (pe_callH GX hr3 rfl pass0 (pa_cons (pv 0) (pa_cons (pv 1) pa_nil)))) (pe_callH GB hr rfl pass0 (pa_cons (pv 0) (pa_cons (pv 1) (pa_cons (pe_op op_sub (pv 2) pe_int) pa_nil))))))))
  (pss_cons (ps_if (PW.pt (pw_or (pt_cmpR op_eq (pv 6) pe_int (nomark _)) (pw_or1 (pt_cmpR op_eq (pe_callH GD hr2 rfl pass0 (pa_cons (pv 0) (pa_cons pe_int pa_nil))) pe_int (nomark _)))))
  (pss_one (ps_set (i := 7) scGCm.nd rfl (Or.inl rfl) (pe_op op_cat (pe_op op_cat (pv 7) (pe_lst (pa_cons pe_str pa_nil))) (pe_callH GB hr rfl pass0 (pa_cons (pv 0) (pa_cons (pv 1) (pa_cons (pe_op op_sub (pv 2) pe_int) pa_nil)))))))
  pss_nil)
  (pss_one (ps_ret (pv 7)))))))))))))), ?_⟩
    refine (Dr.blk (σ := L2.start NGCm [V.ref p, V.ref nl, V.int ↑(m' + 1)]) rfl rfl rfl P0 (by omega) hb hN nn).go fun qb wb H1 b1 hqb gb lb P1 le1 bt1 => ?_
    refine ⟨_, rfl, p, c, _, _, 6, rfl, P1, by omega, by decide, by decide, fun ch H2 c0 c1 P2 b2 => ?_⟩
    replace hqb := hqb.but b2
    replace b2 := bt1.trans b2
    have hN2 := hN.but b2
    refine ⟨_, rfl, rfl, _, rfl, ?_⟩
    by_cases z0 : ch = 0
    · refine iteS (decide_eq_true (by rw [z0])) ?_
      refine (Dr.cat (σ := [some (.ref p), some (.ref nl), some (.int ((m' + 1 : Nat) : Int)), some (.ref qb), some (.int ch), none, none, none, none]) (by omega) (Dr.one "if" P2 (by decide +kernel)) (fun H3 b3 l3 t3 P3 => .var rfl P3 (hqb.but t3) gb)).go fun q ws H3 b3 hq g l P3 le t3 => ?_
      exact k q ws H3 b3 hq g (by omega) (P3.mono (by omega)) (by omega) (b2.trans t3)
    refine iteE (decide_eq_false fun z => z0 (V.int.inj z)) ?_
    refine ⟨_, rfl, rfl, _, rfl, ?_⟩
    by_cases z1 : ch = 1
    · refine iteS (decide_eq_true (by rw [z1])) ?_
      refine (Dr.cat (σ := [some (.ref p), some (.ref nl), some (.int ((m' + 1 : Nat) : Int)), some (.ref qb), some (.int ch), none, none, none, none]) (by omega) (((Dr.one "if" P2 (by decide +kernel)).cat (C2 := 0) (L2' := wb.length) (by omega) (fun H3 b3 l3 t3 P3 => .var rfl P3 (hqb.but t3) gb)).cat (C2 := 0) (L2' := 1) (by omega) (fun H3 b3 l3 t3 P3 => .one "else" P3 (by decide +kernel))) (fun H3 b3 l3 t3 P3 => .blk rfl rfl rfl P3 (by omega) (by omega) (hN2.but t3) nn)).go fun q ws H3 b3 hq g l P3 le t3 => ?_
      exact k q ws H3 b3 hq g (by omega) (P3.mono (by omega)) (by omega) (b2.trans t3)
    refine iteE (decide_eq_false fun z => z1 (V.int.inj z)) ?_
    refine ⟨_, rfl, rfl, _, rfl, ?_⟩
    by_cases z2 : ch = 2
    · refine iteS (decide_eq_true (by rw [z2])) ?_
      refine (Dr.cat (σ := [some (.ref p), some (.ref nl), some (.int ((m' + 1 : Nat) : Int)), some (.ref qb), some (.int ch), none, none, none, none]) (by omega) ((Dr.one "undo" P2 (by decide +kernel)).cat (by omega) (fun H3 b3 l3 t3 P3 => .gs rfl rfl P3 (by omega) (hN2.but t3) nn)) (fun H3 b3 l3 t3 P3 => .var rfl P3 (hqb.but t3) gb)).go fun q ws H3 b3 hq g l P3 le t3 => ?_
      exact k q ws H3 b3 hq g (by omega) (P3.mono (by omega)) (by omega) (b2.trans t3)
    refine iteE (decide_eq_false fun z => z2 (V.int.inj z)) ?_
    refine ⟨_, rfl, rfl, _, rfl, ?_⟩
    by_cases z3 : ch = 3
    · refine iteS (decide_eq_true (by rw [z3])) ?_
      have more : Dr p c N 11 0 6 (tIf (tTest (tOp rEq (tCall spDraw [] E0 (tCons (tVar 0) (tCons (tC (V.int 2)) tNil))) (tC (V.int 1)))) (tOp rCat (tLst (tCons (tC (V.str "swallow")) tNil)) (tCall (spGs 10 5) [] E0 (tCons (tVar 0) (tCons (tVar 1) tNil)))) (tLst tNil)) [some (.ref p), some (.ref nl), some (.int ((m' + 1 : Nat) : Int)), some (.ref qb), some (.int ch), none, none, none, none] H2 (n + gbC m' + 1) b1 := ⟨fun {Q9} kk => by
        refine ⟨_, rfl, p, c, _, _, 2, rfl, P2, by omega, by decide, by decide, fun r H3 r0 r1 P3 b3 => ⟨rfl, _, rfl, ?_⟩⟩
        by_cases z : r = 1
        · refine iteS (decide_eq_true (by rw [z])) ?_
          refine (Dr.cat (D := 0) (σ := [some (.ref p), some (.ref nl), some (.int ((m' + 1 : Nat) : Int)), some (.ref qb), some (.int ch), none, none, none, none]) (by omega) (Dr.one "swallow" P3 (by decide +kernel)) (fun H4 b4 l4 t4 P4 => .gs rfl rfl P4 (by omega) ((hN2.but b3).but t4) nn)).go fun q ws H4 b4 hq g l P4 le t4 => ?_
          exact kk q ws H4 b4 hq g (by omega) (P4.mono (by omega)) le (b3.trans t4)
        · refine iteE (decide_eq_false fun e => z (V.int.inj e)) ?_
          exact (Dr.nil P3).go fun q ws H4 b4 hq g l P4 le t4 => kk q ws H4 b4 hq g (by omega) (P4.mono (by omega)) le (b3.trans t4)⟩
      refine more.go fun qm wm H3 b3 hqm gm lm P3 le3 t3 => ?_
      replace hqb := hqb.but t3
      replace b2 := b2.trans t3
      replace hN2 := hN2.but t3
      refine (Dr.cat (σ := [some (.ref p), some (.ref nl), some (.int ((m' + 1 : Nat) : Int)), some (.ref qb), some (.int ch), some (.ref qm), none, none, none]) (by omega) (((((Dr.one "with" P3 (by decide +kernel)).cat (by omega) (fun H4 b4 l4 t4 P4 => .gs rfl rfl P4 (by omega) (hN2.but t4) nn)).cat (C2 := 0) (L2' := 1) (by omega) (fun H4 b4 l4 t4 P4 => .one "," P4 (by decide +kernel))).cat (by omega) (fun H4 b4 l4 t4 P4 => .gs rfl rfl P4 (by omega) (hN2.but t4) nn)).cat (C2 := 0) (L2' := wm.length) (by omega) (fun H4 b4 l4 t4 P4 => .var rfl P4 (hqm.but t4) (gm.mono (Nat.zero_le _)))) (fun H4 b4 l4 t4 P4 => .var rfl P4 (hqb.but t4) gb)).go fun q ws H4 b4 hq g l P4 le t4 => ?_
      exact k q ws H4 b4 hq g (by omega) (P4.mono (by omega)) (by omega) (b2.trans t4)
    refine iteE (decide_eq_false fun z => z3 (V.int.inj z)) ?_
    refine ⟨_, rfl, rfl, _, rfl, ?_⟩
    by_cases z4 : ch = 4
    · refine iteS (decide_eq_true (by rw [z4])) ?_
      refine (Dr.cat (σ := [some (.ref p), some (.ref nl), some (.int ((m' + 1 : Nat) : Int)), some (.ref qb), some (.int ch), none, none, none, none]) (by omega) (Dr.one "while" P2 (by decide +kernel)) (fun H3 b3 l3 t3 P3 => .var rfl P3 (hqb.but t3) gb)).go fun q ws H3 b3 hq g l P3 le t3 => ?_
      exact k q ws H3 b3 hq g (by omega) (P3.mono (by omega)) (by omega) (b2.trans t3)
    refine iteE (decide_eq_false fun z => z4 (V.int.inj z)) ?_
    -- try
    refine ⟨_, rfl, p, c, _, _, 3, rfl, P2, by omega, by decide, by decide, fun ct H3 ct0 ct1 P3 b3 => ?_⟩
    replace hqb := hqb.but b3
    replace b3 := b2.trans b3
    refine (Dr.cat (σ := [some (.ref p), some (.ref nl), some (.int ((m' + 1 : Nat) : Int)), some (.ref qb), some (.int ch), none, some (.int ct), none, none]) (L2' := wb.length) (by omega) (Dr.one "try" P3 (by decide +kernel)) (fun H4 b4 l4 t4 P4 => .var rfl P4 (hqb.but t4) gb)).go fun qt wt H4 b4 hqt gt lt P4 le4 t4 => ?_
    replace t4 := b3.trans t4
    refine ⟨_, rfl, _, rfl, by omega, by omega, ?_⟩
    refine for_range (lo := 0) (n := ct.toNat) (fun i σ H' => ∃ (q2 : Addr) (ws : List Str) (b' : Nat) (x8 : Option V), σ = [some (.ref p), some (.ref nl), some (.int ((m' + 1 : Nat) : Int)), some (.ref qb), some (.int ch), none, some (.int ct), some (.ref q2), x8] ∧ LsW H' p c q2 ws ∧ WsG N (m' + 1) ws ∧ ws.length + 100 * b' ≤ 3 + 8 * i + 100 * b ∧ b' ≤ b ∧ PoolAt H' p c (Lim b') (n + gbC m' + 2 + i * (10 + gbC m')) ∧ But p c H H') ⟨qt, wt, b4, _, rfl, hqt, gt, by omega, by omega, P4.mono (by omega), t4⟩ ?_ ?_
    · rintro i σ H5 hi ⟨q2, ws, b5, x8, rfl, hq2, g2, l2, le2, P5, t5⟩
      have im : (i + 1) * (10 + gbC m') = i * (10 + gbC m') + (10 + gbC m') := Nat.succ_mul _ _
      have i2 : (i + 1) * (10 + gbC m') ≤ 2 * (10 + gbC m') := Nat.mul_le_mul_right _ (by omega)
      refine (Dr.cat (σ := [some (.ref p), some (.ref nl), some (.int ((m' + 1 : Nat) : Int)), some (.ref qb), some (.int ch), none, some (.int ct), some (.ref q2), some (.int (0 + (i : Nat)))]) (by omega) (((Dr.var rfl P5 hq2 g2).cat (C2 := 0) (L2' := 1) (by omega) (fun H6 b6 l6 t6 P6 => .one "except" P6 (by decide +kernel))).cat (by omega) (fun H6 b6 l6 t6 P6 => .gs rfl rfl P6 (by omega) ((hN.but t5).but t6) nn)) (fun H6 b6 l6 t6 P6 => .blk rfl rfl rfl P6 (by omega) (by omega) ((hN.but t5).but t6) nn)).go fun q3 w3 H6 b6 hq3 g3 l3 P6 le6 t6 => ?_
      exact ⟨q3, w3, b6, _, rfl, hq3, g3, by omega, by omega, P6.mono (by omega), t5.trans t6⟩
    · rintro σ H5 ⟨q2, ws, b5, x8, rfl, hq2, g2, l2, le2, P5, t5⟩
      have i2 : ct.toNat * (10 + gbC m') ≤ 2 * (10 + gbC m') := Nat.mul_le_mul_right _ (by omega)
      have fin : ∀ {D : Ends} (H6 : Hp), D.nx = (tRet (tVar 7) { nx := fun x H' => Q V.non H', rt := Q }) → But p c H H6 → LsW H6 p c q2 ws → PoolAt H6 p c (Lim b5) (n + gbC m' + 3 + ct.toNat * (10 + gbC m')) → tAsg (tOp rCat (tOp rCat (tVar 7) (tLst (tCons (tC (V.str "finally")) tNil))) (tCall (spGBk (m' + 1)) [] E0 (tCons (tVar 0) (tCons (tVar 1) (tCons (tOp (rI0 fun i j => V.int (i - j)) (tVar 2) (tC (V.int 1))) tNil))))) (gName 7) D [some (.ref p), some (.ref nl), some (.int ((m' + 1 : Nat) : Int)), some (.ref qb), some (.int ch), none, some (.int ct), some (.ref q2), x8] H6 := fun {D} H6 eD t6 hq2 P6 => by
        refine (Dr.cat (σ := [some (.ref p), some (.ref nl), some (.int ((m' + 1 : Nat) : Int)), some (.ref qb), some (.int ch), none, some (.int ct), some (.ref q2), x8]) (by omega) ((Dr.var rfl P6 hq2 g2).cat (C2 := 0) (L2' := 1) (by omega) (fun H7 b7 l7 t7 P7 => .one "finally" P7 (by decide +kernel))) (fun H7 b7 l7 t7 P7 => .blk rfl rfl rfl P7 (by omega) (by omega) ((hN.but t6).but t7) nn)).go fun q3 w3 H7 b7 hq3 g3 l3 P7 le7 t7 => ?_
        show D.nx _ _
        rw [eD]
        exact ⟨_, rfl, k q3 w3 H7 b7 hq3 g3 (by omega) (P7.mono (by omega)) (by omega) (t6.trans t7)⟩
      refine ⟨_, rfl, rfl, _, rfl, ?_⟩
      by_cases z : ct = 0
      · refine iteS (decide_eq_true (by rw [z])) (iteT ?_)
        exact fin H5 rfl t5 hq2 (P5.mono (by omega))
      · refine iteE (decide_eq_false fun e => z (V.int.inj e)) ?_
        refine ⟨_, rfl, p, c, _, _, 2, rfl, P5, by omega, by decide, by decide, fun r H6 r0 r1 P6 b6 => ⟨rfl, _, rfl, ?_⟩⟩
        by_cases z : r = 1
        · refine iteS (decide_eq_true (by rw [z])) ?_
          exact fin H6 rfl (t5.trans b6) (hq2.but b6) (P6.mono (by omega))
        · refine iteE (decide_eq_false fun e => z (V.int.inj e)) ?_
          exact ⟨_, rfl, k q2 ws H6 b5 (hq2.but b6) g2 (by omega) (P6.mono (by omega)) le2 (t5.trans b6)⟩
end

/-! ### k04: statements, all depths -/
abbrev sGSt : Stmt := topS 29
abbrev NGSt : List Str := ["_law_pool_here", "_law_names_here", "_law_depth", "_law_choice", "_law_target"]
abbrev PGSt : List Str := ["_law_pool_here", "_law_names_here", "_law_depth"]
theorem scGSt : FnScope NGSt PGSt (defScope sGSt) := ⟨rfl, rfl, rfl, by decide +kernel, rfl, by decide +kernel, by decide +kernel⟩
section
variable {P : Program} {w : World} {K : PySem.W.Frag} {mg : Str → Option Value} {base : Heap}
theorem Dr.pick {p c q4 : Addr} {N : List Str} {w4 : List Str} {t0 : TE} {σ : L2.St} {H : Hp} {n b : Nat} (e0 : σ[0]? = some (some (.ref p))) (e4 : σ[4]? = some (some (.ref q4))) (h4 : LsW H p c q4 w4) (g4 : WsG N 0 w4) (l4 : w4.length ≤ 2) (hn : n ≤ 99999999999) (h0 : Dr p c N 0 0 1 t0 σ H n b) : Dr p c N 1 0 2 (tOp (rIxL K) (tLst (tCons t0 (tCons (tVar 4) tNil))) (tCall spDraw [] E0 (tCons (tVar 0) (tCons (tC (V.int 2)) tNil)))) σ H n b := ⟨fun {Q} k => by
  refine h0.go fun q0 w0 H1 b1 hq0 g0 l0 P1 le1 t1 => ⟨_, e4, (by show 2 ≤ sizeLine; decide), fun q9 n9 => ?_⟩
  have s9 := same_new (o := .lst [.ref q0, .ref q4]) n9
  have e9 : upd H1 q9 (.lst [.ref q0, .ref q4]) q9 = some (.lst [.ref q0, .ref q4]) := upd_same
  have f9 := P1.ne1 n9
  have d9 := P1.ne2 n9
  have P2 := P1.same s9
  generalize upd H1 q9 (.lst [.ref q0, .ref q4]) = H2 at *
  refine ⟨_, e0, p, c, _, _, 2, rfl, P2, by omega, by decide, by decide, fun r H3 r0 r1 P3 b3 => ?_⟩
  have P3 : PoolAt H3 p c (Lim b1) (n + 1) := P3
  have e3 := b3 _ _ e9 f9 d9
  have : r = 0 ∨ r = 1 := by omega
  rcases this with rfl | rfl
  · exact ⟨q9, _, 0, _, rfl, rfl, SqL.of e3, rfl, k q0 w0 H3 b1 ((hq0.same s9).but b3) g0 (by omega) P3 le1 (t1.trans ((But.ofs s9).trans b3))⟩
  · exact ⟨q9, _, 1, _, rfl, rfl, SqL.of e3, rfl, k q4 w4 H3 b1 (((h4.but t1).same s9).but b3) g4 (by omega) P3 le1 (t1.trans ((But.ofs s9).trans b3))⟩⟩
theorem ok_GSt {k0 m : Nat} {f : Addr} {fd : FuncData} (F : Fun K "_law_some_statement" "_law_some_statement" sGSt f fd) (T : TxG4 mg) (GD : Has P w K mg base CX0 2 "_law_draw" PDraw spDraw) (GX : Has P w K mg base CX0 3 "_law_some_list" PGLs (spGs 10 5)) (GS : Has P w K mg base CX0 3 "_law_some_sum" PGSm (spGs 20 12)) (GC : Has P w K mg base CX0 4 "_law_some_call" PGCl (spGs 60 30)) (GM : Has P w K mg base CX0 k0 "_law_some_compound" PGCm (spGCm m)) (hk : 4 ≤ k0) : FnOk P w K mg base CX0 (k0 + 1) f fd PGSt (spGSt m) := by
  refine F.ok scGSt (fun vs H Q E h => ?_) (fun cdv A outer s H vs Q E hr h => ?_)
  · obtain ⟨p, c, nl, n, b, N, rfl, _⟩ := h
    rfl
  · obtain ⟨p, c, nl, n, b, N, rfl, P0, hn, hb, hN, nn, k⟩ := h
    have hr2 := hr.mono (j := 2) (by omega)
    have hr3 := hr.mono (j := 3) (by omega)
    have hr4 := hr.mono (j := 4) (by omega)
    have g100 : 100 ≤ gsC m := by
      cases m with
      | zero => exact Nat.le_refl _
      | succ m => show 100 ≤ 400 + 4 * (1 + 3 * gsC m); omega
    refine ⟨_, (pss_cons (ps_set (i := 3) scGSt.nd rfl (Or.inl rfl) (pe_callH GD hr2 rfl pass0 (pa_cons (pv 0) (pa_cons pe_int pa_nil))))
  (pss_cons (ps_if (PW.pt (pw_and (pt_cmpR op_lt (pv 3) pe_int (nomark _)) (pw_and1 (pt_cmpR op_gt (pv 2) pe_int (nomark _)))))
  (pss_one (ps_ret (pe_callH GM hr rfl pass0 (pa_cons (pv 0) (pa_cons (pv 1) (pa_cons (pv 2) pa_nil))))))
  pss_nil)
  (pss_cons (ps_set (i := 4) scGSt.nd rfl (Or.inl rfl) (pe_lst (pa_cons (pe_ix (r := rIxL K) ix_list (pv 1) (pe_callH GD hr2 rfl pass0 (pa_cons (pv 0) (pa_cons (pe_callB call_len_seq (by rfl) T.n_len bb_len (pa_cons (pv 1) pa_nil)) pa_nil))) (fun _ _ => rfl)) (pa_cons pe_str pa_nil))))
  (pss_cons (ps_if (pt_cmpR op_lt (pv 3) pe_int (nomark _))
  (pss_one (ps_ret (pe_op op_cat (pv 4) (pe_lst (pa_cons pe_str pa_nil)))))
  pss_nil)
  (pss_cons (ps_if (pt_cmpR op_lt (pv 3) pe_int (nomark _))
  (pss_one (ps_ret (pe_op op_cat (pe_ix (r := rIxL K) ix_list (pe_lst (pa_cons (pe_lst pa_nil) (pa_cons (pv 4) pa_nil))) (pe_callH GD hr2 rfl pass0 (pa_cons (pv 0) (pa_cons pe_int pa_nil))) (fun _ _ => rfl)) (pe_callH GC hr4 rfl pass0 (pa_cons (pv 0) (pa_cons (pv 1) pa_nil))))))
  pss_nil)
  (pss_cons (ps_if (pt_cmpR op_lt (pv 3) pe_int (nomark _))
  (pss_one (ps_ret (pe_op op_cat (pe_lst (pa_cons pe_str pa_nil)) (pe_callH GX hr3 rfl pass0 (pa_cons (pv 0) (pa_cons (pv 1) pa_nil))))))
  pss_nil)
  (pss_cons (ps_if (pt_cmpR op_lt (pv 3) pe_int (nomark _))
  (pss_one (ps_ret (pe_op op_cat (pe_lst (pa_cons pe_str pa_nil)) (pe_slice sl_list (pv 4) po_none (po_some pe_int)))))
  pss_nil)
  (pss_one (ps_ret (pe_op op_cat (pe_ix (r := rIxL K) ix_list (pe_lst (pa_cons (pe_lst (pa_cons pe_str pa_nil)) (pa_cons (pv 4) pa_nil))) (pe_callH GD hr2 rfl pass0 (pa_cons (pv 0) (pa_cons pe_int pa_nil))) (fun _ _ => rfl)) (pe_callH GS hr3 rfl pass0 (pa_cons (pv 0) (pa_cons (pv 1) pa_nil))))))))))))), ?_⟩
    refine ⟨_, rfl, p, c, _, _, 12, rfl, P0, by omega, by decide, by decide, fun ch H1 c0 c1 P1 b1 => ?_⟩
    have hN1 := hN.but b1
    have atom : tSeq (tAsg (tLst (tCons (tOp (rIxL K) (tVar 1) (tCall spDraw [] E0 (tCons (tVar 0) (tCons (tCB (rLnS K) (tCons (tVar 1) tNil)) tNil)))) (tCons (tC (V.str "=")) tNil))) (gName 4)) (tSeq (tIfS (tTest (tOp (rI0 fun i j => V.bl (decide (i < j))) (tVar 3) (tC (V.int 6)))) (tRet (tOp rCat (tVar 4) (tLst (tCons (tC (V.str "?")) tNil)))) tNext) (tSeq (tIfS (tTest (tOp (rI0 fun i j => V.bl (decide (i < j))) (tVar 3) (tC (V.int 8)))) (tRet (tOp rCat (tOp (rIxL K) (tLst (tCons (tLst tNil) (tCons (tVar 4) tNil))) (tCall spDraw [] E0 (tCons (tVar 0) (tCons (tC (V.int 2)) tNil)))) (tCall (spGs 60 30) [] E0 (tCons (tVar 0) (tCons (tVar 1) tNil))))) tNext) (tSeq (tIfS (tTest (tOp (rI0 fun i j => V.bl (decide (i < j))) (tVar 3) (tC (V.int 9)))) (tRet (tOp rCat (tLst (tCons (tC (V.str "risk")) tNil)) (tCall (spGs 10 5) [] E0 (tCons (tVar 0) (tCons (tVar 1) tNil))))) tNext) (tSeq (tIfS (tTest (tOp (rI0 fun i j => V.bl (decide (i < j))) (tVar 3) (tC (V.int 10)))) (tRet (tOp rCat (tLst (tCons (tC (V.str "raise")) tNil)) (tSl (rSlL K) (tVar 4) tNoPart (tPart (tC (V.int 1)))))) tNext) (tRet (tOp rCat (tOp (rIxL K) (tLst (tCons (tLst (tCons (tC (V.str "return")) tNil)) (tCons (tVar 4) tNil))) (tCall spDraw [] E0 (tCons (tVar 0) (tCons (tC (V.int 2)) tNil)))) (tCall (spGs 20 12) [] E0 (tCons (tVar 0) (tCons (tVar 1) tNil)))))))))
        { nx := fun _ H' => Q V.non H', rt := Q } [some (.ref p), some (.ref nl), some (.int (m : Nat)), some (.int ch), none] H1 := by
      refine draw_nm nn hN1 rfl rfl P1 (by omega) fun x H2 hx P2 b2 => ?_
      refine ⟨(by show 2 ≤ sizeLine; decide), fun q4 nq4 => ?_⟩
      have sq4 := same_new (o := .lst [V.str x, V.str "="]) nq4
      have hq4 : LsW (upd H2 q4 (.lst [V.str x, V.str "="])) p c q4 [(x : Str), ("=" : Str)] := ⟨upd_same, P2.ne1 nq4, P2.ne2 nq4⟩
      have P3 := P2.same sq4
      generalize upd H2 q4 (.lst [V.str x, V.str "="]) = H3 at *
      have b3 : But p c H H3 := b1.trans (b2.trans (.ofs sq4))
      have g4 : WsG N 0 [x, "="] := .nme nn hx (.fix (by decide +kernel) (by decide +kernel) (by decide +kernel) .nil)
      have gm4 : WsG N m [x, "="] := g4.mono (Nat.zero_le _)
      have hN3 := hN.but b3
      refine ⟨_, rfl, _, _, rfl, rfl, _, rfl, ?_⟩
      by_cases z6 : ch < 6
      · refine iteS (decide_eq_true z6) ?_
        refine (Dr.cat (σ := [some (.ref p), some (.ref nl), some (.int (m : Nat)), some (.int ch), some (.ref q4)]) (by show 2 + 1 + _ ≤ _; omega) (Dr.var rfl P3 hq4 gm4) (fun H4 b4 l4 t4 P4 => .one "?" P4 (by decide +kernel))).go fun q ws H4 b4 hq g l P4 le t4 => ?_
        have l : ws.length + 100 * b4 ≤ 2 + 1 + 100 * b := l
        exact k q ws H4 b4 hq g (by omega) (P4.mono (by omega)) le (b3.trans t4)
      refine iteE (decide_eq_false z6) ?_
      refine ⟨_, rfl, _, _, rfl, rfl, _, rfl, ?_⟩
      by_cases z8 : ch < 8
      · refine iteS (decide_eq_true z8) ?_
        refine (Dr.cat (σ := [some (.ref p), some (.ref nl), some (.int (m : Nat)), some (.int ch), some (.ref q4)]) (by omega) ((Dr.pick rfl rfl hq4 g4 (Nat.le_refl _) (by omega) ((Dr.nil P3).mono (Nat.le_refl _) (Nat.le_refl _) (Nat.zero_le _))).mono (Nat.le_refl _) (Nat.zero_le m) (Nat.le_refl _)) (fun H4 b4 l4 t4 P4 => .gs rfl rfl P4 (by omega) (hN3.but t4) nn)).go fun q ws H4 b4 hq g l P4 le t4 => ?_
        exact k q ws H4 b4 hq g (by omega) (P4.mono (by omega)) le (b3.trans t4)
      refine iteE (decide_eq_false z8) ?_
      refine ⟨_, rfl, _, _, rfl, rfl, _, rfl, ?_⟩
      by_cases z9 : ch < 9
      · refine iteS (decide_eq_true z9) ?_
        refine (Dr.cat (D := m) (σ := [some (.ref p), some (.ref nl), some (.int (m : Nat)), some (.int ch), some (.ref q4)]) (by omega) (Dr.one "risk" P3 (by decide +kernel)) (fun H4 b4 l4 t4 P4 => .gs rfl rfl P4 (by omega) (hN3.but t4) nn)).go fun q ws H4 b4 hq g l P4 le t4 => ?_
        exact k q ws H4 b4 hq g (by omega) (P4.mono (by omega)) le (b3.trans t4)
      refine iteE (decide_eq_false z9) ?_
      refine ⟨_, rfl, _, _, rfl, rfl, _, rfl, ?_⟩
      by_cases z10 : ch < 10
      · refine iteS (decide_eq_true z10) ?_
        refine ⟨(by show 1 ≤ sizeLine; decide), fun q5 nq5 => ?_⟩
        have sq5 := same_new (o := .lst [V.str "raise"]) nq5
        have hq5 : LsW (upd H3 q5 (.lst [V.str "raise"])) p c q5 [("raise" : Str)] := ⟨upd_same, P3.ne1 nq5, P3.ne2 nq5⟩
        have P4 := P3.same sq5
        generalize upd H3 q5 (.lst [V.str "raise"]) = H4 at *
        refine ⟨_, rfl, _, rfl, q4, _, rfl, SqL.of (hq4.same sq5).e, fun q6 n6 => ?_⟩
        have s6 := same_new (o := .lst (cutV [V.str x, V.str "="] none (some 1))) n6
        have h6 : LsW (upd H4 q6 (.lst (cutV [V.str x, V.str "="] none (some 1)))) p c q6 [x] := ⟨upd_same, P4.ne1 n6, P4.ne2 n6⟩
        refine cat_new (P4.same s6) (hq5.same s6) h6 (by show 1 + 1 ≤ _; omega) fun q7 H7 s7 hq7 => ?_
        exact k q7 _ H7 b hq7 ((WsG.fix (by decide +kernel) (by decide +kernel) (by decide +kernel) .nil).app (.nme nn hx .nil)) (by show 1 + 1 + _ ≤ _; omega) (((P4.same s6).same s7).mono (by omega)) (Nat.le_refl _) (b3.trans ((But.ofs sq5).trans ((But.ofs s6).trans (.ofs s7))))
      refine iteE (decide_eq_false z10) ?_
      refine (Dr.cat (σ := [some (.ref p), some (.ref nl), some (.int (m : Nat)), some (.int ch), some (.ref q4)]) (by omega) ((Dr.pick rfl rfl hq4 g4 (Nat.le_refl _) (by omega) (Dr.one "return" P3 (by decide +kernel))).mono (Nat.le_refl _) (Nat.zero_le m) (Nat.le_refl _)) (fun H4 b4 l4 t4 P4 => .gs rfl rfl P4 (by omega) (hN3.but t4) nn)).go fun q ws H4 b4 hq g l P4 le t4 => ?_
      exact k q ws H4 b4 hq g (by omega) (P4.mono (by omega)) le (b3.trans t4)
    refine ⟨_, rfl, _, _, rfl, rfl, _, rfl, ?_⟩
    by_cases h5 : ch < 5
    · refine iteS (decide_eq_true h5) ?_
      refine ⟨_, rfl, _, _, rfl, rfl, _, rfl, ?_⟩
      by_cases hm : 0 < m
      · refine iteS (decide_eq_true (by omega)) ?_
        obtain ⟨m, rfl⟩ : ∃ m', m = m' + 1 := ⟨m - 1, by omega⟩
        have e4 : gsC (m + 1) = 400 + 4 * (gbC m) := rfl
        exact ⟨_, rfl, _, rfl, _, rfl, p, c, nl, _, b, m, N, rfl, rfl, P1, by omega, hb, hN1, nn, fun q ws H4 b4 hq g l P4 le t4 => k q ws H4 b4 hq g (by omega) (P4.mono (by omega)) le (b1.trans t4)⟩
      · refine iteE (decide_eq_false (by omega)) ?_
        exact atom
    refine iteE (decide_eq_false h5) (iteF ?_)
    exact atom
theorem ok_GBks {fs fb fc : Addr} {ds db dc : FuncData} (FS : Fun K "_law_some_statement" "_law_some_statement" sGSt fs ds) (FB : Fun K "_law_some_block" "_law_some_block" sGBk fb db) (FC : Fun K "_law_some_compound" "_law_some_compound" sGCm fc dc) (T : TxG4 mg)
    (gs : mg "_law_some_statement" = some (.ref fs)) (ks : PySem.W.keepIn K (.ref fs) = true) (bs : Binds K ds PGSt []) (gb : mg "_law_some_block" = some (.ref fb)) (kb : PySem.W.keepIn K (.ref fb) = true) (bb : Binds K db PGBk []) (gc : mg "_law_some_compound" = some (.ref fc)) (kc : PySem.W.keepIn K (.ref fc) = true) (bc : Binds K dc PGCm [])
    (GD : Has P w K mg base CX0 2 "_law_draw" PDraw spDraw) (GX : Has P w K mg base CX0 3 "_law_some_list" PGLs (spGs 10 5)) (GS : Has P w K mg base CX0 3 "_law_some_sum" PGSm (spGs 20 12)) (GC : Has P w K mg base CX0 4 "_law_some_call" PGCl (spGs 60 30)) : ∀ m, FnOk P w K mg base CX0 (5 + 3 * m) fb db PGBk (spGBk m) := by
  intro m
  induction m with
  | zero =>
    have vac : ∀ {vs : List V} {H : Hp} {Q : VK} {E : XK}, spGBk 0 vs H Q E → False := fun h => by
      obtain ⟨p, c, nl, n, b, m, N, em, _⟩ := h
      omega
    exact ⟨fun vs H Q E h => (vac h).elim, fun _ _ _ _ _ _ _ _ _ _ _ _ _ h => (vac h).elim⟩
  | succ m ih =>
    have GB : Has P w K mg base CX0 (5 + 3 * m) "_law_some_block" PGBk (spGBk m) := ⟨fb, db, ih, gb, kb, bb⟩
    have GM : Has P w K mg base CX0 (5 + 3 * m + 1) "_law_some_compound" PGCm (spGCm m) := ⟨fc, dc, ok_GCm FC T GD GX GC GB (by omega), gc, kc, bc⟩
    have GT : Has P w K mg base CX0 (5 + 3 * m + 1 + 1) "_law_some_statement" PGSt (spGSt m) := ⟨fs, ds, ok_GSt FS T GD GX GS GC GM (by omega), gs, ks, bs⟩
    have r := ok_GBk FB T GD GT (by omega)
    rw [show 5 + 3 * m + 1 + 1 + 1 = 5 + 3 * (m + 1) by omega] at r
    exact r
end

/-! ### k04: a whole text, another word -/
abbrev sGPg : Stmt := topS 30
abbrev NGPg : List Str := ["_law_pool_here", "_law_names_here", "_law_tokens", "_law_word", "_law_k", "_law_params"]
abbrev PGPg : List Str := ["_law_pool_here", "_law_names_here"]
theorem scGPg : FnScope NGPg PGPg (defScope sGPg) := ⟨rfl, rfl, rfl, by decide +kernel, rfl, by decide +kernel, by decide +kernel⟩
abbrev sGOt : Stmt := topS 48
abbrev NGOt : List Str := ["_law_pool_here", "_law_tokens", "_law_words"]
abbrev PGOt : List Str := ["_law_pool_here", "_law_tokens"]
theorem scGOt : FnScope NGOt PGOt (defScope sGOt) := ⟨rfl, rfl, rfl, by decide +kernel, rfl, by decide +kernel, by decide +kernel⟩
def spGPg : Sp := fun vs H Q _ => ∃ (p c nl : Addr) (n b : Nat) (N : List Str), vs = [.ref p, .ref nl] ∧ PoolAt H p c (Lim b) n ∧ n + 3 * gbC 3 + 1000 ≤ 100000000000 ∧ b ≤ 30 ∧ LsW H p c nl N ∧ NmN N ∧ ∀ (q : Addr) (ws : List Str) (H' : Hp) (b' : Nat), LsW H' p c q ws → WsG N 4 ws → ws.length + 100 * b' ≤ 200 + 100 * b → PoolAt H' p c (Lim b') (n + 3 * gbC 3 + 1000) → b' ≤ b → But p c H H' → Q (.ref q) H'
def spGOt : Sp := fun vs H Q _ => ∃ (p c q : Addr) (lim : V) (n : Nat) (ws : List Str), vs = [.ref p, .ref q] ∧ PoolAt H p c lim n ∧ n + 2 ≤ 100000000000 ∧ LsW H p c q ws ∧ ws.length ≤ 100000 ∧ ∀ x H', x ∈ ws ∨ x ∈ FIX → PoolAt H' p c lim (n + 2) → But p c H H' → Q (.str x) H'
theorem cut_take {xs : List V} {k : Nat} : cutV xs none (some (k : Int)) = xs.take k := by
  unfold cutV
  rw [HT.sIx_none, HT.sIx_nat, List.drop_zero]
  rw [Nat.sub_zero, List.take_eq_take_iff]
  omega
theorem cut_drop {xs : List V} {k : Nat} : cutV xs (some (k : Int)) none = xs.drop k := by
  unfold cutV
  rw [HT.sIx_nat, HT.sIx_none, List.take_of_length_le (by rw [List.length_drop]; omega)]
  by_cases h : k ≤ xs.length
  · rw [Nat.min_eq_left h]
  · rw [Nat.min_eq_right (by omega), List.drop_length, List.drop_of_length_le (by omega)]
theorem WsG.sub {N : List Str} (nn : NmN N) : ∀ {l : List Str}, (∀ x ∈ l, x ∈ N) → WsG N 0 l
  | [], _ => .nil
  | x :: r, h => .nme nn (h x List.mem_cons_self) (WsG.sub nn fun y hy => h y (List.mem_cons_of_mem _ hy))
theorem rep_amp {r : Int} (r0 : 0 ≤ r) (r1 : r < 2) : ∃ z : List Str, z = List.replicate r.toNat ("&" : Str) ∧ z.length ≤ 1 ∧ ∀ N, WsG N 0 z := by
  have : r = 0 ∨ r = 1 := by omega
  rcases this with rfl | rfl
  · exact ⟨[], rfl, by decide, fun N => .nil⟩
  · exact ⟨[("&" : Str)], rfl, by decide, fun N => .fix (by decide +kernel) (by decide +kernel) (by decide +kernel) .nil⟩
section
variable {P : Program} {w : World} {K : PySem.W.Frag} {mg : Str → Option Value} {base : Heap}
theorem ok_GPg {f : Addr} {fd : FuncData} (F : Fun K "_law_some_program" "_law_some_program" sGPg f fd) (T : TxG4 mg) (GD : Has P w K mg base CX0 2 "_law_draw" PDraw spDraw) (GX : Has P w K mg base CX0 3 "_law_some_list" PGLs (spGs 10 5)) (GS : Has P w K mg base CX0 3 "_law_some_sum" PGSm (spGs 20 12)) (GB : Has P w K mg base CX0 17 "_law_some_block" PGBk (spGBk 4)) : FnOk P w K mg base CX0 18 f fd PGPg spGPg := by
  refine F.ok scGPg (fun vs H Q E h => ?_) (fun cdv A outer s H vs Q E hr h => ?_)
  · obtain ⟨p, c, nl, n, b, N, rfl, _⟩ := h
    rfl
  · obtain ⟨p, c, nl, n, b, N, rfl, P0, hn, hb, hN, nn, k⟩ := h
    have hr2 := hr.mono (j := 2) (by omega)
    have hr3 := hr.mono (j := 3) (by omega)
    refine ⟨_, (pss_cons (ps_set (i := 2) scGPg.nd rfl (Or.inl rfl) (pe_lst pa_nil))
  (pss_cons (ps_for PassesOwn.never rfl (pi_list (pe_lst (pa_cons pe_str (pa_cons pe_str pa_nil)))) (pg_name (i := 3) scGPg.nd rfl (Or.inl rfl))
  (pss_one (ps_if (pt_cmpR op_gt (pe_callH GD hr2 rfl pass0 (pa_cons (pv 0) (pa_cons pe_int pa_nil))) pe_int (nomark _))
  (pss_one (ps_set (i := 2) scGPg.nd rfl (Or.inl rfl) (pe_op op_cat (pe_op op_cat (pv 2) (pe_lst (pa_cons (pv 3) pa_nil))) (pe_slice sl_list (pv 1) po_none (po_some (pe_op op_add pe_int (pe_callH GD hr2 rfl pass0 (pa_cons (pv 0) (pa_cons pe_int pa_nil)))))))))
  pss_nil)))
  (pss_cons (ps_for PassesOwn.never rfl (pi_range1 (by rfl) T.n_range (pa_cons (pe_callH GD hr2 rfl pass0 (pa_cons (pv 0) (pa_cons pe_int pa_nil))) pa_nil)) (pg_name (i := 4) scGPg.nd rfl (Or.inl rfl))
  (pss_one (ps_set (i := 2) scGPg.nd rfl (Or.inl rfl) (pe_op op_cat (pe_op op_cat (pv 2) (pe_lst (pa_cons pe_str pa_nil))) (pe_callH GS hr3 rfl pass0 (pa_cons (pv 0) (pa_cons (pv 1) pa_nil)))))))
  (pss_cons (ps_for PassesOwn.never rfl (pi_range1 (by rfl) T.n_range (pa_cons (pe_callH GD hr2 rfl pass0 (pa_cons (pv 0) (pa_cons pe_int pa_nil))) pa_nil)) (pg_name (i := 4) scGPg.nd rfl (Or.inl rfl))
  (pss_cons (ps_set (i := 5) scGPg.nd rfl (Or.inl rfl) (pe_ifExp (pt_cmpR op_eq (pe_callH GD hr2 rfl pass0 (pa_cons (pv 0) (pa_cons pe_int pa_nil))) pe_int (nomark _)) (pe_op op_cat (pe_op op_rep (pe_lst (pa_cons pe_str pa_nil)) (pe_callH GD hr2 rfl pass0 (pa_cons (pv 0) (pa_cons pe_int pa_nil)))) (pe_callH GX hr3 rfl pass0 (pa_cons (pv 0) (pa_cons (pv 1) pa_nil)))) (pe_lst pa_nil)))
  (pss_one (ps_set (i := 2) scGPg.nd rfl (Or.inl rfl) (pe_op op_cat (pe_op op_cat (pe_op op_cat (pe_op op_cat (pv 2) (pe_lst (pa_cons pe_str (pa_cons (pe_ix (r := rIxL K) ix_list (pv 1) (pv 4) (fun _ _ => rfl)) (pa_cons pe_str pa_nil))))) (pv 5)) (pe_lst (pa_cons pe_str pa_nil))) (pe_callH GB hr rfl pass0 (pa_cons (pv 0) (pa_cons (pv 1) (pa_cons pe_int pa_nil)))))))))
  (pss_one (ps_ret (pv 2))))))), ?_⟩
    generalize hg : gbC 3 = gb at *
    refine ⟨(by show 0 ≤ sizeLine; decide), fun q0 nq0 => ?_⟩
    have sq0 := same_new (o := .lst []) nq0
    have hq0 : LsW (upd H q0 (.lst [])) p c q0 [] := ⟨upd_same, P0.ne1 nq0, P0.ne2 nq0⟩
    have P1 := P0.same sq0
    generalize upd H q0 (.lst []) = H1 at *
    have b1 : But p c H H1 := .ofs sq0
    refine ⟨(by show 2 ≤ sizeLine; decide), fun A nA => ?_⟩
    have sA := same_new (o := .lst ([("globals" : Str), "kinds"].map V.str)) nA
    have lA : LsW (upd H1 A (.lst ([("globals" : Str), "kinds"].map V.str))) p c A [("globals" : Str), "kinds"] := .new P1 nA
    have P2 := P1.same sA
    replace hq0 := hq0.same sA
    replace b1 := b1.trans (.ofs sA)
    have eX : upd H1 A (.lst [V.str "globals", V.str "kinds"]) = upd H1 A (.lst ([("globals" : Str), "kinds"].map V.str)) := rfl
    rw [eX]
    generalize upd H1 A (.lst ([("globals" : Str), "kinds"].map V.str)) = H2 at *
    clear eX
    refine ⟨A, rfl, ⟨_, SqL.of lA.e⟩, for_it (walk_list (K := K) (a := A) (xs := [("globals" : Str), "kinds"].map V.str)) (fun i σ H' => ∃ (q : Addr) (ws : List Str) (x3 : Option V), σ = [some (.ref p), some (.ref nl), some (.ref q), x3, none, none] ∧ LsW H' p c q ws ∧ WsG N 4 ws ∧ ws.length ≤ 3 * i ∧ PoolAt H' p c (Lim b) (n + 2 * i) ∧ But p c H H' ∧ But p c H2 H') ⟨q0, [], _, rfl, hq0, .nil, Nat.le_refl _, P2, b1, .ofs (Same.refl _)⟩ (fun i σ H' _ h' => by obtain ⟨_, _, _, _, _, _, _, _, _, b2⟩ := h'; exact SqL.of (lA.but b2).e) ?_ ?_⟩
    · rintro i x σ H3 H4 hi ⟨q, ws, x3, rfl, hq, g, l, P3, b3, b23⟩ ⟨rfl, hx⟩
      obtain ⟨v, hv, rfl⟩ : ∃ v : Str, v ∈ [("globals" : Str), "kinds"] ∧ x = V.str v := by
        obtain ⟨v, hv, e⟩ := List.mem_map.mp (List.mem_of_getElem? hx)
        exact ⟨v, hv, e.symm⟩
      have fv : v ∈ FIX ∧ v ≠ "{" ∧ v ≠ "}" := by
        simp only [List.mem_cons, List.not_mem_nil, or_false] at hv
        rcases hv with rfl | rfl <;> decide +kernel
      have hi : i < 2 := hi
      refine ⟨_, rfl, p, c, _, _, 3, rfl, P3, by omega, by decide, by decide, fun r H5 r0 r1 P5 b5 => ⟨_, _, rfl, rfl, _, rfl, ?_⟩⟩
      replace hq := hq.but b5
      replace b23 := b23.trans b5
      replace b5 := b3.trans b5
      by_cases z : 0 < r
      · refine iteS (decide_eq_true z) ⟨_, rfl, _, rfl, ?_⟩
        refine ⟨(by show 1 ≤ sizeLine; decide), fun q3 nq3 => ?_⟩
        have sq3 := same_new (o := .lst [V.str v]) nq3
        have hq3 : LsW (upd H5 q3 (.lst [V.str v])) p c q3 [(v : Str)] := ⟨upd_same, P5.ne1 nq3, P5.ne2 nq3⟩
        have P6 := P5.same sq3
        generalize upd H5 q3 (.lst [V.str v]) = H6 at *
        refine cat_new P6 (hq.same sq3) hq3 (by show _ + 1 ≤ _; omega) fun q4 H7 s7 hq4 => ?_
        have b7 : But p c H5 H7 := (But.ofs sq3).trans (.ofs s7)
        refine ⟨_, rfl, _, rfl, p, c, _, _, 2, rfl, P6.same s7, by omega, by decide, by decide, fun t H8 t0 t1 P8 b8 => ⟨_, _, rfl, rfl, ?_⟩⟩
        replace b7 := b7.trans b8
        refine ⟨_, rfl, nl, _, rfl, SqL.of (hN.but (b5.trans b7)).e, fun q6 n6 => ?_⟩
        have ec : cutV (N.map V.str) none (some (1 + t)) = (N.take (t.toNat + 1)).map V.str := by
          rw [show (1 + t : Int) = ((t.toNat + 1 : Nat) : Int) by omega, cut_take, List.map_take]
        rw [ec]
        have s6 := same_new (o := .lst ((N.take (t.toNat + 1)).map V.str)) n6
        have h6 : LsW (upd H8 q6 (.lst ((N.take (t.toNat + 1)).map V.str))) p c q6 (N.take (t.toNat + 1)) := .new P8 n6
        have lt6 : (N.take (t.toNat + 1)).length ≤ 2 := by rw [List.length_take]; omega
        refine cat_new (P8.same s6) ((hq4.but b8).same s6) h6 (by rw [List.length_append]; show _ + 1 + _ ≤ _; omega) fun q9 H9 s9 hq9 => ?_
        refine ⟨q9, _, _, rfl, hq9, (g.app ((WsG.fix fv.1 fv.2.1 fv.2.2 .nil))).app ((WsG.sub nn fun x hx => List.mem_of_mem_take hx).mono (Nat.zero_le _)), by rw [List.length_append, List.length_append]; show _ + 1 + _ ≤ _; omega, ((P8.same s6).same s9).mono (by omega), b5.trans (b7.trans ((But.ofs s6).trans (.ofs s9))), b23.trans (b7.trans ((But.ofs s6).trans (.ofs s9)))⟩
      · refine iteE (decide_eq_false z) ?_
        exact ⟨q, ws, _, rfl, hq, g, by omega, P5.mono (by omega), b5, b23⟩
    · rintro σ H3 ⟨q, ws, x3, rfl, hq, g, l, P3, b3, _⟩
      have l : ws.length ≤ 6 := l
      have P3 : PoolAt H3 p c (Lim b) (n + 4) := P3
      refine ⟨_, rfl, p, c, _, _, 2, rfl, P3, by omega, by decide, by decide, fun r H4 r0 r1 P4 b4 => ⟨r, rfl, by omega, by omega, ?_⟩⟩
      refine for_range (lo := 0) (n := r.toNat) (fun i σ H' => ∃ (q : Addr) (ws : List Str) (x4 : Option V), σ = [some (.ref p), some (.ref nl), some (.ref q), x3, x4, none] ∧ LsW H' p c q ws ∧ WsG N 4 ws ∧ ws.length ≤ 6 + 13 * i ∧ PoolAt H' p c (Lim b) (n + 5 + 20 * i) ∧ But p c H H') ⟨q, ws, _, rfl, hq.but b4, g, l, P4, b3.trans b4⟩ ?_ ?_
      · rintro i σ H5 hi ⟨q, ws, x4, rfl, hq, g, l, P5, b5⟩
        refine ⟨_, rfl, ?_⟩
        refine ⟨(by show 1 ≤ sizeLine; decide), fun q3 nq3 => ?_⟩
        have sq3 := same_new (o := .lst [V.str "keep"]) nq3
        have hq3 : LsW (upd H5 q3 (.lst [V.str "keep"])) p c q3 [("keep" : Str)] := ⟨upd_same, P5.ne1 nq3, P5.ne2 nq3⟩
        have P6 := P5.same sq3
        generalize upd H5 q3 (.lst [V.str "keep"]) = H6 at *
        refine cat_new P6 (hq.same sq3) hq3 (by show _ + 1 ≤ _; omega) fun q4 H7 s7 hq4 => ?_
        have b7 : But p c H H7 := b5.trans ((But.ofs sq3).trans (.ofs s7))
        refine ⟨_, rfl, _, rfl, p, c, nl, Lim b, _, N, rfl, P6.same s7, by omega, hN.but b7, nn, fun q8 w8 H8 hq8 g8 l8 P8 b8 => ?_⟩
        refine cat_new P8 (hq4.but b8) hq8 (by rw [List.length_append]; show _ + 1 + _ ≤ _; omega) fun q9 H9 s9 hq9 => ?_
        exact ⟨q9, _, _, rfl, hq9, (g.app ((WsG.fix (by decide +kernel) (by decide +kernel) (by decide +kernel) .nil))).app (g8.mono (Nat.zero_le _)), by rw [List.length_append, List.length_append]; show _ + 1 + _ ≤ _; omega, (P8.same s9).mono (by omega), b7.trans (b8.trans (.ofs s9))⟩
      · rintro σ H5 ⟨q, ws, x4, rfl, hq, g, l, P5, b5⟩
        have l : ws.length ≤ 19 := by omega
        have P5 : PoolAt H5 p c (Lim b) (n + 25) := P5.mono (by omega)
        refine ⟨_, rfl, p, c, _, _, 3, rfl, P5, by omega, by decide, by decide, fun r H6 r0 r1 P6 b6 => ⟨r, rfl, by omega, by omega, ?_⟩⟩
        have lr : r.toNat ≤ 2 := by omega
        refine for_range (lo := 0) (n := r.toNat) (fun i σ H' => ∃ (q : Addr) (ws : List Str) (b' : Nat) (x4 x5 : Option V), σ = [some (.ref p), some (.ref nl), some (.ref q), x3, x4, x5] ∧ LsW H' p c q ws ∧ WsG N 4 ws ∧ ws.length + 100 * b' ≤ 19 + 12 * i + 100 * b ∧ b' ≤ b ∧ PoolAt H' p c (Lim b') (n + 26 + i * (gb + 20)) ∧ But p c H H') ⟨q, ws, b, _, _, rfl, hq.but b6, g, by omega, Nat.le_refl _, by rw [Nat.zero_mul]; exact P6, b5.trans b6⟩ ?_ ?_
        · rintro i σ H7 hi ⟨q, ws, b', x4, x5, rfl, hq, g, l, le, P7, b7⟩
          have im : (i + 1) * (gb + 20) = i * (gb + 20) + (gb + 20) := Nat.succ_mul _ _
          have i2 : (i + 1) * (gb + 20) ≤ 2 * (gb + 20) := Nat.mul_le_mul_right _ (by omega)
          have hN7 := hN.but b7
          have par : Dr p c N 12 0 6 (tIf (tTest (tOp rEq (tCall spDraw [] E0 (tCons (tVar 0) (tCons (tC (V.int 2)) tNil))) (tC (V.int 1)))) (tOp rCat (tOp rRep (tLst (tCons (tC (V.str "&")) tNil)) (tCall spDraw [] E0 (tCons (tVar 0) (tCons (tC (V.int 2)) tNil)))) (tCall (spGs 10 5) [] E0 (tCons (tVar 0) (tCons (tVar 1) tNil)))) (tLst tNil)) [some (.ref p), some (.ref nl), some (.ref q), x3, some (.int (0 + (i : Nat))), x5] H7 (n + 26 + i * (gb + 20)) b' := ⟨fun {Q9} kk => by
            refine ⟨_, rfl, p, c, _, _, 2, rfl, P7, by omega, by decide, by decide, fun t H8 t0 t1 P8 b8 => ⟨rfl, _, rfl, ?_⟩⟩
            by_cases z : t = 1
            · refine iteS (decide_eq_true (by rw [z])) ?_
              refine ⟨(by show 1 ≤ sizeLine; decide), fun qa nqa => ?_⟩
              have sqa := same_new (o := .lst [V.str "&"]) nqa
              have hqa : LsW (upd H8 qa (.lst [V.str "&"])) p c qa [("&" : Str)] := ⟨upd_same, P8.ne1 nqa, P8.ne2 nqa⟩
              have P9 := P8.same sqa
              generalize upd H8 qa (.lst [V.str "&"]) = H9 at *
              refine ⟨_, rfl, p, c, _, _, 2, rfl, P9, by omega, by decide, by decide, fun u H10 u0 u1 P10 b10 => ?_⟩
              replace hqa := hqa.but b10
              obtain ⟨zs, ez, lz, gz⟩ := rep_amp u0 u1
              have er : (List.replicate u.toNat ([("&" : Str)].map V.str)).flatten = zs.map V.str := by
                rw [ez]
                have : u = 0 ∨ u = 1 := by omega
                rcases this with rfl | rfl <;> rfl
              refine ⟨qa, u, _, rfl, rfl, hqa.e, by omega, by omega, (by show 1 * u.toNat ≤ 2 ^ 24; omega), fun qr nr => ?_⟩
              have sr := same_new (o := .lst (zs.map V.str)) nr
              have hr' : LsW (upd H10 qr (.lst (zs.map V.str))) p c qr zs := .new P10 nr
              have P11 := P10.same sr
              have b11 : But p c H7 (upd H10 qr (.lst (zs.map V.str))) := b8.trans ((But.ofs sqa).trans (b10.trans (.ofs sr)))
              rw [er]
              generalize upd H10 qr (.lst (zs.map V.str)) = H11 at *
              refine ⟨_, rfl, _, rfl, p, c, nl, Lim b', _, N, rfl, P11, by omega, hN7.but b11, nn, fun q8 w8 H12 hq8 g8 l8 P12 b12 => ?_⟩
              refine cat_new P12 (hr'.but b12) hq8 (by omega) fun q9 H13 s13 hq9 => ?_
              exact kk q9 _ H13 b' hq9 ((gz N).app g8) (by rw [List.length_append]; omega) ((P12.same s13).mono (by omega)) (Nat.le_refl _) (b11.trans (b12.trans (.ofs s13)))
            · refine iteE (decide_eq_false fun e => z (V.int.inj e)) ?_
              exact (Dr.nil P8).go fun q ws H9 b9 hq g l P9 le t9 => kk q ws H9 b9 hq g (by omega) (P9.mono (by omega)) le (b8.trans t9)⟩
          refine par.go fun q3 w3 H8 b8 hq3 g3 l3 P8 le8 t8 => ?_
          have hN8 := hN7.but t8
          have b78 := b7.trans t8
          replace hq := hq.but t8
          obtain ⟨nm, hnm, anm⟩ := at_nm (N := N) (r := 0 + (i : Nat)) (by omega) (by rw [nn.ln]; omega)
          have hd : ∀ {H9 : Hp} {n9 b9 : Nat}, PoolAt H9 p c (Lim b9) n9 → But p c H8 H9 → Dr p c N 0 4 3 (tLst (tCons (tC (V.str "def")) (tCons (tOp (rIxL K) (tVar 1) (tVar 4)) (tCons (tC (V.str "(")) tNil)))) [some (.ref p), some (.ref nl), some (.ref q), x3, some (.int (0 + (i : Nat))), some (.ref q3)] H9 n9 b9 := fun {H9 n9 b9} P9 t9 => ⟨fun {Q9} kk => by
            refine ⟨_, rfl, _, rfl, nl, _, _, _, rfl, rfl, SqL.of (hN8.but t9).e, anm, ?_⟩
            refine ⟨(by show 3 ≤ sizeLine; decide), fun qd nqd => ?_⟩
            have sqd := same_new (o := .lst [V.str "def", V.str nm, V.str "("]) nqd
            have hqd : LsW (upd H9 qd (.lst [V.str "def", V.str nm, V.str "("])) p c qd [("def" : Str), (nm : Str), ("(" : Str)] := ⟨upd_same, P9.ne1 nqd, P9.ne2 nqd⟩
            have P10 := P9.same sqd
            generalize upd H9 qd (.lst [V.str "def", V.str nm, V.str "("]) = H10 at *
            exact kk qd _ H10 b9 hqd (.fix (by decide +kernel) (by decide +kernel) (by decide +kernel) (.nme nn hnm (.fix (by decide +kernel) (by decide +kernel) (by decide +kernel) .nil))) (Nat.le_refl _) P10 (Nat.le_refl _) (.ofs sqd)⟩
          have blk : ∀ {H9 : Hp} {n9 b9 : Nat}, PoolAt H9 p c (Lim b9) n9 → n9 + gb ≤ 100000000000 → b9 ≤ 30 → But p c H8 H9 → Dr p c N gb 4 2 (tCall (spGBk 4) [] E0 (tCons (tVar 0) (tCons (tVar 1) (tCons (tC (V.int 3)) tNil)))) [some (.ref p), some (.ref nl), some (.ref q), x3, some (.int (0 + (i : Nat))), some (.ref q3)] H9 n9 b9 := fun {H9 n9 b9} P9 hn9 hb9 t9 => ⟨fun {Q9} kk => ⟨_, rfl, _, rfl, p, c, nl, n9, b9, 3, N, rfl, rfl, P9, by rw [hg]; exact hn9, hb9, hN8.but t9, nn, fun q ws H' b' hq g l P' le bt => kk q ws H' b' hq g l (by rw [hg] at P'; exact P') le bt⟩⟩
          refine (Dr.cat (by omega) ((((Dr.var rfl P8 hq g).cat (by omega) (fun H9 b9 l9 t9 P9 => hd P9 t9)).cat (by omega) (fun H9 b9 l9 t9 P9 => .var rfl P9 (hq3.but t9) (g3.mono (Nat.zero_le _)))).cat (by omega) (fun H9 b9 l9 t9 P9 => .one ")" P9 (by decide +kernel))) (fun H9 b9 l9 t9 P9 => blk P9 (by omega) (by omega) t9)).go fun q4 w4 H9 b9 hq4 g4 l4 P9 le9 t9 => ?_
          exact ⟨q4, w4, b9, _, _, rfl, hq4, g4, by omega, by omega, P9.mono (by omega), b78.trans t9⟩
        · rintro σ H7 ⟨q, ws, b', x4, x5, rfl, hq, g, l, le, P7, b7⟩
          have i2 : r.toNat * (gb + 20) ≤ 2 * (gb + 20) := Nat.mul_le_mul_right _ lr
          exact ⟨_, rfl, k q ws H7 b' hq g (by omega) (P7.mono (by omega)) le b7⟩
theorem ok_GOt {f : Addr} {fd : FuncData} (F : Fun K "_law_other" "_law_other" sGOt f fd) (T : TxG4 mg) (GD : Has P w K mg base CX0 2 "_law_draw" PDraw spDraw) : FnOk P w K mg base CX0 3 f fd PGOt spGOt := by
  refine F.ok scGOt (fun vs H Q E h => ?_) (fun cdv A outer s H vs Q E hr h => ?_)
  · obtain ⟨p, c, q, lim, n, ws, rfl, _⟩ := h
    rfl
  · obtain ⟨p, c, q, lim, n, ws, rfl, P0, hn, hq, hl, k⟩ := h
    refine ⟨_, (pss_cons (ps_set (i := 2) scGOt.nd rfl (Or.inl rfl) (pe_lst (pa_cons pe_str (pa_cons pe_str (pa_cons pe_str (pa_cons pe_str (pa_cons pe_str (pa_cons pe_str (pa_cons pe_str (pa_cons pe_str (pa_cons pe_str (pa_cons pe_str (pa_cons pe_str (pa_cons pe_str (pa_cons pe_str (pa_cons pe_str (pa_cons pe_str pa_nil)))))))))))))))))
  (pss_cons (ps_set (i := 2) scGOt.nd rfl (Or.inl rfl) (pe_op op_cat (pv 2) (pe_lst (pa_cons pe_str (pa_cons pe_str (pa_cons pe_str (pa_cons pe_str (pa_cons pe_str (pa_cons pe_str (pa_cons pe_str (pa_cons pe_str (pa_cons pe_str (pa_cons pe_str (pa_cons pe_str pa_nil))))))))))))))
  (pss_cons (ps_set (i := 2) scGOt.nd rfl (Or.inl rfl) (pe_op op_cat (pv 2) (pe_lst (pa_cons pe_str (pa_cons pe_str (pa_cons pe_str (pa_cons pe_str (pa_cons pe_str pa_nil))))))))
  (pss_cons (ps_if (PW.pt (pw_and (pt_cmpR op_eq (pe_callH GD hr rfl pass0 (pa_cons (pv 0) (pa_cons pe_int pa_nil))) pe_int (nomark _)) (pw_and1 (pt_cmpR op_gt (pe_callB call_len_seq (by rfl) T.n_len bb_len (pa_cons (pv 1) pa_nil)) pe_int (nomark _)))))
  (pss_one (ps_ret (pe_ix (r := rIxL K) ix_list (pv 1) (pe_callH GD hr rfl pass0 (pa_cons (pv 0) (pa_cons (pe_callB call_len_seq (by rfl) T.n_len bb_len (pa_cons (pv 1) pa_nil)) pa_nil))) (fun _ _ => rfl))))
  pss_nil)
  (pss_one (ps_ret (pe_ix (r := rIxL K) ix_list (pv 2) (pe_callH GD hr rfl pass0 (pa_cons (pv 0) (pa_cons (pe_callB call_len_seq (by rfl) T.n_len bb_len (pa_cons (pv 2) pa_nil)) pa_nil))) (fun _ _ => rfl)))))))), ?_⟩
    refine ⟨(by show 15 ≤ sizeLine; decide), fun q1 nq1 => ?_⟩
    have sq1 := same_new (o := .lst [V.str "(", V.str ")", V.str "{", V.str "}", V.str ",", V.str "=", V.str "+", V.str "-", V.str "*", V.str "&", V.str "?", V.str "0", V.str "12", V.str "q", V.str "q7"]) nq1
    have hq1 : LsW (upd H q1 (.lst [V.str "(", V.str ")", V.str "{", V.str "}", V.str ",", V.str "=", V.str "+", V.str "-", V.str "*", V.str "&", V.str "?", V.str "0", V.str "12", V.str "q", V.str "q7"])) p c q1 [("(" : Str), (")" : Str), ("{" : Str), ("}" : Str), ("," : Str), ("=" : Str), ("+" : Str), ("-" : Str), ("*" : Str), ("&" : Str), ("?" : Str), ("0" : Str), ("12" : Str), ("q" : Str), ("q7" : Str)] := ⟨upd_same, P0.ne1 nq1, P0.ne2 nq1⟩
    have P1 := P0.same sq1
    generalize upd H q1 (.lst [V.str "(", V.str ")", V.str "{", V.str "}", V.str ",", V.str "=", V.str "+", V.str "-", V.str "*", V.str "&", V.str "?", V.str "0", V.str "12", V.str "q", V.str "q7"]) = H1 at *
    refine ⟨_, rfl, ?_⟩
    refine ⟨(by show 11 ≤ sizeLine; decide), fun q2 nq2 => ?_⟩
    have sq2 := same_new (o := .lst [V.str "globals", V.str "kinds", V.str "keep", V.str "def", V.str "if", V.str "else", V.str "while", V.str "risk", V.str "raise", V.str "try", V.str "except"]) nq2
    have hq2 : LsW (upd H1 q2 (.lst [V.str "globals", V.str "kinds", V.str "keep", V.str "def", V.str "if", V.str "else", V.str "while", V.str "risk", V.str "raise", V.str "try", V.str "except"])) p c q2 [("globals" : Str), ("kinds" : Str), ("keep" : Str), ("def" : Str), ("if" : Str), ("else" : Str), ("while" : Str), ("risk" : Str), ("raise" : Str), ("try" : Str), ("except" : Str)] := ⟨upd_same, P1.ne1 nq2, P1.ne2 nq2⟩
    have P2 := P1.same sq2
    generalize upd H1 q2 (.lst [V.str "globals", V.str "kinds", V.str "keep", V.str "def", V.str "if", V.str "else", V.str "while", V.str "risk", V.str "raise", V.str "try", V.str "except"]) = H2 at *
    refine cat_new P2 (hq1.same sq2) hq2 (by decide) fun q3 H3 s3 hq3 => ?_
    have P3 := P2.same s3
    refine ⟨_, rfl, ?_⟩
    refine ⟨(by show 5 ≤ sizeLine; decide), fun q4 nq4 => ?_⟩
    have sq4 := same_new (o := .lst [V.str "finally", V.str "undo", V.str "with", V.str "swallow", V.str "return"]) nq4
    have hq4 : LsW (upd H3 q4 (.lst [V.str "finally", V.str "undo", V.str "with", V.str "swallow", V.str "return"])) p c q4 [("finally" : Str), ("undo" : Str), ("with" : Str), ("swallow" : Str), ("return" : Str)] := ⟨upd_same, P3.ne1 nq4, P3.ne2 nq4⟩
    have P4 := P3.same sq4
    generalize upd H3 q4 (.lst [V.str "finally", V.str "undo", V.str "with", V.str "swallow", V.str "return"]) = H4 at *
    refine cat_new P4 (hq3.same sq4) hq4 (by decide) fun q5 H5 s5 hq5 => ?_
    have P5 := P4.same s5
    have b5 : But p c H H5 := (But.ofs sq1).trans ((But.ofs sq2).trans ((But.ofs s3).trans ((But.ofs sq4).trans (.ofs s5))))
    generalize hW : (([("(" : Str), ")", "{", "}", ",", "=", "+", "-", "*", "&", "?", "0", "12", "q", "q7"] ++ [("globals" : Str), "kinds", "keep", "def", "if", "else", "while", "risk", "raise", "try", "except"]) ++ [("finally" : Str), "undo", "with", "swallow", "return"] : List Str) = W at *
    have lW : W.length = 31 := by rw [← hW]; rfl
    have fW : ∀ x ∈ W, x ∈ FIX := by rw [← hW]; decide +kernel
    have word : ∀ {D : Ends} {H6 : Hp} {n6 : Nat}, D.rt = Q → PoolAt H6 p c lim n6 → n6 + 1 ≤ n + 2 → But p c H5 H6 → tRet (tOp (rIxL K) (tVar 2) (tCall spDraw [] E0 (tCons (tVar 0) (tCons (tCB (rLnS K) (tCons (tVar 2) tNil)) tNil)))) D [some (.ref p), some (.ref q), some (.ref q5)] H6 := fun {D H6 n6} eD P6 hn6 b6 => by
      have lWv : (W.map V.str).length = 31 := by rw [List.length_map]; exact lW
      refine ⟨_, rfl, _, rfl, _, rfl, q5, _, rfl, .inl (SqL.of (hq5.but b6).e), p, c, lim, _, _, rfl, P6, by omega, by rw [lWv]; decide, by rw [lWv]; decide, fun r H7 r0 r1 P7 b7 => ?_⟩
      rw [lWv] at r1
      obtain ⟨x, hx, ax⟩ := at_nm (N := W) r0 (by rw [lW]; exact r1)
      refine ⟨q5, _, r, _, rfl, rfl, SqL.of ((hq5.but b6).but b7).e, ax, ?_⟩
      show D.rt _ _
      rw [eD]
      exact k x H7 (.inr (fW x hx)) (P7.mono (by omega)) (b5.trans (b6.trans b7))
    refine ⟨_, rfl, p, c, lim, _, 4, rfl, P5, by omega, by decide, by decide, fun r H6 r0 r1 P6 b6 => ⟨rfl, _, rfl, ?_⟩⟩
    by_cases z : r = 0
    · refine iteS (decide_eq_true (by rw [z])) ?_
      refine ⟨_, rfl, q, _, rfl, .inl (SqL.of (hq.but (b5.trans b6)).e), _, _, rfl, rfl, _, rfl, ?_⟩
      have lq : (ws.map V.str).length = ws.length := by rw [List.length_map]
      by_cases y : 0 < ws.length
      · refine iteS (decide_eq_true (by rw [lq]; omega)) ?_
        refine ⟨_, rfl, _, rfl, _, rfl, q, _, rfl, .inl (SqL.of (hq.but (b5.trans b6)).e), p, c, lim, _, _, rfl, P6, by omega, by rw [lq]; omega, by rw [lq]; omega, fun t H7 t0 t1 P7 b7 => ?_⟩
        rw [lq] at t1
        obtain ⟨x, hx, ax⟩ := at_nm (N := ws) t0 t1
        refine ⟨q, _, t, _, rfl, rfl, SqL.of ((hq.but (b5.trans b6)).but b7).e, ax, ?_⟩
        exact k x H7 (.inl hx) (P7.mono (by omega)) (b5.trans (b6.trans b7))
      · refine iteE (decide_eq_false (by rw [lq]; omega)) ?_
        exact word rfl P6 (by omega) b6
    · refine iteE (decide_eq_false fun e => z (V.int.inj e)) (iteF ?_)
      exact word rfl P6 (by omega) b6
end

/-! ### k04: words, their text, their tokens and places -/
inductive Tkp : Nat → List Nat → Tl → Prop
  | fin {p : Nat} : Tkp p [] [("end", "", p)]
  | gap {p c : Nat} {t : List Nat} {ts : Tl} (hc : c = 32 ∨ c = 10) (r : Tkp (p + 1) t ts) : Tkp p (c :: t) ts
  | sign {p c : Nat} {t : List Nat} {ts : Tl} (hc : c ∈ SIG.cps.toList) (r : Tkp (p + 1) t ts) : Tkp p (c :: t) (("mark", (⟨#[c]⟩ : Str), p) :: ts)
  | word {p : Nat} {w t : List Nat} {ts : Tl} (hw : w ≠ []) (ha : ∀ c ∈ w, al c = true) (hk : kindOf ⟨w.toArray⟩ ≠ "bad") (hn : NoAl t) (r : Tkp (p + w.length) t ts) : Tkp p (w ++ t) ((kindOf ⟨w.toArray⟩, (⟨w.toArray⟩ : Str), p) :: ts)
  | char {p c : Nat} {t : List Nat} (hc : Plain c) (ha : al c = false) : Tkp p (c :: t) [badT p]
  | bad {p : Nat} {w t : List Nat} (hw : w ≠ []) (ha : ∀ c ∈ w, al c = true) (hk : kindOf ⟨w.toArray⟩ = "bad") (hn : NoAl t) : Tkp p (w ++ t) [badT p]
theorem word_run (p : List Nat) {w t : List Nat} (hw : w ≠ []) (ha : ∀ c ∈ w, al c = true) (hn : NoAl t) : Run (p ++ (w ++ t)) p.length (p.length + w.length) ∧ cutT (p ++ (w ++ t)) p.length (p.length + w.length) = ⟨w.toArray⟩ ∧ ∃ c, (p ++ (w ++ t))[p.length]? = some c ∧ Plain c := by
  have wl : 0 < w.length := List.length_pos_iff.mpr hw
  have cut : cutT (p ++ (w ++ t)) p.length (p.length + w.length) = ⟨w.toArray⟩ := by
    unfold cutT
    rw [List.drop_left, Nat.add_sub_cancel_left, List.take_left]
  have at_w : ∀ x, p.length ≤ x → x < p.length + w.length → (p ++ (w ++ t))[x]? = w[x - p.length]? := fun x h1 h2 => by
    rw [List.getElem?_append_right h1, List.getElem?_append_left (by omega)]
  obtain ⟨c, hc⟩ : ∃ c, w[0]? = some c := ⟨_, List.getElem?_eq_getElem wl⟩
  refine ⟨⟨by omega, by rw [List.length_append, List.length_append]; omega, fun x h1 h2 => ?_, fun c hc => ?_⟩, cut, c, by rw [at_w _ (Nat.le_refl _) (by omega), Nat.sub_self]; exact hc, al_plain (ha c (List.mem_of_getElem? hc))⟩
  · have hx : x - p.length < w.length := by omega
    exact ⟨_, by rw [at_w x h1 h2]; exact List.getElem?_eq_getElem hx, ha _ (List.getElem_mem hx)⟩
  · rw [List.getElem?_append_right (by omega), Nat.add_sub_cancel_left, List.getElem?_append_right (Nat.le_refl _), Nat.sub_self] at hc
    exact hn c hc
theorem Tkp.tkz {p : Nat} {s : List Nat} {ts : Tl} (h : Tkp p s ts) : ∀ pre : List Nat, pre.length = p → Tkz (pre ++ s) p ts := by
  induction h with
  | fin => exact fun pre e => .fin (by rw [List.append_nil, e])
  | @gap p c t ts hc _ ih =>
    intro pre e
    subst e
    have := ih (pre ++ [c]) (by rw [List.length_append]; rfl)
    rw [List.append_assoc] at this
    exact .gap (mid_get pre t c) hc this
  | @sign p c t ts hc _ ih =>
    intro pre e
    subst e
    have := ih (pre ++ [c]) (by rw [List.length_append]; rfl)
    rw [List.append_assoc] at this
    exact .sign (mid_get pre t c) hc this
  | @word p w t ts hw ha hk hn _ ih =>
    intro pre e
    subst e
    have k := ih (pre ++ w) (by rw [List.length_append])
    rw [List.append_assoc] at k
    obtain ⟨run, cut, c, hc, pl⟩ := word_run pre hw ha hn
    have wl : 0 < w.length := List.length_pos_iff.mpr hw
    have tk := Tkz.word (t := pre ++ (w ++ t)) (a := pre.length) (j := pre.length + w.length) (c := c) hc pl run (by omega) (by rw [cut]; exact hk) k
    rw [cut] at tk
    exact tk
  | @char p c t hc ha =>
    intro pre e
    subst e
    refine .bad (j := pre.length) (mid_get pre t c) hc ⟨Nat.le_refl _, by rw [List.length_append]; omega, fun x h1 h2 => by omega, fun d hd => ?_⟩ (.inl rfl)
    rw [mid_get] at hd
    cases hd
    exact ha
  | @bad p w t hw ha hk hn =>
    intro pre e
    subst e
    obtain ⟨run, cut, c, hc, pl⟩ := word_run pre hw ha hn
    exact .bad hc pl run (.inr (by rw [cut]; exact hk))
theorem tok_put {y : Str × Str} {p : Nat} {t : List Nat} {ts : Tl} (g : TokG y) (hn : NoAl t) (r : Tkp (p + y.2.length) t ts) : Tkp p (TL.tl y.2 ++ t) ((y.1, y.2, p) :: ts) := by
  rcases g with ⟨c, hc, rfl⟩ | ⟨h1, h2, h3, h4⟩
  · exact .sign hc r
  · obtain ⟨k, w⟩ := y
    have h3 : kindOf w = k := h3
    subst h3
    have := Tkp.word (p := p) h1 h2 (by rw [str_tl]; exact h4) hn (by rw [← TL.len_tl]; exact r)
    rw [str_tl] at this
    exact this
def SIGS : List Str := SIG.cps.toList.map fun c => (⟨#[c]⟩ : Str)
def kindW (w : Str) : Str := if w ∈ SIGS then "mark" else kindOf w
/-- a word that the law writes -/
structure WdOk (W : List Str) (w : Str) : Prop where
  g : TokG (kindW w, w)
  l : w.length ≤ 10
  n : kindW w = "name" → w ∈ W
  d : kindW w = "number" → ∃ n, PySem.intText? w = some n
def okB (w : Str) : Bool := (decide (w ∈ SIGS) || (!(TL.tl w).isEmpty && (TL.tl w).all al && decide (kindOf w ≠ "bad"))) && decide (w.length ≤ 10) && (decide (kindW w ≠ "name") || decide (w = "q" ∨ w = "q7")) && (decide (kindW w ≠ "number") || (PySem.intText? w).isSome)
theorem fix_ok : ∀ w ∈ FIX, okB w = true := by decide +kernel
theorem wd_of {W : List Str} {w : Str} (h : okB w = true) (hq : ("q" : Str) ∈ W) (hq7 : ("q7" : Str) ∈ W) : WdOk W w := by
  unfold okB at h
  simp only [Bool.and_eq_true, Bool.or_eq_true, decide_eq_true_eq] at h
  obtain ⟨⟨⟨h1, h2⟩, h3⟩, h4⟩ := h
  refine ⟨?_, h2, fun z => ?_, fun z => ?_⟩
  · unfold kindW
    by_cases s : w ∈ SIGS
    · rw [if_pos s]
      obtain ⟨c, hc, rfl⟩ := List.mem_map.mp s
      exact .inl ⟨c, hc, rfl⟩
    · rw [if_neg s]
      rcases h1 with h1 | ⟨⟨h1, h5⟩, h6⟩
      · exact absurd h1 s
      · refine .inr ⟨fun z => ?_, List.all_eq_true.mp h5, rfl, h6⟩
        have z : TL.tl w = [] := z
        rw [z] at h1
        exact absurd h1 (by decide)
  · rcases h3 with h3 | h3 | h3
    · exact absurd z h3
    · rw [h3]; exact hq
    · rw [h3]; exact hq7
  · rcases h4 with h4 | h4
    · exact absurd z h4
    · exact Option.isSome_iff_exists.mp h4
theorem sigs_al : ∀ w ∈ SIGS, (TL.tl w).all al = false := by decide +kernel
theorem wd_nm {W : List Str} {w : Str} (h : isName w = true) (l : w.length ≤ 10) (hw : w ∈ W) : WdOk W w := by
  obtain ⟨h1, h2, h3⟩ := name_al h
  have k : kindW w = "name" := by
    unfold kindW
    rw [if_neg (fun z => by have := sigs_al w z; rw [List.all_eq_true.mpr h2] at this; cases this), h3]
  refine ⟨?_, l, fun _ => hw, fun z => ?_⟩
  · rw [k]
    exact .inr ⟨h1, h2, h3, by show ("name" : Str) ≠ "bad"; decide +kernel⟩
  · rw [k] at z
    exact absurd z (by decide +kernel)
/-- the words of the law are in order -/
theorem wd_all {N ws : List Str} (nn : NmN N) (h : ∀ w ∈ ws, w ∈ N ∨ w ∈ FIX) : ∀ w ∈ ws, WdOk (N ++ [("q" : Str), "q7"]) w := fun w hw => by
  rcases h w hw with z | z
  · exact wd_nm (nn.nm w z).1 (nn.nm w z).2 (List.mem_append_left _ z)
  · exact wd_of (fix_ok w z) (List.mem_append_right _ (by decide +kernel)) (List.mem_append_right _ (by decide +kernel))
/-- the tokens of words -/
def tkW (g : Nat) : Nat → List Str → Tl
  | p, [] => [("end", "", p)]
  | p, w :: r => (kindW w, w, p) :: tkW g (p + w.length + g) r
def txW (gp : List Nat) : List Str → List Nat
  | [] => []
  | w :: r => TL.tl w ++ (gp ++ txW gp r)
def plW (g : Nat) : Nat → List Str → List Nat
  | p, [] => [p]
  | p, w :: r => p :: plW g (p + w.length + g) r
theorem gap_put {t : List Nat} {ts : Tl} : ∀ {gp : List Nat} {p : Nat}, (∀ c ∈ gp, c = 32 ∨ c = 10) → Tkp (p + gp.length) t ts → Tkp p (gp ++ t) ts
  | [], _, _, r => r
  | c :: gp, p, h, r => .gap (h c List.mem_cons_self) (gap_put (fun x hx => h x (List.mem_cons_of_mem _ hx)) (by rw [Nat.add_assoc, Nat.add_comm 1]; exact r))
theorem tkp_w {W : List Str} {gp : List Nat} (hg : ∀ c ∈ gp, c = 32 ∨ c = 10) (ng : gp ≠ []) : ∀ {ws : List Str} {p : Nat}, (∀ w ∈ ws, WdOk W w) → Tkp p (txW gp ws) (tkW gp.length p ws)
  | [], _, _ => .fin
  | w :: r, p, h => by
    refine tok_put (y := (kindW w, w)) (h w List.mem_cons_self).g (fun c hc => ?_) (gap_put hg (tkp_w hg ng fun x hx => h x (List.mem_cons_of_mem _ hx)))
    cases gp with
    | nil => exact absurd rfl ng
    | cons d gp =>
      have e : d = c := Option.some.inj hc
      rw [← e]
      rcases hg d List.mem_cons_self with z | z <;> (rw [z]; decide +kernel)
theorem tkW_split {W : List Str} {g : Nat} : ∀ {ws : List Str} {p : Nat}, (∀ w ∈ ws, WdOk W w) → ∃ (P : Tl) (e : Nat), tkW g p ws = P ++ [(("end", "", e) : TK)] ∧ (∀ k ∈ P, TokG (k.1, k.2.1) ∧ k.2.1.length ≤ 1000) ∧ P.length = ws.length ∧ P.map (fun k => k.2.1) = ws
  | [], p, _ => ⟨[], p, rfl, (fun _ z => nomatch z), rfl, rfl⟩
  | w :: r, p, h => by
    obtain ⟨P, e, h1, h2, h3, h4⟩ := tkW_split (p := p + w.length + g) fun x hx => h x (List.mem_cons_of_mem _ hx)
    have hw := h w List.mem_cons_self
    refine ⟨(kindW w, w, p) :: P, e, by show _ :: tkW _ _ _ = _; rw [h1]; rfl, fun k hk => ?_, by show _ + 1 = _ + 1; rw [h3], by show _ :: _ = _; rw [h4]⟩
    rcases List.mem_cons.mp hk with rfl | z
    · exact ⟨hw.g, by show w.length ≤ 1000; have := hw.l; omega⟩
    · exact h2 k z
theorem wfT_w {W ws : List Str} {g p : Nat} (h : ∀ w ∈ ws, WdOk W w) (hl : ws.length ≤ 1000000) : WfT (tkW g p ws) ∧ wsOf (tkW g p ws) = ws ∧ (tkW g p ws).length = ws.length + 1 := by
  obtain ⟨P, e, h1, h2, h3, h4⟩ := tkW_split (g := g) (p := p) h
  refine ⟨⟨P, e, h1, h2, by omega⟩, by rw [h1, ws_app, h4], by rw [h1, List.length_append, h3]; rfl⟩
theorem tkW_mem {W : List Str} {g : Nat} : ∀ {ws : List Str} {p : Nat}, (∀ w ∈ ws, WdOk W w) → ∀ k ∈ tkW g p ws, k.1 = "end" ∨ (k.1 = kindW k.2.1 ∧ WdOk W k.2.1)
  | [], p, _ => fun k hk => .inl (by rw [List.mem_singleton.mp hk])
  | w :: r, p, h => fun k hk => by
    rcases List.mem_cons.mp hk with rfl | z
    · exact .inr ⟨rfl, h w List.mem_cons_self⟩
    · exact tkW_mem (fun x hx => h x (List.mem_cons_of_mem _ hx)) k z
theorem tsOk_w {W ws : List Str} {g p : Nat} (h : ∀ w ∈ ws, WdOk W w) (hl : ws.length ≤ 1000000) (hW : W.length < 50) : TsOk (tkW g p ws) ∧ Sh (tkW g p ws) := by
  have ne1 : ("end" : Str) ≠ "name" := by decide +kernel
  have ne2 : ("end" : Str) ≠ "number" := by decide +kernel
  refine ⟨⟨by rw [(wfT_w h hl).2.2]; omega, ⟨W, hW, fun x ⟨k, hk, h1, h2⟩ => ?_⟩, fun k hk e => ?_⟩, fun k hk e => ?_⟩
  · rcases tkW_mem h k hk with z | ⟨z, wd⟩
    · exact absurd (z.symm.trans h1) ne1
    · rw [← h2]; exact wd.n (z ▸ h1)
  · rcases tkW_mem h k hk with z | ⟨z, wd⟩
    · exact absurd (z.symm.trans e) ne2
    · exact ⟨by have := wd.l; omega, fun _ => wd.d (z ▸ e)⟩
  · rcases tkW_mem h k hk with z | ⟨z, wd⟩
    · exact absurd (z.symm.trans e) ne2
    · have := wd.l; omega
theorem kindW_br : kindW "{" = "mark" ∧ kindW "}" = "mark" := by decide +kernel
theorem isW_tkW {g p : Nat} {w b : Str} {r : List Str} (hb : kindW b = "mark") : isW b ((kindW w, w, p) :: tkW g (p + w.length + g) r) = decide (w = b) := by
  show (decide (kindW w = "mark") && decide (w = b)) = _
  by_cases e : w = b
  · rw [e, hb]; rfl
  · rw [decide_eq_false e, Bool.and_false]
theorem bd_w {g : Nat} : ∀ {ws : List Str} {m p : Nat}, BdW m ws → Bd m (tkW g p ws)
  | [], m, p, _ => by
    have e1 : isW "{" [(("end", "", p) : TK)] = false := by
      show (decide (("end" : Str) = "mark") && _) = false
      rw [decide_eq_false (by decide +kernel : ¬ ("end" : Str) = "mark")]; rfl
    have e2 : isW "}" [(("end", "", p) : TK)] = false := by
      show (decide (("end" : Str) = "mark") && _) = false
      rw [decide_eq_false (by decide +kernel : ¬ ("end" : Str) = "mark")]; rfl
    show Bd m [(("end", "", p) : TK)]
    unfold Bd
    rw [if_neg (by rw [e1]; decide), if_neg (by rw [e2]; decide)]
    trivial
  | w :: r, m, p, h => by
    show Bd m ((kindW w, w, p) :: tkW g (p + w.length + g) r)
    unfold Bd
    rcases bdW_inv h with ⟨rfl, m', rfl, k⟩ | ⟨rfl, k⟩ | ⟨e1, e2, k⟩
    · rw [if_pos (by rw [isW_tkW kindW_br.1]; exact decide_eq_true rfl)]
      exact ⟨m', rfl, bd_w k⟩
    · rw [if_neg (by rw [isW_tkW kindW_br.1, decide_eq_false br_ne.symm]; decide), if_pos (by rw [isW_tkW kindW_br.2]; exact decide_eq_true rfl)]
      exact bd_w k
    · rw [if_neg (by rw [isW_tkW kindW_br.1, decide_eq_false e1]; decide), if_neg (by rw [isW_tkW kindW_br.2, decide_eq_false e2]; decide)]
      exact bd_w k
theorem plW_len {g : Nat} : ∀ {ws : List Str} {p : Nat}, (plW g p ws).length = ws.length + 1
  | [], _ => rfl
  | _ :: r, p => by show (plW g _ r).length + 1 = _; rw [plW_len]; rfl
/-- the places of the tokens -/
theorem pos_w {g : Nat} : ∀ {ws : List Str} {p i : Nat}, i < ws.length + 1 → (plW g p ws)[i]? = some (posH ((tkW g p ws).drop i))
  | [], p, 0, _ => rfl
  | [], p, i + 1, h => by exact absurd h (by show ¬ i + 1 < 0 + 1; omega)
  | w :: r, p, 0, _ => rfl
  | w :: r, p, i + 1, h => by
    show (plW g _ r)[i]? = some (posH ((tkW g _ r).drop i))
    exact pos_w (by have h : i + 1 < r.length + 1 + 1 := h; omega)
theorem txW_snoc {gp : List Nat} {w : Str} : ∀ {ws : List Str}, txW gp (ws ++ [w]) = txW gp ws ++ (TL.tl w ++ gp)
  | [] => by show TL.tl w ++ (gp ++ []) = _; rw [List.append_nil]; rfl
  | x :: r => by show TL.tl x ++ (gp ++ txW gp (r ++ [w])) = _; rw [txW_snoc]; show _ = (TL.tl x ++ (gp ++ txW gp r)) ++ _; simp
theorem plW_take {g : Nat} {gp : List Nat} (hg : gp.length = g) : ∀ {ws : List Str} {p i : Nat}, i ≤ ws.length → (plW g p ws)[i]? = some (p + (txW gp (ws.take i)).length)
  | [], p, 0, _ => rfl
  | [], p, i + 1, h => by exact absurd h (by show ¬ i + 1 ≤ 0; omega)
  | w :: r, p, 0, _ => rfl
  | w :: r, p, i + 1, h => by
    show (plW g _ r)[i]? = _
    rw [plW_take hg (by have h : i + 1 ≤ r.length + 1 := h; omega)]
    show some _ = some (p + (TL.tl w ++ (gp ++ txW gp (r.take i))).length)
    rw [List.length_append, List.length_append, hg, TL.len_tl]
    congr 1
    omega
theorem txW_le {W : List Str} {gp : List Nat} : ∀ {ws : List Str}, (∀ w ∈ ws, WdOk W w) → (txW gp ws).length ≤ ws.length * (10 + gp.length)
  | [], _ => Nat.zero_le _
  | w :: r, h => by
    have := txW_le (gp := gp) fun x hx => h x (List.mem_cons_of_mem _ hx)
    have l := (h w List.mem_cons_self).l
    show (TL.tl w ++ (gp ++ txW gp r)).length ≤ (r.length + 1) * _
    rw [List.length_append, List.length_append, ← TL.len_tl, Nat.succ_mul]
    omega

/-! ### e.f in a suite that takes several classes -/
def tXfG (K : PySem.W.Frag) (a : Addr) (cls : Value) (d : Option Addr) (f : Str) (te : TE) : TE := fun σ H Q => te σ H fun x H1 => x = .ref a ∧ ∃ (C dd : Addr) (fs : List (Str × V)) (v : V), cls = .ref C ∧ XfC K C ∧ PySem.W.findIn K (.ref C) f = some none ∧ d = some dd ∧ H1 dd = some (.xd fs) ∧ fs.lookup f = some v ∧ Q v H1
theorem pe_xfG {X : Cx} {a : Addr} {oe : Obj} {cls : Value} {d : Option Addr} {pn : List (Addr × Obj)} {e : Expr} {te : TE} {pos : Pos} {n : Str} (hz : L2N.Zn cls d oe) (hf : ∃ vs, oe.data = .fields vs) (he : PE (X.suite a ((a, oe) :: pn)) e te)
    (hb : attributeBase e n X.env (eval e X.env) = eval e X.env := by rfl) : PE (X.suite a ((a, oe) :: pn)) (.Attribute e n pos) (tXfG X.K a cls d n te) := by
  refine ⟨fun pins s σ H Q I h => attr_of hb (thn (he.run pins s σ H _ I h) fun u s1 ⟨x, H1, I1, rx, ex, C, dd, fs, v, ec, T, hno, ed, ea, l, q⟩ => ?_)⟩
  subst ex ec ed
  obtain rfl : u = Value.ref a := rx
  obtain ⟨vs, hd⟩ := hf
  obtain ⟨mA, hns, hr⟩ := (show ObjOk X.prog X.w H1 s1.heap dd (.xd fs) from I1.hok dd _ ea)
  obtain ⟨od, ho, hl⟩ := lookIn_ns hns
  obtain ⟨u, hu, ru⟩ := RelO.some_of (v := v) (o := mA n) (by rw [← l]; exact hr n)
  exact HandSPX.exc_get I1.kIn ⟨(I1.pin (a, oe) (List.mem_append_left _ List.mem_cons_self)).1, hz.1, by unfold PySem.W.notCls; rw [hd] <;> rfl, by rw [hz.2.1]; exact ho⟩ T.ga T.gg T.exC (PySem.W.findObj_own T.hdC hno rfl (by rw [hl, hu])) (handed_of ru) ⟨v, H1, I1.tok _, ru, q⟩
theorem HasX.mg {P : Program} {w : World} {K : PySem.W.Frag} {mg : Str → Option Value} {base : Heap} {k : Nat} {x : Str} {C : Addr} {f : Str} (h : HasX P w K mg base k x C f) : mg x = some (.ref C) := by
  obtain ⟨_, _, _, _, _, _, _, m, _⟩ := h.ex
  exact m

theorem exm_one {K : PySem.W.Frag} {cls c : Value} {b : Bool} (h : PySem.W.exmOne K cls c = some b) : PySem.W.exmAny K cls [c] = some b := by
  unfold PySem.W.exmAny
  rw [h]
  cases b <;> rfl

/-! ### k04: the edits of the law -/
theorem slU {K : PySem.W.Frag} {p c q : Addr} {lim : V} {n a : Nat} {ws : List Str} {σ : L2.St} {H : Hp} {Q : VK} (e5 : σ[5]? = some (some (.ref q))) (e6 : σ[6]? = some (some (.int (a : Nat)))) (P : PoolAt H p c lim n) (hq : LsW H p c q ws) (k : ∀ r H', Same H H' → LsW H' p c r (ws.take a) → Q (.ref r) H') : tSl (rSlL K) (tVar 5) tNoPart (tPart (tVar 6)) σ H Q := by
  refine ⟨_, e5, _, e6, _, rfl, q, _, rfl, SqL.of hq.e, fun r nr => ?_⟩
  rw [cut_take, ← List.map_take]
  exact k r _ (same_new nr) (.new P nr)
theorem slD {K : PySem.W.Frag} {p c q : Addr} {lim : V} {n a : Nat} {ws : List Str} {σ : L2.St} {H : Hp} {Q : VK} (e5 : σ[5]? = some (some (.ref q))) (e6 : σ[6]? = some (some (.int (a : Nat)))) (P : PoolAt H p c lim n) (hq : LsW H p c q ws) (k : ∀ r H', Same H H' → LsW H' p c r (ws.drop a) → Q (.ref r) H') : tSl (rSlL K) (tVar 5) (tPart (tVar 6)) tNoPart σ H Q := by
  refine ⟨_, e5, _, e6, _, rfl, q, _, rfl, SqL.of hq.e, fun r nr => ?_⟩
  rw [cut_drop, ← List.map_drop]
  exact k r _ (same_new nr) (.new P nr)
theorem slD1 {K : PySem.W.Frag} {p c q : Addr} {lim : V} {n a : Nat} {ws : List Str} {σ : L2.St} {H : Hp} {Q : VK} (e5 : σ[5]? = some (some (.ref q))) (e6 : σ[6]? = some (some (.int (a : Nat)))) (P : PoolAt H p c lim n) (hq : LsW H p c q ws) (k : ∀ r H', Same H H' → LsW H' p c r (ws.drop (a + 1)) → Q (.ref r) H') : tSl (rSlL K) (tVar 5) (tPart (tOp (rI0 fun i j => V.int (i + j)) (tVar 6) (tC (V.int 1)))) tNoPart σ H Q := by
  refine ⟨_, e5, _, e6, _, _, rfl, rfl, _, rfl, q, _, rfl, SqL.of hq.e, fun r nr => ?_⟩
  rw [show ((a : Nat) : Int) + 1 = ((a + 1 : Nat) : Int) by omega, cut_drop, ← List.map_drop]
  exact k r _ (same_new nr) (.new P nr)
theorem oth1 {p c q : Addr} {lim : V} {n : Nat} {ws : List Str} {σ : L2.St} {H : Hp} {Q : VK} (e1 : σ[1]? = some (some (.ref p))) (e5 : σ[5]? = some (some (.ref q))) (P : PoolAt H p c lim n) (hn : n + 2 ≤ 100000000000) (hq : LsW H p c q ws) (hl : ws.length ≤ 100000) (k : ∀ x r H', x ∈ ws ∨ x ∈ FIX → PoolAt H' p c lim (n + 2) → But p c H H' → LsW H' p c r [x] → Q (.ref r) H') : tLst (tCons (tCall spGOt [] E0 (tCons (tVar 1) (tCons (tVar 5) tNil))) tNil) σ H Q := by
  refine ⟨_, e1, _, e5, p, c, q, lim, n, ws, rfl, P, hn, hq, hl, fun x H1 hx P1 b1 => ⟨(by show 1 ≤ sizeLine; decide), fun r nr => ?_⟩⟩
  have s := same_new (o := .lst [V.str x]) nr
  exact k x r _ hx (P1.same s) (b1.trans (.ofs s)) ⟨upd_same, P1.ne1 nr, P1.ne2 nr⟩
theorem bdW_skip {ws : List Str} {m a : Nat} (h : BdW m ws) : BdW (m + 1) (ws.take a ++ ws.drop (a + 1)) := by
  rw [← List.take_append_drop a ws] at h
  cases e : ws.drop a with
  | nil =>
    rw [show ws.drop (a + 1) = [] by rw [← List.drop_drop, e]; rfl]
    rw [e] at h
    exact h.mono
  | cons y r =>
    rw [show ws.drop (a + 1) = r by rw [← List.drop_drop, e]; rfl]
    rw [e] at h
    exact bdW_del h
/-- what the law may have made of its words -/
structure EdW (N ws : List Str) : Prop where
  w : ∀ x ∈ ws, x ∈ N ∨ x ∈ FIX
  b : BdW 6 ws
  l : ws.length ≤ 4000
theorem edit_ok {K : PySem.W.Frag} {p c q : Addr} {lim : V} {n a : Nat} {N ws : List Str} {s0 : Option V} {x3 x4 : V} {ch : Int} {H : Hp} {D : Ends} {σr : L2.St} (P : PoolAt H p c lim n) (hn : n + 2 ≤ 100000000000) (hq : LsW H p c q ws) (g : ∀ x ∈ ws, x ∈ N ∨ x ∈ FIX) (hb : BdW 4 ws) (hl : ws.length ≤ 3500)
    (k : ∀ q' w' H', PoolAt H' p c lim (n + 2) → LsW H' p c q' w' → EdW N w' → D.nx (s0 :: some (.ref p) :: some (.int ch) :: some x3 :: some x4 :: some (.ref q') :: some (.int (a : Nat)) :: σr) H') :
    tIfS (tTest (tOp (rI0 fun i j => V.bl (decide (i < j))) (tVar 2) (tC (V.int 2)))) (tAsg (tOp rCat (tOp rCat (tSl (rSlL K) (tVar 5) tNoPart (tPart (tVar 6))) (tLst (tCons (tCall spGOt [] E0 (tCons (tVar 1) (tCons (tVar 5) tNil))) tNil))) (tSl (rSlL K) (tVar 5) (tPart (tVar 6)) tNoPart)) (gName 5)) (tIfS (tTest (tOp (rI0 fun i j => V.bl (decide (i < j))) (tVar 2) (tC (V.int 5)))) (tAsg (tOp rCat (tOp rCat (tSl (rSlL K) (tVar 5) tNoPart (tPart (tVar 6))) (tLst (tCons (tCall spGOt [] E0 (tCons (tVar 1) (tCons (tVar 5) tNil))) tNil))) (tSl (rSlL K) (tVar 5) (tPart (tOp (rI0 fun i j => V.int (i + j)) (tVar 6) (tC (V.int 1)))) tNoPart)) (gName 5)) (tIfS (tTest (tOp (rI0 fun i j => V.bl (decide (i < j))) (tVar 2) (tC (V.int 6)))) (tAsg (tOp rCat (tSl (rSlL K) (tVar 5) tNoPart (tPart (tVar 6))) (tSl (rSlL K) (tVar 5) (tPart (tOp (rI0 fun i j => V.int (i + j)) (tVar 6) (tC (V.int 1)))) tNoPart)) (gName 5)) (tIfS (tTest (tOp (rI0 fun i j => V.bl (decide (i < j))) (tVar 2) (tC (V.int 7)))) (tAsg (tSl (rSlL K) (tVar 5) tNoPart (tPart (tVar 6))) (gName 5)) tNext)))
      D (s0 :: some (.ref p) :: some (.int ch) :: some x3 :: some x4 :: some (.ref q) :: some (.int (a : Nat)) :: σr) H := by
  have lt : (ws.take a).length ≤ 3500 := by rw [List.length_take]; omega
  have ld : ∀ b, (ws.drop b).length ≤ 3500 := fun b => by rw [List.length_drop]; omega
  have gx : ∀ {x : Str}, x ∈ ws ∨ x ∈ FIX → x ∈ N ∨ x ∈ FIX := fun h => h.elim (g _) .inr
  have gt : ∀ x ∈ ws.take a, x ∈ N ∨ x ∈ FIX := fun x hx => g x (List.mem_of_mem_take hx)
  have gd : ∀ b, ∀ x ∈ ws.drop b, x ∈ N ∨ x ∈ FIX := fun b x hx => g x (List.mem_of_mem_drop hx)
  have sum : ∀ {A B : List Str} {x : Str}, (∀ y ∈ A, y ∈ N ∨ y ∈ FIX) → (x ∈ N ∨ x ∈ FIX) → (∀ y ∈ B, y ∈ N ∨ y ∈ FIX) → ∀ y ∈ (A ++ [x]) ++ B, y ∈ N ∨ y ∈ FIX := fun hA hx hB y hy => by
    rcases List.mem_append.mp hy with hy | hy
    · rcases List.mem_append.mp hy with hy | hy
      · exact hA y hy
      · rw [List.mem_singleton.mp hy]; exact hx
    · exact hB y hy
  refine ⟨_, rfl, _, _, rfl, rfl, _, rfl, ?_⟩
  by_cases z2 : ch < 2
  · refine iteS (decide_eq_true z2) ?_
    refine slU rfl rfl P hq fun r1 H1 s1 h1 => ?_
    refine oth1 rfl rfl (P.same s1) hn (hq.same s1) (by omega) fun x r2 H2 hx P2 b2 h2 => ?_
    refine cat_new P2 (h1.but b2) h2 (by show _ + 1 ≤ _; omega) fun r3 H3 s3 h3 => ?_
    refine slD rfl rfl (P2.same s3) (((hq.same s1).but b2).same s3) fun r4 H4 s4 h4 => ?_
    refine cat_new ((P2.same s3).same s4) (h3.same s4) h4 (by rw [List.length_append]; have := ld a; show _ + 1 + _ ≤ _; omega) fun r5 H5 s5 h5 => ?_
    refine k r5 _ H5 (((P2.same s3).same s4).same s5) h5 ⟨sum gt (gx hx) (gd a), ?_, by rw [List.length_append, List.length_append, List.length_take, List.length_drop]; show _ + 1 + _ ≤ _; omega⟩
    rw [List.append_assoc]
    exact BdW.mono (bdW_ins (A := ws.take a) (B := ws.drop a) (by rw [List.take_append_drop]; exact hb))
  refine iteE (decide_eq_false z2) ?_
  refine ⟨_, rfl, _, _, rfl, rfl, _, rfl, ?_⟩
  by_cases z5 : ch < 5
  · refine iteS (decide_eq_true z5) ?_
    refine slU rfl rfl P hq fun r1 H1 s1 h1 => ?_
    refine oth1 rfl rfl (P.same s1) hn (hq.same s1) (by omega) fun x r2 H2 hx P2 b2 h2 => ?_
    refine cat_new P2 (h1.but b2) h2 (by show _ + 1 ≤ _; omega) fun r3 H3 s3 h3 => ?_
    refine slD1 rfl rfl (P2.same s3) (((hq.same s1).but b2).same s3) fun r4 H4 s4 h4 => ?_
    refine cat_new ((P2.same s3).same s4) (h3.same s4) h4 (by rw [List.length_append]; have := ld (a + 1); show _ + 1 + _ ≤ _; omega) fun r5 H5 s5 h5 => ?_
    refine k r5 _ H5 (((P2.same s3).same s4).same s5) h5 ⟨sum gt (gx hx) (gd (a + 1)), ?_, by rw [List.length_append, List.length_append, List.length_take, List.length_drop]; show _ + 1 + _ ≤ _; omega⟩
    rw [List.append_assoc]
    exact bdW_ins (bdW_skip hb)
  refine iteE (decide_eq_false z5) ?_
  refine ⟨_, rfl, _, _, rfl, rfl, _, rfl, ?_⟩
  by_cases z6 : ch < 6
  · refine iteS (decide_eq_true z6) ?_
    refine slU rfl rfl P hq fun r1 H1 s1 h1 => ?_
    refine slD1 rfl rfl (P.same s1) (hq.same s1) fun r4 H4 s4 h4 => ?_
    refine cat_new ((P.same s1).same s4) (h1.same s4) h4 (by have := ld (a + 1); omega) fun r5 H5 s5 h5 => ?_
    refine k r5 _ H5 ((((P.same s1).same s4).same s5).mono (by omega)) h5 ⟨fun y hy => (List.mem_append.mp hy).elim (gt y) (gd (a + 1) y), BdW.mono (bdW_skip hb), by rw [List.length_append, List.length_take, List.length_drop]; omega⟩
  refine iteE (decide_eq_false z6) ?_
  refine ⟨_, rfl, _, _, rfl, rfl, _, rfl, ?_⟩
  by_cases z7 : ch < 7
  · refine iteS (decide_eq_true z7) ?_
    refine slU rfl rfl P hq fun r1 H1 s1 h1 => ?_
    exact k r1 _ H1 ((P.same s1).mono (by omega)) h1 ⟨gt, BdW.mono (BdW.mono (bdW_take (B := ws.drop a) (by rw [List.take_append_drop]; exact hb))), by omega⟩
  · refine iteE (decide_eq_false z7) ?_
    exact k q ws H (P.mono (by omega)) hq ⟨g, BdW.mono (BdW.mono hb), by omega⟩

/-! ### k04: the law -/
abbrev sLaw : Stmt := topS 49
abbrev NLaw : List Str := ["_law_script", "_law_pool_here", "_law_choice", "_law_spot", "_law_gap", "_law_tokens", "_law_at", "_law_text", "_law_places", "_law_token", "_law_wrong", "_law_position", "e"]
abbrev PLaw : List Str := ["_law_script"]
theorem scLaw : FnScope NLaw PLaw (defScope sLaw) := ⟨rfl, rfl, rfl, by decide +kernel, rfl, by decide +kernel, by decide +kernel⟩
structure TxL4 (mg : Str → Option Value) : Prop where
  n_len : mg "len" = none
  n_isinstance : mg "isinstance" = none
  n_int : mg "int" = none
  n_bool : mg "bool" = none
theorem pe_callHS {X : Cx} {CX : CXT} {k : Nat} {x : Str} {ps : List Str} {sp : Sp} {E : L2.St → XK} {e : Expr} {es : List Expr} {t : TA} {p pos : Pos} (F : Has X.prog X.w X.K X.mg X.base CX k x ps sp) (hr : Room k X.A) (hg : Gl X x) (hx : ∀ σ, PassesAt CX X σ (E σ)) (ha : PA X (e :: es) t)
    (hd : (x == ("__debug__" : Str)) = false := by decide) (he : starEach (e :: es) X.env = (false, eval e X.env) :: starEach es X.env := by rfl) (hpl : (backTo pos (starEach es X.env)).any (·.1) = false := by rfl) :
    PE X (.Call (.Name x p) (e :: es) [] pos) (tCallS sp E t) := by
  obtain ⟨f, fd, F, m, kp, b⟩ := F.ex
  exact pe_callS F hr hg m kp b hx ha hd he hpl
structure ErrN4 (K : PySem.W.Frag) (C' : Nat → Addr) : Prop where
  ss : PySem.W.exmOne K (.ref (C' 1)) (.ref (C' 1)) = some true
  xS : XfC K (C' 1)
  fS : PySem.W.findIn K (.ref (C' 1)) "position" = some none
def spLaw (K : PySem.W.Frag) : Sp := fun vs H Q _ => ∃ (a : Addr) (ns : List Int), vs = [.ref a] ∧ SqL K H a (ns.map V.int) ∧ ns.length ≤ 63 ∧ ∀ H', Q (.bl true) H'
def GAPS : List Str := [(" " : Str), "\n", "  ", " \n "]
theorem gaps_ok : ∀ g ∈ GAPS, (∀ c ∈ TL.tl g, c = 32 ∨ c = 10) ∧ TL.tl g ≠ [] ∧ (TL.tl g).length ≤ 3 := by decide +kernel
section
variable {P : Program} {w : World} {K : PySem.W.Frag} {mg : Str → Option Value} {base : Heap} {C' : Nat → Addr}
theorem ok_Law {f : Addr} {fd : FuncData} (F : Fun K "law" "law" sLaw f fd) (T : TxL4 mg) (X : ErrH P w K mg base C') (M : ErrN4 K C') (GP : Has P w K mg base CX0 1 "_law_pool" PPool (spPool K)) (GD : Has P w K mg base CX0 2 "_law_draw" PDraw spDraw) (GN : Has P w K mg base CX0 3 "_law_names" PNames spNames) (GG : Has P w K mg base CX0 18 "_law_some_program" PGPg spGPg) (GO : Has P w K mg base CX0 3 "_law_other" PGOt spGOt) (GF : Has P w K mg base CX0 (9 + 3 * 30 + 1 + 1) "_law_first_wrong" PWFst spWFst)
    (GPa : Has P w K mg base (L2N.CX P w) (9 + 3 * 30 + 1 + 1 + 1) "parse" PParse (spParseG K (C' 1) (C' 2) (C' 0))) :
    FnOk P w K mg base CX0 (9 + 3 * 30 + 1 + 1 + 1 + 1) f fd PLaw (spLaw K) := by
  refine F.ok scLaw (fun vs H Q E h => ?_) (fun cdv A outer s H vs Q E hr h => ?_)
  · obtain ⟨a, ns, rfl, _⟩ := h
    rfl
  · obtain ⟨sc, ns, rfl, hS, hl, k⟩ := h
    have hr1 := hr.mono (j := 1) (by decide)
    have hr2 := hr.mono (j := 2) (by decide)
    have hr3 := hr.mono (j := 3) (by decide)
    have hr18 := hr.mono (j := 18) (by decide)
    have hrf := hr.mono (j := 9 + 3 * 30 + 1 + 1) (by decide)
    refine ⟨_, (pss_cons (ps_set (i := 1) scLaw.nd rfl (Or.inl rfl) (pe_callH GP hr1 rfl pass0 (pa_cons (pv 0) pa_nil)))
  (pss_cons (ps_set (i := 2) scLaw.nd rfl (Or.inl rfl) (pe_callH GD hr2 rfl pass0 (pa_cons (pv 1) (pa_cons pe_int pa_nil))))
  (pss_cons (ps_set (i := 3) scLaw.nd rfl (Or.inl rfl) (pe_callH GD hr2 rfl pass0 (pa_cons (pv 1) (pa_cons (pe_op op_pow pe_int pe_int) pa_nil))))
  (pss_cons (ps_set (i := 4) scLaw.nd rfl (Or.inl rfl) (pe_ix (r := rIxL K) ix_list (pe_lst (pa_cons pe_str (pa_cons pe_str (pa_cons pe_str (pa_cons pe_str pa_nil))))) (pe_callH GD hr2 rfl pass0 (pa_cons (pv 1) (pa_cons pe_int pa_nil))) (fun _ _ => rfl)))
  (pss_cons (ps_set (i := 5) scLaw.nd rfl (Or.inl rfl) (pe_callH GG hr18 rfl pass0 (pa_cons (pv 1) (pa_cons (pe_slice sl_list (pe_callH GN hr3 rfl pass0 (pa_cons (pv 1) pa_nil)) po_none (po_some pe_int)) pa_nil))))
  (pss_cons (ps_set (i := 6) scLaw.nd rfl (Or.inl rfl) (pe_op op_mod (pv 3) (pe_op op_add (pe_callB call_len_seq (by rfl) T.n_len bb_len (pa_cons (pv 5) pa_nil)) pe_int)))
  (pss_cons (ps_if (pt_cmpR op_lt (pv 2) pe_int (nomark _))
  (pss_one (ps_set (i := 5) scLaw.nd rfl (Or.inl rfl) (pe_op op_cat (pe_op op_cat (pe_slice sl_list (pv 5) po_none (po_some (pv 6))) (pe_lst (pa_cons (pe_callH GO hr3 rfl pass0 (pa_cons (pv 1) (pa_cons (pv 5) pa_nil))) pa_nil))) (pe_slice sl_list (pv 5) (po_some (pv 6)) po_none))))
  (pss_one (ps_if (pt_cmpR op_lt (pv 2) pe_int (nomark _))
  (pss_one (ps_set (i := 5) scLaw.nd rfl (Or.inl rfl) (pe_op op_cat (pe_op op_cat (pe_slice sl_list (pv 5) po_none (po_some (pv 6))) (pe_lst (pa_cons (pe_callH GO hr3 rfl pass0 (pa_cons (pv 1) (pa_cons (pv 5) pa_nil))) pa_nil))) (pe_slice sl_list (pv 5) (po_some (pe_op op_add (pv 6) pe_int)) po_none))))
  (pss_one (ps_if (pt_cmpR op_lt (pv 2) pe_int (nomark _))
  (pss_one (ps_set (i := 5) scLaw.nd rfl (Or.inl rfl) (pe_op op_cat (pe_slice sl_list (pv 5) po_none (po_some (pv 6))) (pe_slice sl_list (pv 5) (po_some (pe_op op_add (pv 6) pe_int)) po_none))))
  (pss_one (ps_if (pt_cmpR op_lt (pv 2) pe_int (nomark _))
  (pss_one (ps_set (i := 5) scLaw.nd rfl (Or.inl rfl) (pe_slice sl_list (pv 5) po_none (po_some (pv 6)))))
  pss_nil)))))))
  (pss_cons (ps_set (i := 7) scLaw.nd rfl (Or.inl rfl) pe_str)
  (pss_cons (ps_set (i := 8) scLaw.nd rfl (Or.inl rfl) (pe_lst pa_nil))
  (pss_cons (ps_for PassesOwn.never rfl (pi_list (pv 5)) (pg_name (i := 9) scLaw.nd rfl (Or.inl rfl))
  (pss_cons (ps_expr (pe_bm PySem.F.plainAttrs_list PySem.F.slot_list_append PySem.F.type_list_append mt_append (pv 8) (pa_cons (pe_callB call_len_str (by rfl) T.n_len bb_len (pa_cons (pv 7) pa_nil)) pa_nil)))
  (pss_one (ps_set (i := 7) scLaw.nd rfl (Or.inl rfl) (pe_op op_add_str (pe_op op_add_str (pv 7) (pv 9)) (pv 4))))))
  (pss_cons (ps_expr (pe_bm PySem.F.plainAttrs_list PySem.F.slot_list_append PySem.F.type_list_append mt_append (pv 8) (pa_cons (pe_callB call_len_str (by rfl) T.n_len bb_len (pa_cons (pv 7) pa_nil)) pa_nil)))
  (pss_cons (ps_set (i := 10) scLaw.nd rfl (Or.inl rfl) (pe_callH GF hrf rfl pass0 (pa_cons (pv 5) pa_nil)))
  (pss_cons (ps_set (i := 11) scLaw.nd rfl (Or.inl rfl) (pe_un un_neg pe_int))
  (pss_cons (ps_tryX (Wout := fun _ _ _ _ => False) rfl rfl scLaw.nd (fun _ _ x => by obtain ⟨_, _, _, _, _, _, _, _, _, _, _, _, _, _, _, _, z⟩ := x; exact z) (fun W pn xe tk _ => pss_one (ps_expr (pe_callHS GPa hr rfl (L2N.passAt tk) (pa_cons (pv 7) pa_nil))))
 (.named (i := 12) (.one ⟨rfl, by decide, .inl X.h1.mg⟩) rfl rfl (fun a oe cls d pn hz hf => pss_one (ps_set (i := 11) scLaw.nd rfl (Or.inl rfl) (pe_xfG hz hf (pv 12)))) .nil))
  (pss_cons (ps_if (PW.pt (pw_or (pt_val (pe_callB call_isi (by rfl) T.n_isinstance bb_isinstance (pa_cons (pv 11) (pa_cons (pe_bltn (v := .ty "bool") (by rfl) T.n_bool bb_bool rfl) pa_nil)))) (pw_or1 (pt_not (pt_val (pe_callB call_isi (by rfl) T.n_isinstance bb_isinstance (pa_cons (pv 11) (pa_cons (pe_bltn (v := .ty "int") (by rfl) T.n_int bb_int rfl) pa_nil))))))))
  (pss_one (ps_ret pe_bl))
  pss_nil)
  (pss_one (ps_ret (pe_cmpR op_eq (pv 11) (pe_ifExp (pt_cmpR op_eq (pv 10) (pe_un un_neg pe_int) (nomark _)) (pe_un un_neg pe_int) (pe_ix (r := rIxL K) ix_list (pv 8) (pv 10) (fun _ _ => rfl))) (nomark _))))))))))))))))))), ?_⟩
    have e24 : sizeLine = 2 ^ 24 := rfl
    refine ⟨_, rfl, sc, ns, rfl, hS, hl, fun p c H1 s1 np nc P1 => ?_⟩
    have P1 : PoolAt H1 p c (Lim 30) 0 := P1
    refine ⟨_, rfl, p, c, _, 0, 8, rfl, P1, by decide, by decide, by decide, fun ch H2 ch0 ch1 P2 b2 => ?_⟩
    refine ⟨_, rfl, _, _, rfl, rfl, ⟨by decide, by decide, by decide⟩, p, c, _, 1, _, rfl, P2, by decide, by decide, by decide, fun spot H3 sp0 sp1 P3 b3 => ?_⟩
    refine ⟨(by show 4 ≤ sizeLine; decide), fun a1 ha1 => ?_⟩
    have so := same_new (o := .lst (GAPS.map V.str)) ha1
    have l1 : LsW (upd H3 a1 (.lst (GAPS.map V.str))) p c a1 GAPS := .new P3 ha1
    have P3 := P3.same so
    refine ⟨_, rfl, p, c, _, 2, 4, rfl, P3, by decide, by decide, by decide, fun r H4 r0 r1 P4 b4 => ?_⟩
    obtain ⟨gap, hgap, agap⟩ := at_nm (N := GAPS) r0 r1
    obtain ⟨g1, g2, g3⟩ := gaps_ok gap hgap
    refine ⟨a1, _, r, _, rfl, rfl, SqL.of (l1.but b4).e, agap, ?_⟩
    clear l1 so b3 b2
    have c3 : gbC 3 ≤ 1000000 := by decide
    generalize hg3 : gbC 3 = gb3 at *
    refine ⟨_, rfl, _, rfl, p, c, _, _, rfl, P4, by decide, fun wl wsN H5 nok l16 P5 b5 nw ew => ?_⟩
    have hw : LsW H5 p c wl wsN := ⟨ew, P4.ne1 nw, P4.ne2 nw⟩
    refine ⟨_, rfl, wl, _, rfl, SqL.of hw.e, fun nl nnl => ?_⟩
    have ec : cutV (wsN.map V.str) none (some 4) = (wsN.take 4).map V.str := by
      rw [show (4 : Int) = ((4 : Nat) : Int) from rfl, cut_take, List.map_take]
    rw [ec]
    have s6 := same_new (o := .lst ((wsN.take 4).map V.str)) nnl
    have hN : LsW (upd H5 nl (.lst ((wsN.take 4).map V.str))) p c nl (wsN.take 4) := .new P5 nnl
    have P6 := P5.same s6
    have nn : NmN (wsN.take 4) := ⟨fun x hx => ⟨nok.name x (List.mem_of_mem_take hx), by have := nok.len x (List.mem_of_mem_take hx); omega⟩, by rw [List.length_take, l16]; decide⟩
    generalize upd H5 nl (.lst ((wsN.take 4).map V.str)) = H6 at *
    generalize wsN.take 4 = N at *
    refine ⟨p, c, nl, _, 30, N, rfl, P6, by rw [hg3]; omega, by decide, hN, nn, fun q ws H7 b7 hq gw lw P7 le7 bt7 => ?_⟩
    rw [hg3] at P7
    have l7 : ws.length ≤ 3200 := by omega
    refine ⟨_, rfl, _, rfl, q, _, rfl, .inl (SqL.of hq.e), _, _, rfl, rfl, _, _, rfl, rfl, by omega, ?_⟩
    obtain ⟨a, ha⟩ : ∃ a : Nat, spot % (((ws.map V.str).length : Int) + 1) = (a : Nat) := ⟨(spot % (((ws.map V.str).length : Int) + 1)).toNat, (Int.toNat_of_nonneg (Int.emod_nonneg _ (by omega))).symm⟩
    show gName 6 (V.int (spot % (((ws.map V.str).length : Int) + 1))) ([some (.ref sc), some (.ref p), some (.int ch), some (.int spot), some (.str gap), some (.ref q), none, none, none, none, none, none, none] : L2.St) H7 _
    rw [ha]
    clear ha
    refine edit_ok (σr := [none, none, none, none, none, none]) P7 (by omega) hq gw.w gw.b.bd (by omega) fun q ws H8 P8 hq ed => ?_
    refine ⟨(by show 0 ≤ sizeLine; decide), fun pl npl => ?_⟩
    have spl := same_new (o := .lst []) npl
    have epl : upd H8 pl (.lst []) pl = some (.lst []) := upd_same
    have qpl : q ≠ pl := fun z => by rw [← z, hq.e] at npl; cases npl
    have hq9 := spl _ _ hq.e
    generalize upd H8 pl (.lst []) = H9 at *
    have wd := wd_all nn ed.w
    have tle : ∀ i, (txW (TL.tl gap) (ws.take i)).length ≤ 52000 := fun i => by
      have h1 := txW_le (gp := TL.tl gap) (W := N ++ [("q" : Str), "q7"]) (ws := ws.take i) fun x hx => wd x (List.mem_of_mem_take hx)
      have h2 : (ws.take i).length ≤ 4000 := by rw [List.length_take]; have := ed.l; omega
      have h3 : (ws.take i).length * (10 + (TL.tl gap).length) ≤ 4000 * 13 := Nat.mul_le_mul h2 (by omega)
      omega
    have zl : ∀ l : List Nat, (⟨l.toArray⟩ : Str).length = l.length := fun l => by rw [TL.len_tl]
    have pll : (plW (TL.tl gap).length 0 ws).length = ws.length + 1 := plW_len
    have wl' := ed.l
    refine ⟨_, rfl, q, rfl, ⟨_, SqL.of hq9⟩, for_it (walk_list (K := K) (a := q) (xs := ws.map V.str)) (fun i σ H' => H' q = some (.lst (ws.map V.str)) ∧ H' pl = some (.lst (((plW (TL.tl gap).length 0 ws).take i).map fun x : Nat => V.int (x : Nat))) ∧ ∃ x9 : Option V, σ = [some (.ref sc), some (.ref p), some (.int ch), some (.int spot), some (.str gap), some (.ref q), some (.int (a : Nat)), some (.str ⟨(txW (TL.tl gap) (ws.take i)).toArray⟩), some (.ref pl), x9, none, none, none]) ⟨hq9, epl, _, rfl⟩ (fun i σ H' _ h' => SqL.of h'.1) ?_ ?_⟩
    · rintro i x σ HA HB hil ⟨eq1, ep1, x9, rfl⟩ ⟨rfl, hx⟩
      rw [List.length_map] at hil
      obtain ⟨w, hw, rfl⟩ : ∃ y, ws[i]? = some y ∧ x = V.str y := by
        rw [List.getElem?_map] at hx
        cases q : ws[i]? with
        | none => rw [q] at hx; cases hx
        | some y => rw [q] at hx; exact ⟨y, rfl, (Option.some.inj hx).symm⟩
      have t1 := tle i
      have w1 := (wd w (List.mem_of_getElem? hw)).l
      have ets : ws.take (i + 1) = ws.take i ++ [w] := by rw [List.take_add_one, hw]; rfl
      have epp : (plW (TL.tl gap).length 0 ws).take (i + 1) = (plW (TL.tl gap).length 0 ws).take i ++ [(txW (TL.tl gap) (ws.take i)).length] := by
        rw [List.take_add_one, plW_take rfl (by omega), Nat.zero_add]; rfl
      have et : ((⟨(txW (TL.tl gap) (ws.take i)).toArray⟩ : Str) ++ w) ++ gap = ⟨(txW (TL.tl gap) (ws.take (i + 1))).toArray⟩ := TL.ext_tl (by
        rw [TL.tl_append, TL.tl_append, ets, txW_snoc]
        show (txW (TL.tl gap) (ws.take i) ++ TL.tl w) ++ TL.tl gap = txW (TL.tl gap) (ws.take i) ++ (TL.tl w ++ TL.tl gap)
        rw [List.append_assoc])
      have g4 : gap.length ≤ 3 := by rw [TL.len_tl]; exact g3
      refine ⟨_, rfl, .inl ⟨rfl, _, SqL.of ep1⟩, _, rfl, _, rfl, by rw [zl, e24]; omega, pl, _, _, rfl, rfl, ep1, by rw [List.length_map, List.length_take, e24]; omega, ?_⟩
      refine ⟨_, rfl, _, rfl, _, _, rfl, rfl, by rw [zl, e24]; omega, _, rfl, _, _, rfl, rfl, by rw [Str.length_append, zl, e24]; omega, ?_⟩
      refine ⟨by rw [upd_ne qpl]; exact eq1, ?_, some (.str w), ?_⟩
      · rw [upd_same, zl, epp, List.map_append]; rfl
      · rw [← et]; rfl
    · intro σ HA h'
      rw [List.length_map, List.take_length] at h'
      obtain ⟨eq1, ep1, x9, rfl⟩ := h'
      have t1 := tle ws.length
      rw [List.take_length] at t1
      have epp : (plW (TL.tl gap).length 0 ws).take ws.length ++ [(txW (TL.tl gap) ws).length] = plW (TL.tl gap).length 0 ws := by
        have h1 := plW_take (gp := TL.tl gap) rfl (ws := ws) (p := 0) (Nat.le_refl ws.length)
        rw [List.take_length, Nat.zero_add] at h1
        have h2 : (plW (TL.tl gap).length 0 ws).take (ws.length + 1) = plW (TL.tl gap).length 0 ws := List.take_of_length_le (by omega)
        rw [← h2, List.take_take, Nat.min_eq_left (by omega), List.take_add_one, h1]
        rfl
      refine ⟨_, rfl, .inl ⟨rfl, _, SqL.of ep1⟩, _, rfl, _, rfl, by rw [zl, e24]; omega, pl, _, _, rfl, rfl, ep1, by rw [List.length_map, List.length_take, e24]; omega, ?_⟩
      have epw : upd HA pl (.lst (((plW (TL.tl gap).length 0 ws).take ws.length).map (fun x : Nat => V.int (x : Nat)) ++ [V.int ((⟨(txW (TL.tl gap) ws).toArray⟩ : Str).length : Nat)])) pl = some (.lst ((plW (TL.tl gap).length 0 ws).map fun x : Nat => V.int (x : Nat))) := by
        have e1 : ((plW (TL.tl gap).length 0 ws).map fun x : Nat => V.int (x : Nat)) = (((plW (TL.tl gap).length 0 ws).take ws.length) ++ [(txW (TL.tl gap) ws).length]).map fun x : Nat => V.int (x : Nat) := by rw [epp]
        rw [upd_same, zl, e1, List.map_append]
        rfl
      have eq2 : upd HA pl (.lst (((plW (TL.tl gap).length 0 ws).take ws.length).map (fun x : Nat => V.int (x : Nat)) ++ [V.int ((⟨(txW (TL.tl gap) ws).toArray⟩ : Str).length : Nat)])) q = some (.lst (ws.map V.str)) := by rw [upd_ne qpl]; exact eq1
      generalize upd HA pl (.lst (((plW (TL.tl gap).length 0 ws).take ws.length).map (fun x : Nat => V.int (x : Nat)) ++ [V.int ((⟨(txW (TL.tl gap) ws).toArray⟩ : Str).length : Nat)])) = H10 at *
      clear epp
      generalize hG : TL.tl gap = G at *
      generalize hT : tkW G.length 0 ws = ts at *
      obtain ⟨wf, ew, lw⟩ := wfT_w (g := G.length) (p := 0) wd (by omega)
      obtain ⟨ho, sh⟩ := tsOk_w (g := G.length) (p := 0) wd (by omega) (by rw [List.length_append, nn.ln]; decide)
      have nl' : NL (rProgram (tkW G.length 0 ws)) := nl_prog ⟨bd_w (ed.b.le (by omega)), sh⟩
      have ht := (tkp_w g1 g2 wd (p := 0)).tkz [] rfl
      have pos : ∀ i, i < ws.length + 1 → (plW G.length 0 ws)[i]? = some (posH ((tkW G.length 0 ws).drop i)) := fun i hi => pos_w hi
      rw [hT] at wf ew lw ho nl' ht pos
      clear hT sh
      have chk : ∀ (wr ps : Int) (H12 : Hp), H12 pl = some (.lst ((plW G.length 0 ws).map fun x : Nat => V.int (x : Nat))) → ((wr = -1 ∧ ps = -1) ∨ ∃ i, i < ws.length + 1 ∧ wr = (i : Nat) ∧ ps = ((posH (ts.drop i) : Nat) : Int)) → tSeq (tIfS (tOr (tB (tCB (rIsi K) (tCons (tVar 11) (tCons (tC (V.ty "bool")) tNil)))) (tNot (tB (tCB (rIsi K) (tCons (tVar 11) (tCons (tC (V.ty "int")) tNil)))))) (tRet (tC (V.bl false))) tNext) (tRet (tOp rEq (tVar 11) (tIf (tTest (tOp rEq (tVar 10) (tUn (rU fun i => V.int (-i)) (tC (V.int 1))))) (tUn (rU fun i => V.int (-i)) (tC (V.int 1))) (tOp (rIxL K) (tVar 8) (tVar 10))))) { nx := fun x H' => Q V.non H', rt := Q } [some (.ref sc), some (.ref p), some (.int ch), some (.int spot), some (.str gap), some (.ref q), some (.int (a : Nat)), some (.str ⟨(txW G ws).toArray⟩), some (.ref pl), x9, some (.int wr), some (.int ps), none] H12 := fun wr ps H12 e12 hw => by
        refine ⟨_, rfl, _, _, _, _, _, rfl, .ty _, .base (.int _), kit_ty (r := false) (by decide +kernel), false, rfl, ?_⟩
        refine iteF ⟨_, rfl, _, _, _, _, _, rfl, .ty _, .base (.int _), kit_ty (r := true) (by decide +kernel), true, rfl, ?_⟩
        refine iteF ?_
        refine ⟨_, rfl, _, rfl, _, rfl, rfl, _, rfl, ?_⟩
        rcases hw with ⟨rfl, rfl⟩ | ⟨i, hi, rfl, rfl⟩
        · refine iteS (decide_eq_true rfl) ⟨_, rfl, rfl, ?_⟩
          show Q (V.bl (decide _)) _
          rw [decide_eq_true rfl]
          exact k _
        · refine iteE (decide_eq_false fun z => by have := V.int.inj z; omega) ?_
          have hat : atI ((plW G.length 0 ws).map fun x : Nat => V.int (x : Nat)) ((i : Nat) : Int) = some (V.int ((posH (ts.drop i) : Nat) : Int)) := atI_nat (by rw [List.getElem?_map, pos i hi]; rfl)
          refine ⟨_, rfl, _, rfl, pl, _, _, _, rfl, rfl, SqL.of e12, hat, rfl, ?_⟩
          show Q (V.bl (decide _)) _
          rw [decide_eq_true rfl]
          exact k _
      refine ⟨_, rfl, q, ts, rfl, (by rw [ew]; exact eq2), wf, nl', fun l' e H11 s11 => ?_, fun pp e i H11 s11 hi hp => ?_⟩
      · refine ⟨_, rfl, _, rfl, _, rfl, .inl ⟨_, ts, rfl, by rw [zl]; omega, ht, ho, fun l2 e2 x H12 s12 => ?_, fun er he => ?_⟩⟩
        · exact chk (-1) (-1) H12 (s12 _ _ (s11 _ _ epw)) (.inl ⟨rfl, rfl⟩)
        · rw [e] at he; cases he
      · refine ⟨_, rfl, _, rfl, _, rfl, .inl ⟨_, ts, rfl, by rw [zl]; omega, ht, ho, (fun l2 e2 => by rw [e] at e2; cases e2), fun er he => ?_⟩⟩
        rw [e] at he
        injection he with he
        subst he
        intro d H12 s12 hd
        have s13 := s12.trans (same_new (o := .xd [("position", .int (pp : Nat))]) hd)
        have e9 : upd H12 d (.xd [("position", .int (pp : Nat))]) d = some (.xd [("position", .int (pp : Nat))]) := upd_same
        have look : ([(("position" : Str), V.int (pp : Nat))] : List (Str × V)).lookup ("position" : Str) = some (V.int (pp : Nat)) := by simp [List.lookup]
        refine ⟨true, exm_one M.ss, fun _ a' na => ?_, fun z => nomatch z⟩
        refine ⟨_, rfl, rfl, C' 1, d, _, _, rfl, M.xS, M.fS, rfl, e9, look, ?_⟩
        exact chk (i : Nat) (pp : Nat) _ (s13 _ _ (s11 _ _ epw)) (.inr ⟨i, by omega, rfl, by rw [hp]⟩)
end

/-! ### the head by kernel runs: the top is run once for each look at what it leaves; no state is written out -/
section
open PySem.W
theorem split3 {S A B : Type} {o : Option S} {f : S → Bool} {g : S → A} {h : S → B} {a : A} {b : B} (h1 : o.map f = some true) (h2 : o.map g = some a) (h3 : o.map h = some b) : o.map (fun s => (f s, g s, h s)) = some (true, a, b) := by
  cases o with
  | none => cases h1
  | some s =>
    have e1 : f s = true := Option.some.inj h1
    have e2 : g s = a := Option.some.inj h2
    have e3 : h s = b := Option.some.inj h3
    show some (f s, g s, h s) = _
    rw [e1, e2, e3]
theorem split2 {S A B : Type} {o : Option S} {g : S → A} {h : S → B} {a : A} {b : B} (h2 : o.map g = some a) (h3 : o.map h = some b) : o.map (fun s => (g s, h s)) = some (a, b) := by
  cases o with
  | none => cases h2
  | some s =>
    have e2 : g s = a := Option.some.inj h2
    have e3 : h s = b := Option.some.inj h3
    show some (g s, h s) = _
    rw [e2, e3]
/-- the addresses that the module's names reach: functions, classes, their codes and methods -/
def refA : Value → List Addr
  | .ref a => [a]
  | _ => []
def refsA : Option Obj → List Addr
  | some ⟨_, _, .dict es _, _⟩ => es.toList.flatMap fun e => refA e.val
  | some ⟨_, _, .func fd, _⟩ => refA fd.code ++ refA fd.defaults
  | some ⟨_, _, .cls cd, _⟩ => [cd.ns]
  | _ => []
def nextA (g : Addr → Option Obj) (as : List Addr) : List Addr := as.flatMap fun a => refsA (g a)
def forceA {α : Type} : List Addr → (List Addr → α) → α
  | [], k => k []
  | a :: r, k => HandSHeadRun.frNat a fun a => forceA r fun r => k (a :: r)
theorem forceA_eq {α : Type} : ∀ (l : List Addr) (k : List Addr → α), forceA l k = k l
  | [], k => rfl
  | a :: r, k => by
    show HandSHeadRun.frNat a (fun a => forceA r fun r => k (a :: r)) = _
    rw [HandSHeadRun.frNat_eq, forceA_eq r]
def withA {α : Type} (g : Addr → Option Obj) (k : Frag → α) : α :=
  forceA (nextA g [mainGlobals]) fun f1 => forceA (nextA g f1) fun f2 => forceA (nextA g f2) fun f3 => forceA (nextA g f3) fun f4 => k (He.frG g (mainGlobals :: (f1 ++ (f2 ++ (f3 ++ f4)))))
theorem withA_eq {α : Type} (g : Addr → Option Obj) (k : Frag → α) : ∃ as, withA g k = k (He.frG g as) := by
  unfold withA
  simp only [forceA_eq]
  exact ⟨_, rfl⟩
abbrev AlA : Type := Bool × He.Al × List He.FnW
def obsA (fx : List (Frag → Bool)) (fa : List He.Fa) (fn : List He.FnD) (fw : List He.DefD) (K : Frag) : AlA := ((fx.all fun f => f K) && fw.all fun d => d.ok K, He.obsE fa fn K, fw.map fun d => He.fnW K d.at_)
def valA (fn : List He.FnD) (fw : List He.DefD) : AlA := (true, He.valE fn, fw.map He.DefD.val)
def SaysA (fx : List (Frag → Bool)) (fa : List He.Fa) (fn : List He.FnD) (fw : List He.DefD) (K : Frag) : Prop := obsA fx fa fn fw K = valA fn fw
def obsAG (fx : List (Frag → Bool)) (fa : List He.Fa) (fn : List He.FnD) (fw : List He.DefD) (g : Addr → Option Obj) : AlA := withA g (obsA fx fa fn fw)
def hookA (fx : List (Frag → Bool)) (fa : List He.Fa) (fn : List He.FnD) (fw : List He.DefD) : Hook where
  α := AlA
  obs := fun s => obsAG fx fa fn fw s.heap.get?
  val := fun _ => valA fn fw
  says := fun _ h => ∃ K : Frag, K.In h ∧ SaysA fx fa fn fw K
  of := fun _ s e => by
    obtain ⟨as, q⟩ := withA_eq s.heap.get? (obsA fx fa fn fw)
    exact ⟨_, He.frG_in, q.symm.trans e⟩
  keeps := fun _ _ _ ⟨K, hK, c⟩ k => ⟨K, Frag.In.keeps hK k, c⟩
theorem obsAG_eq {fx : List (Frag → Bool)} {fa : List He.Fa} {fn : List He.FnD} {fw : List He.DefD} {g : Addr → Option Obj} {s : Shared} (h : ∀ a, g a = s.heap.get? a) : obsAG fx fa fn fw g = (hookA fx fa fn fw).obs s := by
  have e : g = s.heap.get? := funext h
  rw [e] <;> rfl
/-- a def as a datum -/
def khDef (at_ : Str × Option Str) (name qual : Str) (st : Stmt) : He.FnD := ⟨at_, name, qual, defArgs st, defBody st, defScope st⟩
section
variable {fx : List (Frag → Bool)} {fa : List He.Fa} {fn : List He.FnD} {fw : List He.DefD} {K : Frag}
theorem SaysA.x (c : SaysA fx fa fn fw K) (i : Nat) {f : Frag → Bool} (h : fx[i]? = some f) : f K = true :=
  List.all_eq_true.mp (He.ba (show ((fx.all fun f => f K) && fw.all fun d => d.ok K) = true from congrArg (fun z : AlA => z.1) c)).1 f (List.mem_of_getElem? h)
theorem SaysA.says (c : SaysA fx fa fn fw K) : He.SaysE fa fn K := congrArg (fun z : AlA => z.2.1) c
theorem SaysA.dfl_ (c : SaysA fx fa fn fw K) (i : Nat) {d : He.DefD} (h : fw[i]? = some d) : ∃ fd, FunD K d.name d.qual d.params d.body d.scope (d.dvs K) (d.kws K) (He.fAd K d.at_) fd := by
  have c2 := (He.ba (show ((fx.all fun f => f K) && fw.all fun d => d.ok K) = true from congrArg (fun z : AlA => z.1) c)).2
  have e : fw.map (fun d => He.fnW K d.at_) = fw.map He.DefD.val := congrArg (fun z : AlA => z.2.2) c
  have e2 : (fw.map fun d => He.fnW K d.at_)[i]? = (fw.map He.DefD.val)[i]? := by rw [e]
  rw [List.getElem?_map, List.getElem?_map, h] at e2
  exact He.DefD.funD (Option.some.inj e2) (List.all_eq_true.mp c2 d (List.mem_of_getElem? h))
theorem SaysA.fact (c : SaysA fx fa fn fw K) (i : Nat) {f : He.Fa} (h : fa[i]? = some f) : f.ok K = true := c.says.fact i h
theorem SaysA.def_ (c : SaysA fx fa fn fw K) (i : Nat) {a : Str × Option Str} {x q : Str} {st : Stmt} (h : fn[i]? = some (khDef a x q st)) : ∃ fd, Fun K x q st (He.fAd K a) fd := by
  obtain ⟨oc, od, osl, kV, doc, pm, an, cdv, ct, l, cd⟩ := c.says.def_ i h
  exact ⟨_, fun_mk (st := st) l cd (by
    show (match K.lookup (He.fAd K a) with
      | some ⟨_, _, .func _, _⟩ => true
      | some ⟨_, _, .cls _, _⟩ => PySem.W.specialIn K (.ref (He.fAd K a)) "__call__" == some (some (.builtin "type.__call__"))
      | _ => false) = true
    rw [show K.lookup (He.fAd K a) = _ from l])⟩
end
end

/-- an own error's class, looked at -/
def xcB (K : PySem.W.Frag) (x : Str) (bm : List Value) (newId : String) (f : Str) : Bool := (match K.lookup (He.ga K x) with
    | some ⟨cl, _, .cls cd, sl⟩ => decide (cl = .type "type") && (decide (cd.mro = .ref (He.ga K x) :: bm) && (cd.hasDict && (!cd.hasDel && (match sl.toList with
      | [_, _, _, _, some n, _] => decide (n = .builtin newId)
      | _ => false))))
    | _ => false) && (He.eqO (PySem.W.findIn K (.ref (He.ga K x)) "__setattr__") (some (some (.builtin "object.__setattr__"))) && (PySem.W.keepIn K (.ref (He.ga K x)) && (He.eqO (PySem.W.findIn K (.ref (He.ga K x)) f) (some none) &&
    (He.eqO (PySem.W.findIn K (.ref (He.ga K x)) "__getattribute__") (some (some (.builtin "BaseException.__getattribute__"))) && (He.eqO (PySem.W.findIn K (.ref (He.ga K x)) "__getattr__") (some none) && He.eqO (PySem.W.findIn K (.ref (He.ga K x)) "__class__") (some (some (.builtin "object.__class__"))))))))

/-! ### what the written part says of the classes -/
structure XcK (K : PySem.W.Frag) (C : Addr) (bm : List Value) (newId : String) (f : Str) : Prop where
  lk : ∃ nm q N bs sn sub ab col dd k0 k1 k2 k3 k5, K.lookup C = some (excClassObj nm q C N bs bm true sn sub ab col dd k0 k1 k2 k3 k5 newId)
  sa : PySem.W.findIn K (.ref C) "__setattr__" = some (some (.builtin "object.__setattr__"))
  kc : PySem.W.keepIn K (.ref C) = true
  no : PySem.W.findIn K (.ref C) f = some none
  ga : PySem.W.findIn K (.ref C) "__getattribute__" = some (some (.builtin "BaseException.__getattribute__"))
  gg : PySem.W.findIn K (.ref C) "__getattr__" = some none
  ca : PySem.W.findIn K (.ref C) "__class__" = some (some (.builtin "object.__class__"))
section
variable {K : PySem.W.Frag} {C : Addr} {bm bmB : List Value} {newId : String} {f : Str}
theorem lk_cls {nm q N bs sn sub ab col dd k0 k1 k2 k3 k5} (h : K.lookup C = some (excClassObj nm q C N bs bm true sn sub ab col dd k0 k1 k2 k3 k5 newId)) : ∃ cd, PySem.W.clsIn K C = some cd ∧ cd.mro = .ref C :: bm ∧ cd.hasDict = true :=
  ⟨_, by unfold PySem.W.clsIn; rw [h], rfl, rfl⟩
theorem XcK.cls (T : XcK K C bm newId f) : ∃ cd, PySem.W.clsIn K C = some cd ∧ cd.mro = .ref C :: bm ∧ cd.hasDict = true := by
  obtain ⟨_, _, _, _, _, _, _, _, _, _, _, _, _, _, h⟩ := T.lk
  exact lk_cls h
theorem sub_cls (h : ∃ cd, PySem.W.clsIn K C = some cd ∧ cd.mro = .ref C :: bm ∧ cd.hasDict = true) (x : Value) : PySem.W.subIn K (.ref C) x = some ((Value.ref C :: bm).contains x) := by
  obtain ⟨cd, e, m, _⟩ := h
  show PySem.W.mroIn K C x = _
  unfold PySem.W.mroIn
  rw [e, Option.bind_some, m]
  rfl
theorem XcK.ty (T : XcK K C bm newId f) : PySem.W.typeIn K (.ref C) = some (.type "type") := by
  obtain ⟨_, _, _, _, _, _, _, _, _, _, _, _, _, _, h⟩ := T.lk
  show (K.lookup C).map (·.cls) = _
  rw [h]; rfl
theorem XcK.hd (T : XcK K C bm newId f) : PySem.W.hasDictIn K C = true := by
  obtain ⟨cd, e, _, d⟩ := T.cls
  unfold PySem.W.hasDictIn
  rw [e]; exact d
theorem tail_has (ht : PySem.W.excTail bmB bm = true) (X : String) (h : bmB.contains (.type X) = true) : (Value.ref C :: bm).contains (.type X) = true := by
  rw [List.contains_cons, PySem.W.excTail_contains _ _ ht, h, Bool.or_true]
theorem XcK.oex (T : XcK K C bm newId f) (B : XC.Bas bmB newId) (ht : PySem.W.excTail bmB bm = true) (hb : bmB.contains (.type "BaseException") = true) : OexG K C := by
  refine ⟨⟨bmB, newId, B, ?_, ?_⟩, T.hd, T.sa, (sub_cls T.cls _).trans (by rw [tail_has ht _ hb]), T.ty, T.kc⟩
  · obtain ⟨_, _, _, _, _, _, _, _, _, _, _, _, _, _, h⟩ := T.lk
    unfold PySem.W.excInitIn
    rw [h]
    simp [ht]
  · obtain ⟨cd, e, m, _⟩ := T.cls
    unfold PySem.W.excOver
    rw [e]
    show (match cd.mro with | .ref C' :: bm => C' == C && PySem.W.excTail bmB bm | _ => false) = true
    rw [m]
    simp [ht]
theorem XcK.xf (T : XcK K C bm newId f) (ht : PySem.W.excTail bmB bm = true) (hb : bmB.contains (.type "BaseException") = true) : XfC K C := ⟨T.ga, T.gg, (sub_cls T.cls _).trans (by rw [tail_has ht _ hb]), T.hd⟩
theorem XcK.ex (T : XcK K C bm newId f) (ht : PySem.W.excTail bmB bm = true) (hb : bmB.contains (.type "BaseException") = true) (ho : bmB.contains (.type "object") = true)
    (sp : PySem.W.specialIn K (.builtin "object.__class__") "__get__" = some (some (.builtin "getset_descriptor.__get__"))) (tk : PySem.W.takesIn K (.builtin "object.__class__") = some true) : ExcC K C :=
  ⟨T.ga, T.gg, (sub_cls T.cls _).trans (by rw [tail_has ht _ hb]), T.hd, T.ca, sp, tk, (sub_cls T.cls (.type "object")).trans (by rw [tail_has ht _ ho])⟩
end
theorem oexV {K : PySem.W.Frag} {C CP : Addr} {f : Str} (h : XcK K C (.ref CP :: XC.tlV) "ValueError.__new__" f) : OexG K C := h.oex XC.basV (by show PySem.W.excTail XC.tlV XC.tlV = true; decide +kernel) (by decide +kernel)
theorem oexK {K : PySem.W.Frag} {C : Addr} {f : Str} (h : XcK K C XC.tlK "LookupError.__new__" f) : OexG K C := h.oex XC.basK (by decide +kernel) (by decide +kernel)
theorem oexR {K : PySem.W.Frag} {C : Addr} {f : Str} (h : XcK K C XC.tlR "RuntimeError.__new__" f) : OexG K C := h.oex XC.basR (by decide +kernel) (by decide +kernel)

theorem xcB_ok {K : PySem.W.Frag} {x : Str} {bm : List Value} {newId : String} {f : Str} (h : xcB K x bm newId f = true) : XcK K (He.ga K x) bm newId f := by
  obtain ⟨h1, h⟩ := He.ba h
  obtain ⟨h2, h⟩ := He.ba h
  obtain ⟨h3, h⟩ := He.ba h
  obtain ⟨h4, h⟩ := He.ba h
  obtain ⟨h5, h⟩ := He.ba h
  obtain ⟨h6, h7⟩ := He.ba h
  refine ⟨?_, He.eqO_ok h2, h3, He.eqO_ok h4, He.eqO_ok h5, He.eqO_ok h6, He.eqO_ok h7⟩
  cases e : K.lookup (He.ga K x) with
  | none =>
    rw [e] at h1
    cases h1
  | some o =>
    rw [e] at h1
    obtain ⟨cl, dd, dt, sl⟩ := o
    cases dt with
    | cls cd =>
      obtain ⟨nm, bs, mro, N, q, hd, sn, sub, ab, col, del⟩ := cd
      obtain ⟨a1, b1⟩ := He.ba (show (decide (cl = .type "type") && (decide (mro = .ref (He.ga K x) :: bm) && (hd && (!del && (match sl.toList with
        | [_, _, _, _, some n, _] => decide (n = .builtin newId)
        | _ => false))))) = true from h1)
      obtain ⟨a2, b2⟩ := He.ba b1
      obtain ⟨a3, b3⟩ := He.ba b2
      obtain ⟨a4, b4⟩ := He.ba b3
      split at b4
      · rename_i k0 k1 k2 k3 n k5 hs
        obtain ⟨sl⟩ := sl
        have hs2 : sl = [k0, k1, k2, k3, some n, k5] := hs
        cases hs2
        cases of_decide_eq_true b4
        cases of_decide_eq_true a1
        cases of_decide_eq_true a2
        cases a3
        cases del with
        | true => cases a4
        | false => exact ⟨_, _, _, _, _, _, _, _, _, _, _, _, _, _, rfl⟩
      · cases b4
    | _ => cases h1

/-! ### the end -/
abbrev khR : PySem.W.OpenRow := PySem.W.OpenLaw.row PySem.Challenge.rw_allornothing_k04_positions_of_syntax_err
abbrev khQ : Program := PySem.W.view khR.prog [49]
def khN0 : List PySem.Str := ["__name__", "ProgramError", "InvalidText", "InvalidSyntax", "TooLarge", "LETTERS", "DIGITS", "SIGNS", "KEYWORDS", "LONGEST", "DEEPEST", "kind_of", "end_of_run", "tokens_of", "expression_of", "Reader", "parse", "_law_pool", "_law_mixed", "_law_draw", "_law_names", "_law_expression", "_law_some_sum", "_law_some_list", "_law_some_call", "_law_some_block", "_law_some_compound", "_law_some_statement", "_law_some_program", "_law_now"]
def khN1 : List PySem.Str := ["_law_skip", "_law_is_name", "_law_read_name", "_law_read_list", "_law_read_row", "_law_read_term", "_law_read_sum", "_law_read_arg", "_law_read_args", "_law_read_block", "_law_read_action", "_law_read_try", "_law_read_with", "_law_read_statement", "_law_read_def", "_law_first_wrong", "_law_other"]
def khN : List PySem.Str := khN0 ++ khN1
def khX0 : List (PySem.W.Frag → Bool) := [fun K => xcB K "InvalidText" (.ref (He.ga K "ProgramError") :: XC.tlV) "ValueError.__new__" "value",
    fun K => xcB K "InvalidSyntax" (.ref (He.ga K "ProgramError") :: XC.tlV) "ValueError.__new__" "position",
    fun K => xcB K "TooLarge" (.ref (He.ga K "ProgramError") :: XC.tlV) "ValueError.__new__" "word",
    fun K => He.tupB K "KEYWORDS" [.str "globals", .str "kinds", .str "keep", .str "def", .str "if", .str "else", .str "while", .str "risk", .str "raise", .str "try", .str "except", .str "finally", .str "undo", .str "with", .str "swallow", .str "return"],
    fun K => decide (PySem.W.exmOne K (.ref (He.ga K "InvalidSyntax")) (.ref (He.ga K "InvalidSyntax")) = some true)]
def khX : List (PySem.W.Frag → Bool) := khX0
def khF0 : List He.Fa := [.glo "_law_mixed",
    .glo "_law_draw",
    .glo "_law_pool",
    .glo "kind_of",
    .glo "end_of_run",
    .glo "tokens_of",
    .glo "expression_of",
    .glo "parse",
    .glo "_law_names",
    .glo "_law_now",
    .glo "_law_skip",
    .glo "_law_is_name",
    .glo "_law_read_name",
    .glo "_law_read_list",
    .glo "_law_read_row",
    .glo "_law_read_term",
    .glo "_law_read_sum",
    .glo "_law_read_arg",
    .glo "_law_read_args",
    .glo "_law_read_action",
    .glo "_law_read_try",
    .glo "_law_read_with",
    .glo "_law_read_statement",
    .glo "_law_read_block",
    .glo "_law_read_def"]
def khF1 : List He.Fa := [.glo "_law_first_wrong",
    .glo "_law_some_sum",
    .glo "_law_some_list",
    .glo "_law_some_call",
    .glo "_law_some_block",
    .glo "_law_some_compound",
    .glo "_law_some_statement",
    .glo "_law_some_program",
    .glo "_law_other",
    .glo "law",
    .glo "Reader",
    .cls "Reader",
    .mkr "Reader",
    .noat "Reader" "tokens",
    .noat "Reader" "index_of_token",
    .noat "Reader" "depth",
    .meth "Reader" "__init__",
    .meth "Reader" "current",
    .meth "Reader" "is_next",
    .meth "Reader" "accept",
    .meth "Reader" "expect",
    .meth "Reader" "read_name",
    .meth "Reader" "read_names",
    .meth "Reader" "read_row",
    .meth "Reader" "read_term"]
def khF2 : List He.Fa := [.meth "Reader" "read_expression",
    .meth "Reader" "read_arg",
    .meth "Reader" "read_args",
    .meth "Reader" "read_block",
    .meth "Reader" "read_statement",
    .meth "Reader" "read_action",
    .meth "Reader" "read_try",
    .meth "Reader" "read_with",
    .meth "Reader" "read_param",
    .meth "Reader" "read_function",
    .meth "Reader" "read_program",
    .glo "InvalidText",
    .meth "InvalidText" "__init__",
    .glo "InvalidSyntax",
    .meth "InvalidSyntax" "__init__",
    .glo "TooLarge",
    .meth "TooLarge" "__init__",
    .free "int",
    .free "len",
    .free "isinstance",
    .free "str",
    .free "range",
    .free "tuple",
    .free "bool",
    .free "sorted"]
def khF3 : List He.Fa := [.str "LETTERS" LET,
    .str "DIGITS" DIG,
    .str "SIGNS" SIG,
    .int "LONGEST" 12,
    .int "DEEPEST" 30,
    .glo "KEYWORDS"]
def khF : List He.Fa := khF0 ++ khF1 ++ khF2 ++ khF3
def khD0 : List He.FnD := [khDef ("_law_mixed", none) "_law_mixed" "_law_mixed" sMixed,
    khDef ("_law_draw", none) "_law_draw" "_law_draw" sDraw,
    khDef ("_law_pool", none) "_law_pool" "_law_pool" sPool,
    khDef ("kind_of", none) "kind_of" "kind_of" sKindOf,
    khDef ("end_of_run", none) "end_of_run" "end_of_run" sEndRun,
    khDef ("tokens_of", none) "tokens_of" "tokens_of" sToksOf,
    khDef ("expression_of", none) "expression_of" "expression_of" sExprOf,
    khDef ("parse", none) "parse" "parse" sParse,
    khDef ("_law_names", none) "_law_names" "_law_names" sNames,
    khDef ("_law_now", none) "_law_now" "_law_now" sWNow,
    khDef ("_law_skip", none) "_law_skip" "_law_skip" sWSkp,
    khDef ("_law_is_name", none) "_law_is_name" "_law_is_name" sWNam,
    khDef ("_law_read_name", none) "_law_read_name" "_law_read_name" sWRNm,
    khDef ("_law_read_list", none) "_law_read_list" "_law_read_list" sWRLs,
    khDef ("_law_read_row", none) "_law_read_row" "_law_read_row" sWRRw,
    khDef ("_law_read_term", none) "_law_read_term" "_law_read_term" sWRTm,
    khDef ("_law_read_sum", none) "_law_read_sum" "_law_read_sum" sWRSm,
    khDef ("_law_read_arg", none) "_law_read_arg" "_law_read_arg" sWRAr,
    khDef ("_law_read_args", none) "_law_read_args" "_law_read_args" sWRAs,
    khDef ("_law_read_action", none) "_law_read_action" "_law_read_action" sWRAc,
    khDef ("_law_read_try", none) "_law_read_try" "_law_read_try" sWRTy,
    khDef ("_law_read_with", none) "_law_read_with" "_law_read_with" sWRWi,
    khDef ("_law_read_statement", none) "_law_read_statement" "_law_read_statement" sWRSt,
    khDef ("_law_read_block", none) "_law_read_block" "_law_read_block" sWRBk,
    khDef ("_law_read_def", none) "_law_read_def" "_law_read_def" sWRDf]
def khD1 : List He.FnD := [khDef ("_law_first_wrong", none) "_law_first_wrong" "_law_first_wrong" sWFst,
    khDef ("_law_some_sum", none) "_law_some_sum" "_law_some_sum" sGSm,
    khDef ("_law_some_list", none) "_law_some_list" "_law_some_list" sGLs,
    khDef ("_law_some_call", none) "_law_some_call" "_law_some_call" sGCl,
    khDef ("_law_some_block", none) "_law_some_block" "_law_some_block" sGBk,
    khDef ("_law_some_compound", none) "_law_some_compound" "_law_some_compound" sGCm,
    khDef ("_law_some_statement", none) "_law_some_statement" "_law_some_statement" sGSt,
    khDef ("_law_some_program", none) "_law_some_program" "_law_some_program" sGPg,
    khDef ("_law_other", none) "_law_other" "_law_other" sGOt,
    khDef ("law", none) "law" "law" sLaw,
    khDef ("Reader", some "__init__") "__init__" "Reader.__init__" sRIni,
    khDef ("Reader", some "current") "current" "Reader.current" sRCur,
    khDef ("Reader", some "is_next") "is_next" "Reader.is_next" sRNext,
    khDef ("Reader", some "accept") "accept" "Reader.accept" sRAcc,
    khDef ("Reader", some "expect") "expect" "Reader.expect" sRExp,
    khDef ("Reader", some "read_name") "read_name" "Reader.read_name" sRName,
    khDef ("Reader", some "read_names") "read_names" "Reader.read_names" sRNms,
    khDef ("Reader", some "read_row") "read_row" "Reader.read_row" sRRow,
    khDef ("Reader", some "read_term") "read_term" "Reader.read_term" sRTerm,
    khDef ("Reader", some "read_expression") "read_expression" "Reader.read_expression" sRExpr,
    khDef ("Reader", some "read_arg") "read_arg" "Reader.read_arg" sRArg,
    khDef ("Reader", some "read_args") "read_args" "Reader.read_args" sRArgs,
    khDef ("Reader", some "read_block") "read_block" "Reader.read_block" sRBlk,
    khDef ("Reader", some "read_statement") "read_statement" "Reader.read_statement" sRStm,
    khDef ("Reader", some "read_action") "read_action" "Reader.read_action" sRAct]
def khD2 : List He.FnD := [khDef ("Reader", some "read_try") "read_try" "Reader.read_try" sRTry,
    khDef ("Reader", some "read_with") "read_with" "Reader.read_with" sRWth,
    khDef ("Reader", some "read_param") "read_param" "Reader.read_param" sRPar,
    khDef ("Reader", some "read_function") "read_function" "Reader.read_function" sRFun,
    khDef ("Reader", some "read_program") "read_program" "Reader.read_program" sRPrg,
    khDef ("InvalidText", some "__init__") "__init__" "InvalidText.__init__" sXI0,
    khDef ("InvalidSyntax", some "__init__") "__init__" "InvalidSyntax.__init__" sXI1,
    khDef ("TooLarge", some "__init__") "__init__" "TooLarge.__init__" sXI2]
def khD : List He.FnD := khD0 ++ khD1 ++ khD2
def khW : List He.DefD := []
abbrev khH : PySem.W.Hook := hookA khX khF khD khW
def khO (s : PySem.W.SharedT) : AlA := obsAG khX khF khD khW (HandSHeadRun.getT s)
theorem khO_eq (s : PySem.W.SharedT) : khO s = khH.obs s.abs := obsAG_eq (HandSHeadRun.getT_eq s)
section
open PySem.W PySem.Calls PyProof.Rows HandSHeadRun
theorem khRun1 (w : World) (os : OsState) : (endF (stepQ (denQ tabQ) khR.prog w) 60000 khR.prog w os).map (fun s => looksF khR.prog (boot_heap w.params) s.abs) = some true := by kernel_rfl
theorem khRun2 (w : World) (os : OsState) : (endF (stepQ (denQ tabQ) khR.prog w) 60000 khR.prog w os).map (fun s => seenQ khQ khN (importedModules khR.prog.main.body) (fun s => xlAt khQ [] s && recOk khR.toRowW.records s) s.abs) = some (openGood khQ khN) := by kernel_rfl
theorem khRun3 (w : World) (os : OsState) : (endF (stepQ (denQ tabQ) khR.prog w) 60000 khR.prog w os).map khO = some (valA khD khW) := by kernel_rfl
theorem khRun (w : World) : RunEq khR khQ khH khO 60000 khN w := fun os => split3 (khRun1 w os) (khRun2 w os) (khRun3 w os)
end
theorem khFacts {l : PySem.W.OpenLaw} {w : World} {K : PySem.W.Frag} {h : Heap} {mg : Str → Option Value} {fa : Addr} (X : K.In h) (G : h.Ns mainGlobals mg) (hfa : mg "law" = some (.ref fa)) (c : SaysA khX khF khD khW K) :
    ∃ fd : FuncData, (∀ (s : Shared) (v : Value), BindsTo s fd ⟨[v], []⟩ [("_law_script", v)]) ∧ ∀ base : Heap, K.In base → base.Ns mainGlobals mg → FnOk l.prog w K mg base CX0 103 fa fd PLaw (spLaw K) := by
  have gMixed := He.glo_ok X G (x := "_law_mixed") (c.fact 0 (by kernel_rfl))
  obtain ⟨fdMixed, FMixed⟩ := c.def_ 0 (a := ("_law_mixed", none)) (x := "_law_mixed") (q := "_law_mixed") (st := sMixed) (by kernel_rfl)
  have bMixed := FMixed.binds (ps := PMixed) fun _ _ _ _ _ _ us hl => match us, hl with | [_, _, _], _ => rfl
  have kMixed := FMixed.kp
  have gDraw := He.glo_ok X G (x := "_law_draw") (c.fact 1 (by kernel_rfl))
  obtain ⟨fdDraw, FDraw⟩ := c.def_ 1 (a := ("_law_draw", none)) (x := "_law_draw") (q := "_law_draw") (st := sDraw) (by kernel_rfl)
  have bDraw := FDraw.binds (ps := PDraw) fun _ _ _ _ _ _ us hl => match us, hl with | [_, _], _ => rfl
  have kDraw := FDraw.kp
  have gPool := He.glo_ok X G (x := "_law_pool") (c.fact 2 (by kernel_rfl))
  obtain ⟨fdPool, FPool⟩ := c.def_ 2 (a := ("_law_pool", none)) (x := "_law_pool") (q := "_law_pool") (st := sPool) (by kernel_rfl)
  have bPool := FPool.binds (ps := PPool) fun _ _ _ _ _ _ us hl => match us, hl with | [_], _ => rfl
  have kPool := FPool.kp
  have gKindOf := He.glo_ok X G (x := "kind_of") (c.fact 3 (by kernel_rfl))
  obtain ⟨fdKindOf, FKindOf⟩ := c.def_ 3 (a := ("kind_of", none)) (x := "kind_of") (q := "kind_of") (st := sKindOf) (by kernel_rfl)
  have bKindOf := FKindOf.binds (ps := PKindOf) fun _ _ _ _ _ _ us hl => match us, hl with | [_], _ => rfl
  have kKindOf := FKindOf.kp
  have gEndRun := He.glo_ok X G (x := "end_of_run") (c.fact 4 (by kernel_rfl))
  obtain ⟨fdEndRun, FEndRun⟩ := c.def_ 4 (a := ("end_of_run", none)) (x := "end_of_run") (q := "end_of_run") (st := sEndRun) (by kernel_rfl)
  have bEndRun := FEndRun.binds (ps := PEndRun) fun _ _ _ _ _ _ us hl => match us, hl with | [_, _], _ => rfl
  have kEndRun := FEndRun.kp
  have gToksOf := He.glo_ok X G (x := "tokens_of") (c.fact 5 (by kernel_rfl))
  obtain ⟨fdToksOf, FToksOf⟩ := c.def_ 5 (a := ("tokens_of", none)) (x := "tokens_of") (q := "tokens_of") (st := sToksOf) (by kernel_rfl)
  have bToksOf := FToksOf.binds (ps := PToksOf) fun _ _ _ _ _ _ us hl => match us, hl with | [_], _ => rfl
  have kToksOf := FToksOf.kp
  have gExprOf := He.glo_ok X G (x := "expression_of") (c.fact 6 (by kernel_rfl))
  obtain ⟨fdExprOf, FExprOf⟩ := c.def_ 6 (a := ("expression_of", none)) (x := "expression_of") (q := "expression_of") (st := sExprOf) (by kernel_rfl)
  have bExprOf := FExprOf.binds (ps := PExprOf) fun _ _ _ _ _ _ us hl => match us, hl with | [_, _], _ => rfl
  have kExprOf := FExprOf.kp
  have gParse := He.glo_ok X G (x := "parse") (c.fact 7 (by kernel_rfl))
  obtain ⟨fdParse, FParse⟩ := c.def_ 7 (a := ("parse", none)) (x := "parse") (q := "parse") (st := sParse) (by kernel_rfl)
  have bParse := FParse.binds (ps := PParse) fun _ _ _ _ _ _ us hl => match us, hl with | [_], _ => rfl
  have kParse := FParse.kp
  have gNames := He.glo_ok X G (x := "_law_names") (c.fact 8 (by kernel_rfl))
  obtain ⟨fdNames, FNames⟩ := c.def_ 8 (a := ("_law_names", none)) (x := "_law_names") (q := "_law_names") (st := sNames) (by kernel_rfl)
  have bNames := FNames.binds (ps := PNames) fun _ _ _ _ _ _ us hl => match us, hl with | [_], _ => rfl
  have kNames := FNames.kp
  have gWNow := He.glo_ok X G (x := "_law_now") (c.fact 9 (by kernel_rfl))
  obtain ⟨fdWNow, FWNow⟩ := c.def_ 9 (a := ("_law_now", none)) (x := "_law_now") (q := "_law_now") (st := sWNow) (by kernel_rfl)
  have bWNow := FWNow.binds (ps := PWNow) fun _ _ _ _ _ _ us hl => match us, hl with | [_], _ => rfl
  have kWNow := FWNow.kp
  have gWSkp := He.glo_ok X G (x := "_law_skip") (c.fact 10 (by kernel_rfl))
  obtain ⟨fdWSkp, FWSkp⟩ := c.def_ 10 (a := ("_law_skip", none)) (x := "_law_skip") (q := "_law_skip") (st := sWSkp) (by kernel_rfl)
  have bWSkp := FWSkp.binds (ps := PWSkp) fun _ _ _ _ _ _ us hl => match us, hl with | [_, _], _ => rfl
  have kWSkp := FWSkp.kp
  have gWNam := He.glo_ok X G (x := "_law_is_name") (c.fact 11 (by kernel_rfl))
  obtain ⟨fdWNam, FWNam⟩ := c.def_ 11 (a := ("_law_is_name", none)) (x := "_law_is_name") (q := "_law_is_name") (st := sWNam) (by kernel_rfl)
  have bWNam := FWNam.binds (ps := PWNam) fun _ _ _ _ _ _ us hl => match us, hl with | [_], _ => rfl
  have kWNam := FWNam.kp
  have gWRNm := He.glo_ok X G (x := "_law_read_name") (c.fact 12 (by kernel_rfl))
  obtain ⟨fdWRNm, FWRNm⟩ := c.def_ 12 (a := ("_law_read_name", none)) (x := "_law_read_name") (q := "_law_read_name") (st := sWRNm) (by kernel_rfl)
  have bWRNm := FWRNm.binds (ps := PWRNm) fun _ _ _ _ _ _ us hl => match us, hl with | [_], _ => rfl
  have kWRNm := FWRNm.kp
  have gWRLs := He.glo_ok X G (x := "_law_read_list") (c.fact 13 (by kernel_rfl))
  obtain ⟨fdWRLs, FWRLs⟩ := c.def_ 13 (a := ("_law_read_list", none)) (x := "_law_read_list") (q := "_law_read_list") (st := sWRLs) (by kernel_rfl)
  have bWRLs := FWRLs.binds (ps := PWRLs) fun _ _ _ _ _ _ us hl => match us, hl with | [_], _ => rfl
  have kWRLs := FWRLs.kp
  have gWRRw := He.glo_ok X G (x := "_law_read_row") (c.fact 14 (by kernel_rfl))
  obtain ⟨fdWRRw, FWRRw⟩ := c.def_ 14 (a := ("_law_read_row", none)) (x := "_law_read_row") (q := "_law_read_row") (st := sWRRw) (by kernel_rfl)
  have bWRRw := FWRRw.binds (ps := PWRRw) fun _ _ _ _ _ _ us hl => match us, hl with | [_], _ => rfl
  have kWRRw := FWRRw.kp
  have gWRTm := He.glo_ok X G (x := "_law_read_term") (c.fact 15 (by kernel_rfl))
  obtain ⟨fdWRTm, FWRTm⟩ := c.def_ 15 (a := ("_law_read_term", none)) (x := "_law_read_term") (q := "_law_read_term") (st := sWRTm) (by kernel_rfl)
  have bWRTm := FWRTm.binds (ps := PWRTm) fun _ _ _ _ _ _ us hl => match us, hl with | [_], _ => rfl
  have kWRTm := FWRTm.kp
  have gWRSm := He.glo_ok X G (x := "_law_read_sum") (c.fact 16 (by kernel_rfl))
  obtain ⟨fdWRSm, FWRSm⟩ := c.def_ 16 (a := ("_law_read_sum", none)) (x := "_law_read_sum") (q := "_law_read_sum") (st := sWRSm) (by kernel_rfl)
  have bWRSm := FWRSm.binds (ps := PWRSm) fun _ _ _ _ _ _ us hl => match us, hl with | [_], _ => rfl
  have kWRSm := FWRSm.kp
  have gWRAr := He.glo_ok X G (x := "_law_read_arg") (c.fact 17 (by kernel_rfl))
  obtain ⟨fdWRAr, FWRAr⟩ := c.def_ 17 (a := ("_law_read_arg", none)) (x := "_law_read_arg") (q := "_law_read_arg") (st := sWRAr) (by kernel_rfl)
  have bWRAr := FWRAr.binds (ps := PWRAr) fun _ _ _ _ _ _ us hl => match us, hl with | [_], _ => rfl
  have kWRAr := FWRAr.kp
  have gWRAs := He.glo_ok X G (x := "_law_read_args") (c.fact 18 (by kernel_rfl))
  obtain ⟨fdWRAs, FWRAs⟩ := c.def_ 18 (a := ("_law_read_args", none)) (x := "_law_read_args") (q := "_law_read_args") (st := sWRAs) (by kernel_rfl)
  have bWRAs := FWRAs.binds (ps := PWRAs) fun _ _ _ _ _ _ us hl => match us, hl with | [_], _ => rfl
  have kWRAs := FWRAs.kp
  have gWRAc := He.glo_ok X G (x := "_law_read_action") (c.fact 19 (by kernel_rfl))
  obtain ⟨fdWRAc, FWRAc⟩ := c.def_ 19 (a := ("_law_read_action", none)) (x := "_law_read_action") (q := "_law_read_action") (st := sWRAc) (by kernel_rfl)
  have bWRAc := FWRAc.binds (ps := PWRAc) fun _ _ _ _ _ _ us hl => match us, hl with | [_], _ => rfl
  have kWRAc := FWRAc.kp
  have gWRTy := He.glo_ok X G (x := "_law_read_try") (c.fact 20 (by kernel_rfl))
  obtain ⟨fdWRTy, FWRTy⟩ := c.def_ 20 (a := ("_law_read_try", none)) (x := "_law_read_try") (q := "_law_read_try") (st := sWRTy) (by kernel_rfl)
  have bWRTy := FWRTy.binds (ps := PWRTy) fun _ _ _ _ _ _ us hl => match us, hl with | [_], _ => rfl
  have kWRTy := FWRTy.kp
  have gWRWi := He.glo_ok X G (x := "_law_read_with") (c.fact 21 (by kernel_rfl))
  obtain ⟨fdWRWi, FWRWi⟩ := c.def_ 21 (a := ("_law_read_with", none)) (x := "_law_read_with") (q := "_law_read_with") (st := sWRWi) (by kernel_rfl)
  have bWRWi := FWRWi.binds (ps := PWRWi) fun _ _ _ _ _ _ us hl => match us, hl with | [_], _ => rfl
  have kWRWi := FWRWi.kp
  have gWRSt := He.glo_ok X G (x := "_law_read_statement") (c.fact 22 (by kernel_rfl))
  obtain ⟨fdWRSt, FWRSt⟩ := c.def_ 22 (a := ("_law_read_statement", none)) (x := "_law_read_statement") (q := "_law_read_statement") (st := sWRSt) (by kernel_rfl)
  have bWRSt := FWRSt.binds (ps := PWRSt) fun _ _ _ _ _ _ us hl => match us, hl with | [_], _ => rfl
  have kWRSt := FWRSt.kp
  have gWRBk := He.glo_ok X G (x := "_law_read_block") (c.fact 23 (by kernel_rfl))
  obtain ⟨fdWRBk, FWRBk⟩ := c.def_ 23 (a := ("_law_read_block", none)) (x := "_law_read_block") (q := "_law_read_block") (st := sWRBk) (by kernel_rfl)
  have bWRBk := FWRBk.binds (ps := PWRBk) fun _ _ _ _ _ _ us hl => match us, hl with | [_], _ => rfl
  have kWRBk := FWRBk.kp
  have gWRDf := He.glo_ok X G (x := "_law_read_def") (c.fact 24 (by kernel_rfl))
  obtain ⟨fdWRDf, FWRDf⟩ := c.def_ 24 (a := ("_law_read_def", none)) (x := "_law_read_def") (q := "_law_read_def") (st := sWRDf) (by kernel_rfl)
  have bWRDf := FWRDf.binds (ps := PWRDf) fun _ _ _ _ _ _ us hl => match us, hl with | [_], _ => rfl
  have kWRDf := FWRDf.kp
  have gWFst := He.glo_ok X G (x := "_law_first_wrong") (c.fact 25 (by kernel_rfl))
  obtain ⟨fdWFst, FWFst⟩ := c.def_ 25 (a := ("_law_first_wrong", none)) (x := "_law_first_wrong") (q := "_law_first_wrong") (st := sWFst) (by kernel_rfl)
  have bWFst := FWFst.binds (ps := PWFst) fun _ _ _ _ _ _ us hl => match us, hl with | [_], _ => rfl
  have kWFst := FWFst.kp
  have gGSm := He.glo_ok X G (x := "_law_some_sum") (c.fact 26 (by kernel_rfl))
  obtain ⟨fdGSm, FGSm⟩ := c.def_ 26 (a := ("_law_some_sum", none)) (x := "_law_some_sum") (q := "_law_some_sum") (st := sGSm) (by kernel_rfl)
  have bGSm := FGSm.binds (ps := PGSm) fun _ _ _ _ _ _ us hl => match us, hl with | [_, _], _ => rfl
  have kGSm := FGSm.kp
  have gGLs := He.glo_ok X G (x := "_law_some_list") (c.fact 27 (by kernel_rfl))
  obtain ⟨fdGLs, FGLs⟩ := c.def_ 27 (a := ("_law_some_list", none)) (x := "_law_some_list") (q := "_law_some_list") (st := sGLs) (by kernel_rfl)
  have bGLs := FGLs.binds (ps := PGLs) fun _ _ _ _ _ _ us hl => match us, hl with | [_, _], _ => rfl
  have kGLs := FGLs.kp
  have gGCl := He.glo_ok X G (x := "_law_some_call") (c.fact 28 (by kernel_rfl))
  obtain ⟨fdGCl, FGCl⟩ := c.def_ 28 (a := ("_law_some_call", none)) (x := "_law_some_call") (q := "_law_some_call") (st := sGCl) (by kernel_rfl)
  have bGCl := FGCl.binds (ps := PGCl) fun _ _ _ _ _ _ us hl => match us, hl with | [_, _], _ => rfl
  have kGCl := FGCl.kp
  have gGBk := He.glo_ok X G (x := "_law_some_block") (c.fact 29 (by kernel_rfl))
  obtain ⟨fdGBk, FGBk⟩ := c.def_ 29 (a := ("_law_some_block", none)) (x := "_law_some_block") (q := "_law_some_block") (st := sGBk) (by kernel_rfl)
  have bGBk := FGBk.binds (ps := PGBk) fun _ _ _ _ _ _ us hl => match us, hl with | [_, _, _], _ => rfl
  have kGBk := FGBk.kp
  have gGCm := He.glo_ok X G (x := "_law_some_compound") (c.fact 30 (by kernel_rfl))
  obtain ⟨fdGCm, FGCm⟩ := c.def_ 30 (a := ("_law_some_compound", none)) (x := "_law_some_compound") (q := "_law_some_compound") (st := sGCm) (by kernel_rfl)
  have bGCm := FGCm.binds (ps := PGCm) fun _ _ _ _ _ _ us hl => match us, hl with | [_, _, _], _ => rfl
  have kGCm := FGCm.kp
  have gGSt := He.glo_ok X G (x := "_law_some_statement") (c.fact 31 (by kernel_rfl))
  obtain ⟨fdGSt, FGSt⟩ := c.def_ 31 (a := ("_law_some_statement", none)) (x := "_law_some_statement") (q := "_law_some_statement") (st := sGSt) (by kernel_rfl)
  have bGSt := FGSt.binds (ps := PGSt) fun _ _ _ _ _ _ us hl => match us, hl with | [_, _, _], _ => rfl
  have kGSt := FGSt.kp
  have gGPg := He.glo_ok X G (x := "_law_some_program") (c.fact 32 (by kernel_rfl))
  obtain ⟨fdGPg, FGPg⟩ := c.def_ 32 (a := ("_law_some_program", none)) (x := "_law_some_program") (q := "_law_some_program") (st := sGPg) (by kernel_rfl)
  have bGPg := FGPg.binds (ps := PGPg) fun _ _ _ _ _ _ us hl => match us, hl with | [_, _], _ => rfl
  have kGPg := FGPg.kp
  have gGOt := He.glo_ok X G (x := "_law_other") (c.fact 33 (by kernel_rfl))
  obtain ⟨fdGOt, FGOt⟩ := c.def_ 33 (a := ("_law_other", none)) (x := "_law_other") (q := "_law_other") (st := sGOt) (by kernel_rfl)
  have bGOt := FGOt.binds (ps := PGOt) fun _ _ _ _ _ _ us hl => match us, hl with | [_, _], _ => rfl
  have kGOt := FGOt.kp
  have gLaw := He.glo_ok X G (x := "law") (c.fact 34 (by kernel_rfl))
  obtain ⟨fdLaw, FLaw⟩ := c.def_ 34 (a := ("law", none)) (x := "law") (q := "law") (st := sLaw) (by kernel_rfl)
  have bLaw := FLaw.binds (ps := PLaw) fun _ _ _ _ _ _ us hl => match us, hl with | [_], _ => rfl
  have kLaw := FLaw.kp
  have gReader := He.glo_ok X G (x := "Reader") (c.fact 35 (by kernel_rfl))
  have clReader := He.cls_ok (x := "Reader") (c.fact 36 (by kernel_rfl))
  have mkReader := He.mkr_ok (x := "Reader") (c.fact 37 (by kernel_rfl))
  have noReader_tokens := He.noat_ok (x := "Reader") (f := "tokens") (c.fact 38 (by kernel_rfl))
  have noReader_index_of_token := He.noat_ok (x := "Reader") (f := "index_of_token") (c.fact 39 (by kernel_rfl))
  have noReader_depth := He.noat_ok (x := "Reader") (f := "depth") (c.fact 40 (by kernel_rfl))
  have meRIni := He.meth_ok (x := "Reader") (m := "__init__") (c.fact 41 (by kernel_rfl))
  obtain ⟨fdRIni, FRIni⟩ := c.def_ 35 (a := ("Reader", some "__init__")) (x := "__init__") (q := "Reader.__init__") (st := sRIni) (by kernel_rfl)
  have bRIni := FRIni.binds (ps := PRIni) fun _ _ _ _ _ _ us hl => match us, hl with | [_, _], _ => rfl
  have kRIni := FRIni.kp
  have meRCur := He.meth_ok (x := "Reader") (m := "current") (c.fact 42 (by kernel_rfl))
  obtain ⟨fdRCur, FRCur⟩ := c.def_ 36 (a := ("Reader", some "current")) (x := "current") (q := "Reader.current") (st := sRCur) (by kernel_rfl)
  have bRCur := FRCur.binds (ps := PRCur) fun _ _ _ _ _ _ us hl => match us, hl with | [_], _ => rfl
  have kRCur := FRCur.kp
  have meRNext := He.meth_ok (x := "Reader") (m := "is_next") (c.fact 43 (by kernel_rfl))
  obtain ⟨fdRNext, FRNext⟩ := c.def_ 37 (a := ("Reader", some "is_next")) (x := "is_next") (q := "Reader.is_next") (st := sRNext) (by kernel_rfl)
  have bRNext := FRNext.binds (ps := PRNext) fun _ _ _ _ _ _ us hl => match us, hl with | [_, _], _ => rfl
  have kRNext := FRNext.kp
  have meRAcc := He.meth_ok (x := "Reader") (m := "accept") (c.fact 44 (by kernel_rfl))
  obtain ⟨fdRAcc, FRAcc⟩ := c.def_ 38 (a := ("Reader", some "accept")) (x := "accept") (q := "Reader.accept") (st := sRAcc) (by kernel_rfl)
  have bRAcc := FRAcc.binds (ps := PRAcc) fun _ _ _ _ _ _ us hl => match us, hl with | [_, _], _ => rfl
  have kRAcc := FRAcc.kp
  have meRExp := He.meth_ok (x := "Reader") (m := "expect") (c.fact 45 (by kernel_rfl))
  obtain ⟨fdRExp, FRExp⟩ := c.def_ 39 (a := ("Reader", some "expect")) (x := "expect") (q := "Reader.expect") (st := sRExp) (by kernel_rfl)
  have bRExp := FRExp.binds (ps := PRExp) fun _ _ _ _ _ _ us hl => match us, hl with | [_, _], _ => rfl
  have kRExp := FRExp.kp
  have meRName := He.meth_ok (x := "Reader") (m := "read_name") (c.fact 46 (by kernel_rfl))
  obtain ⟨fdRName, FRName⟩ := c.def_ 40 (a := ("Reader", some "read_name")) (x := "read_name") (q := "Reader.read_name") (st := sRName) (by kernel_rfl)
  have bRName := FRName.binds (ps := PRName) fun _ _ _ _ _ _ us hl => match us, hl with | [_], _ => rfl
  have kRName := FRName.kp
  have meRNms := He.meth_ok (x := "Reader") (m := "read_names") (c.fact 47 (by kernel_rfl))
  obtain ⟨fdRNms, FRNms⟩ := c.def_ 41 (a := ("Reader", some "read_names")) (x := "read_names") (q := "Reader.read_names") (st := sRNms) (by kernel_rfl)
  have bRNms := FRNms.binds (ps := PRNms) fun _ _ _ _ _ _ us hl => match us, hl with | [_], _ => rfl
  have kRNms := FRNms.kp
  have meRRow := He.meth_ok (x := "Reader") (m := "read_row") (c.fact 48 (by kernel_rfl))
  obtain ⟨fdRRow, FRRow⟩ := c.def_ 42 (a := ("Reader", some "read_row")) (x := "read_row") (q := "Reader.read_row") (st := sRRow) (by kernel_rfl)
  have bRRow := FRRow.binds (ps := PRRow) fun _ _ _ _ _ _ us hl => match us, hl with | [_], _ => rfl
  have kRRow := FRRow.kp
  have meRTerm := He.meth_ok (x := "Reader") (m := "read_term") (c.fact 49 (by kernel_rfl))
  obtain ⟨fdRTerm, FRTerm⟩ := c.def_ 43 (a := ("Reader", some "read_term")) (x := "read_term") (q := "Reader.read_term") (st := sRTerm) (by kernel_rfl)
  have bRTerm := FRTerm.binds (ps := PRTerm) fun _ _ _ _ _ _ us hl => match us, hl with | [_], _ => rfl
  have kRTerm := FRTerm.kp
  have meRExpr := He.meth_ok (x := "Reader") (m := "read_expression") (c.fact 50 (by kernel_rfl))
  obtain ⟨fdRExpr, FRExpr⟩ := c.def_ 44 (a := ("Reader", some "read_expression")) (x := "read_expression") (q := "Reader.read_expression") (st := sRExpr) (by kernel_rfl)
  have bRExpr := FRExpr.binds (ps := PRExpr) fun _ _ _ _ _ _ us hl => match us, hl with | [_], _ => rfl
  have kRExpr := FRExpr.kp
  have meRArg := He.meth_ok (x := "Reader") (m := "read_arg") (c.fact 51 (by kernel_rfl))
  obtain ⟨fdRArg, FRArg⟩ := c.def_ 45 (a := ("Reader", some "read_arg")) (x := "read_arg") (q := "Reader.read_arg") (st := sRArg) (by kernel_rfl)
  have bRArg := FRArg.binds (ps := PRArg) fun _ _ _ _ _ _ us hl => match us, hl with | [_], _ => rfl
  have kRArg := FRArg.kp
  have meRArgs := He.meth_ok (x := "Reader") (m := "read_args") (c.fact 52 (by kernel_rfl))
  obtain ⟨fdRArgs, FRArgs⟩ := c.def_ 46 (a := ("Reader", some "read_args")) (x := "read_args") (q := "Reader.read_args") (st := sRArgs) (by kernel_rfl)
  have bRArgs := FRArgs.binds (ps := PRArgs) fun _ _ _ _ _ _ us hl => match us, hl with | [_], _ => rfl
  have kRArgs := FRArgs.kp
  have meRBlk := He.meth_ok (x := "Reader") (m := "read_block") (c.fact 53 (by kernel_rfl))
  obtain ⟨fdRBlk, FRBlk⟩ := c.def_ 47 (a := ("Reader", some "read_block")) (x := "read_block") (q := "Reader.read_block") (st := sRBlk) (by kernel_rfl)
  have bRBlk := FRBlk.binds (ps := PRBlk) fun _ _ _ _ _ _ us hl => match us, hl with | [_], _ => rfl
  have kRBlk := FRBlk.kp
  have meRStm := He.meth_ok (x := "Reader") (m := "read_statement") (c.fact 54 (by kernel_rfl))
  obtain ⟨fdRStm, FRStm⟩ := c.def_ 48 (a := ("Reader", some "read_statement")) (x := "read_statement") (q := "Reader.read_statement") (st := sRStm) (by kernel_rfl)
  have bRStm := FRStm.binds (ps := PRStm) fun _ _ _ _ _ _ us hl => match us, hl with | [_], _ => rfl
  have kRStm := FRStm.kp
  have meRAct := He.meth_ok (x := "Reader") (m := "read_action") (c.fact 55 (by kernel_rfl))
  obtain ⟨fdRAct, FRAct⟩ := c.def_ 49 (a := ("Reader", some "read_action")) (x := "read_action") (q := "Reader.read_action") (st := sRAct) (by kernel_rfl)
  have bRAct := FRAct.binds (ps := PRAct) fun _ _ _ _ _ _ us hl => match us, hl with | [_], _ => rfl
  have kRAct := FRAct.kp
  have meRTry := He.meth_ok (x := "Reader") (m := "read_try") (c.fact 56 (by kernel_rfl))
  obtain ⟨fdRTry, FRTry⟩ := c.def_ 50 (a := ("Reader", some "read_try")) (x := "read_try") (q := "Reader.read_try") (st := sRTry) (by kernel_rfl)
  have bRTry := FRTry.binds (ps := PRTry) fun _ _ _ _ _ _ us hl => match us, hl with | [_], _ => rfl
  have kRTry := FRTry.kp
  have meRWth := He.meth_ok (x := "Reader") (m := "read_with") (c.fact 57 (by kernel_rfl))
  obtain ⟨fdRWth, FRWth⟩ := c.def_ 51 (a := ("Reader", some "read_with")) (x := "read_with") (q := "Reader.read_with") (st := sRWth) (by kernel_rfl)
  have bRWth := FRWth.binds (ps := PRWth) fun _ _ _ _ _ _ us hl => match us, hl with | [_], _ => rfl
  have kRWth := FRWth.kp
  have meRPar := He.meth_ok (x := "Reader") (m := "read_param") (c.fact 58 (by kernel_rfl))
  obtain ⟨fdRPar, FRPar⟩ := c.def_ 52 (a := ("Reader", some "read_param")) (x := "read_param") (q := "Reader.read_param") (st := sRPar) (by kernel_rfl)
  have bRPar := FRPar.binds (ps := PRPar) fun _ _ _ _ _ _ us hl => match us, hl with | [_], _ => rfl
  have kRPar := FRPar.kp
  have meRFun := He.meth_ok (x := "Reader") (m := "read_function") (c.fact 59 (by kernel_rfl))
  obtain ⟨fdRFun, FRFun⟩ := c.def_ 53 (a := ("Reader", some "read_function")) (x := "read_function") (q := "Reader.read_function") (st := sRFun) (by kernel_rfl)
  have bRFun := FRFun.binds (ps := PRFun) fun _ _ _ _ _ _ us hl => match us, hl with | [_], _ => rfl
  have kRFun := FRFun.kp
  have meRPrg := He.meth_ok (x := "Reader") (m := "read_program") (c.fact 60 (by kernel_rfl))
  obtain ⟨fdRPrg, FRPrg⟩ := c.def_ 54 (a := ("Reader", some "read_program")) (x := "read_program") (q := "Reader.read_program") (st := sRPrg) (by kernel_rfl)
  have bRPrg := FRPrg.binds (ps := PRPrg) fun _ _ _ _ _ _ us hl => match us, hl with | [_], _ => rfl
  have kRPrg := FRPrg.kp
  have x_0 : XcK K (He.ga K "InvalidText") (.ref (He.ga K "ProgramError") :: XC.tlV) "ValueError.__new__" "value" := xcB_ok (c.x 0 (f := fun K => xcB K "InvalidText" (.ref (He.ga K "ProgramError") :: XC.tlV) "ValueError.__new__" "value") (by kernel_rfl))
  have gInvalidText := He.glo_ok X G (x := "InvalidText") (c.fact 61 (by kernel_rfl))
  have meXI0 := He.meth_ok (x := "InvalidText") (m := "__init__") (c.fact 62 (by kernel_rfl))
  obtain ⟨fdXI0, FXI0⟩ := c.def_ 55 (a := ("InvalidText", some "__init__")) (x := "__init__") (q := "InvalidText.__init__") (st := sXI0) (by kernel_rfl)
  have bXI0 := FXI0.binds (ps := PXI0) fun _ _ _ _ _ _ us hl => match us, hl with | [_, _], _ => rfl
  have kXI0 := FXI0.kp
  have x_1 : XcK K (He.ga K "InvalidSyntax") (.ref (He.ga K "ProgramError") :: XC.tlV) "ValueError.__new__" "position" := xcB_ok (c.x 1 (f := fun K => xcB K "InvalidSyntax" (.ref (He.ga K "ProgramError") :: XC.tlV) "ValueError.__new__" "position") (by kernel_rfl))
  have gInvalidSyntax := He.glo_ok X G (x := "InvalidSyntax") (c.fact 63 (by kernel_rfl))
  have meXI1 := He.meth_ok (x := "InvalidSyntax") (m := "__init__") (c.fact 64 (by kernel_rfl))
  obtain ⟨fdXI1, FXI1⟩ := c.def_ 56 (a := ("InvalidSyntax", some "__init__")) (x := "__init__") (q := "InvalidSyntax.__init__") (st := sXI1) (by kernel_rfl)
  have bXI1 := FXI1.binds (ps := PXI1) fun _ _ _ _ _ _ us hl => match us, hl with | [_, _], _ => rfl
  have kXI1 := FXI1.kp
  have x_2 : XcK K (He.ga K "TooLarge") (.ref (He.ga K "ProgramError") :: XC.tlV) "ValueError.__new__" "word" := xcB_ok (c.x 2 (f := fun K => xcB K "TooLarge" (.ref (He.ga K "ProgramError") :: XC.tlV) "ValueError.__new__" "word") (by kernel_rfl))
  have gTooLarge := He.glo_ok X G (x := "TooLarge") (c.fact 65 (by kernel_rfl))
  have meXI2 := He.meth_ok (x := "TooLarge") (m := "__init__") (c.fact 66 (by kernel_rfl))
  obtain ⟨fdXI2, FXI2⟩ := c.def_ 57 (a := ("TooLarge", some "__init__")) (x := "__init__") (q := "TooLarge.__init__") (st := sXI2) (by kernel_rfl)
  have bXI2 := FXI2.binds (ps := PXI2) fun _ _ _ _ _ _ us hl => match us, hl with | [_, _], _ => rfl
  have kXI2 := FXI2.kp
  have m_int := He.free_ok X G (x := "int") (c.fact 67 (by kernel_rfl))
  have m_len := He.free_ok X G (x := "len") (c.fact 68 (by kernel_rfl))
  have m_isinstance := He.free_ok X G (x := "isinstance") (c.fact 69 (by kernel_rfl))
  have m_str := He.free_ok X G (x := "str") (c.fact 70 (by kernel_rfl))
  have m_range := He.free_ok X G (x := "range") (c.fact 71 (by kernel_rfl))
  have m_tuple := He.free_ok X G (x := "tuple") (c.fact 72 (by kernel_rfl))
  have m_bool := He.free_ok X G (x := "bool") (c.fact 73 (by kernel_rfl))
  have m_sorted := He.free_ok X G (x := "sorted") (c.fact 74 (by kernel_rfl))
  obtain ⟨t_LETTERS, m_LETTERS⟩ := He.str_ok X G (x := "LETTERS") (z := LET) (c.fact 75 (by kernel_rfl))
  obtain ⟨t_DIGITS, m_DIGITS⟩ := He.str_ok X G (x := "DIGITS") (z := DIG) (c.fact 76 (by kernel_rfl))
  obtain ⟨t_SIGNS, m_SIGNS⟩ := He.str_ok X G (x := "SIGNS") (z := SIG) (c.fact 77 (by kernel_rfl))
  obtain ⟨t_LONGEST, m_LONGEST⟩ := He.int_ok X G (x := "LONGEST") (i := 12) (c.fact 78 (by kernel_rfl))
  obtain ⟨t_DEEPEST, m_DEEPEST⟩ := He.int_ok X G (x := "DEEPEST") (i := 30) (c.fact 79 (by kernel_rfl))
  have m_KEYWORDS := He.glo_ok X G (x := "KEYWORDS") (c.fact 80 (by kernel_rfl))
  have l_KEYWORDS := fun H => He.tupB_ok (K := K) (x := "KEYWORDS") (vs := [.str "globals", .str "kinds", .str "keep", .str "def", .str "if", .str "else", .str "while", .str "risk", .str "raise", .str "try", .str "except", .str "finally", .str "undo", .str "with", .str "swallow", .str "return"]) (c.x 3 (f := fun K => He.tupB K "KEYWORDS" [.str "globals", .str "kinds", .str "keep", .str "def", .str "if", .str "else", .str "while", .str "risk", .str "raise", .str "try", .str "except", .str "finally", .str "undo", .str "with", .str "swallow", .str "return"]) (by kernel_rfl)) H
  have c_ss := c.x 4 (f := fun K => decide (PySem.W.exmOne K (.ref (He.ga K "InvalidSyntax")) (.ref (He.ga K "InvalidSyntax")) = some true)) (by kernel_rfl)
  have hE := hfa.symm.trans gLaw
  cases hE
  have T0 : TxPool mg := ⟨m_int, m_len⟩
  have TTk : TxTok K mg (He.ga K "KEYWORDS") := { n_len := m_len, c_LETTERS := ⟨_, m_LETTERS, _, rfl⟩, c_DIGITS := ⟨_, m_DIGITS, _, rfl⟩, c_SIGNS := ⟨_, m_SIGNS, _, rfl⟩, c_KEYWORDS := ⟨_, m_KEYWORDS, rfl⟩, kws := l_KEYWORDS }
  have TD : TxRd mg := { n_tuple := m_tuple, n_len := m_len, n_int := m_int, n_sorted := m_sorted }
  have TSu : TxSum mg := { toTxRd := TD, c_LONGEST := ⟨_, m_LONGEST, _, rfl⟩ }
  have TB : TxBlk mg := { toTxSum := TSu, c_DEEPEST := ⟨_, m_DEEPEST, _, rfl⟩ }
  have TR : TxR K (He.ga K "Reader") := ⟨clReader, noReader_tokens, noReader_index_of_token, noReader_depth⟩
  have T4 : TxG4 mg := ⟨m_len, m_range⟩
  refine ⟨fdLaw, ?_, fun base kB gB => ?_⟩
  · obtain ⟨_, _, _, _, _, _, _, _, _, rfl, _, _⟩ := FLaw.ex
    exact fun s v => .of_eq rfl
  have X : ErrH l.prog w K mg base (fun i => ([(He.ga K "InvalidText"), (He.ga K "InvalidSyntax"), (He.ga K "TooLarge")] : List Addr).getD i 0) :=
    ⟨⟨_, _, _, oexV x_0, meXI0.at_, eq_of_beq meXI0.fn, ok_XI0 FXI0 (oexV x_0) x_0.no, gInvalidText, bXI0⟩, ⟨_, _, _, oexV x_1, meXI1.at_, eq_of_beq meXI1.fn, ok_XI1 FXI1 (oexV x_1) x_1.no, gInvalidSyntax, bXI1⟩, ⟨_, _, _, oexV x_2, meXI2.at_, eq_of_beq meXI2.fn, ok_XI2 FXI2 (oexV x_2) x_2.no, gTooLarge, bXI2⟩⟩
  have M : ErrN4 K (fun i => ([(He.ga K "InvalidText"), (He.ga K "InvalidSyntax"), (He.ga K "TooLarge")] : List Addr).getD i 0) := ⟨of_decide_eq_true c_ss, x_1.xf (bmB := XC.tlV) (by show PySem.W.excTail XC.tlV XC.tlV = true; decide +kernel) (by decide +kernel), x_1.no⟩
  have GM : Has l.prog w K mg base CX0 1 "_law_mixed" PMixed spMixed := ⟨_, _, ok_Mixed FMixed T0, gMixed, kMixed, bMixed⟩
  have GD : Has l.prog w K mg base CX0 2 "_law_draw" PDraw spDraw := ⟨_, _, ok_Draw FDraw T0 GM, gDraw, kDraw, bDraw⟩
  have GP : Has l.prog w K mg base CX0 1 "_law_pool" PPool (spPool K) := ⟨_, _, ok_Pool FPool T0, gPool, kPool, bPool⟩
  have GK : Has l.prog w K mg base CX0 1 "kind_of" PKindOf spKind := ⟨_, _, ok_KindOf FKindOf TTk, gKindOf, kKindOf, bKindOf⟩
  have GE : Has l.prog w K mg base CX0 1 "end_of_run" PEndRun spEnd := ⟨_, _, ok_EndRun FEndRun TTk, gEndRun, kEndRun, bEndRun⟩
  have GTo : Has l.prog w K mg base CX0 2 "tokens_of" PToksOf spToks := ⟨_, _, ok_ToksOf FToksOf TTk GK GE, gToksOf, kToksOf, bToksOf⟩
  have GEx : Has l.prog w K mg base CX0 1 "expression_of" PExprOf spExprOf := ⟨_, _, ok_ExprOf FExprOf TSu, gExprOf, kExprOf, bExprOf⟩
  have HC : HasC l.prog w K mg base CX0 3 "Reader" (He.ga K "Reader") PRIni (spRIni (He.ga K "Reader")) := ⟨_, _, mkReader, ok_RIni FRIni TR GTo, gReader, bRIni⟩
  have MC0 : HasM l.prog w K mg base CX0 1 (He.ga K "Reader") "current" PRCur (spCurr (He.ga K "Reader")) := ⟨_, _, meRCur, ok_RCur FRCur TR, bRCur⟩
  have MN0 : HasM l.prog w K mg base CX0 2 (He.ga K "Reader") "is_next" PRNext (spNext (He.ga K "Reader")) := ⟨_, _, meRNext, ok_RNext FRNext TR MC0, bRNext⟩
  have MA0 : HasM l.prog w K mg base CX0 3 (He.ga K "Reader") "accept" PRAcc (spAcc (He.ga K "Reader")) := ⟨_, _, meRAcc, ok_RAcc FRAcc TR MN0, bRAcc⟩
  have MC := cur_G MC0
  have MI := nxt_G MN0
  have MA := acc_G MA0
  have MX : HasM l.prog w K mg base (L2N.CX l.prog w) (4) (He.ga K "Reader") "expect" PRExp (spExpG ((fun i => ([(He.ga K "InvalidText"), (He.ga K "InvalidSyntax"), (He.ga K "TooLarge")] : List Addr).getD i 0) 1) ((fun i => ([(He.ga K "InvalidText"), (He.ga K "InvalidSyntax"), (He.ga K "TooLarge")] : List Addr).getD i 0) 2) (He.ga K "Reader")) := ⟨_, _, meRExp, ok_RExpG FRExp TR X MC MA, bRExp⟩
  have MM : HasM l.prog w K mg base (L2N.CX l.prog w) (3) (He.ga K "Reader") "read_name" PRName (spRdN ((fun i => ([(He.ga K "InvalidText"), (He.ga K "InvalidSyntax"), (He.ga K "TooLarge")] : List Addr).getD i 0) 1) ((fun i => ([(He.ga K "InvalidText"), (He.ga K "InvalidSyntax"), (He.ga K "TooLarge")] : List Addr).getD i 0) 2) (He.ga K "Reader") rName) := ⟨_, _, meRName, ok_RNameG FRName TR X MC, bRName⟩
  have MN : HasM l.prog w K mg base (L2N.CX l.prog w) (4) (He.ga K "Reader") "read_names" PRNms (spRd ((fun i => ([(He.ga K "InvalidText"), (He.ga K "InvalidSyntax"), (He.ga K "TooLarge")] : List Addr).getD i 0) 1) ((fun i => ([(He.ga K "InvalidText"), (He.ga K "InvalidSyntax"), (He.ga K "TooLarge")] : List Addr).getD i 0) 2) (He.ga K "Reader") rNames) := ⟨_, _, meRNms, ok_RNmsG FRNms m_tuple TR MA MM, bRNms⟩
  have MR : HasM l.prog w K mg base (L2N.CX l.prog w) (4) (He.ga K "Reader") "read_row" PRRow (spRd ((fun i => ([(He.ga K "InvalidText"), (He.ga K "InvalidSyntax"), (He.ga K "TooLarge")] : List Addr).getD i 0) 1) ((fun i => ([(He.ga K "InvalidText"), (He.ga K "InvalidSyntax"), (He.ga K "TooLarge")] : List Addr).getD i 0) 2) (He.ga K "Reader") rRow) := ⟨_, _, meRRow, ok_RRowG FRRow m_tuple TR MC MM, bRRow⟩
  have MT : HasM l.prog w K mg base (L2N.CX l.prog w) (4) (He.ga K "Reader") "read_term" PRTerm (spTermG ((fun i => ([(He.ga K "InvalidText"), (He.ga K "InvalidSyntax"), (He.ga K "TooLarge")] : List Addr).getD i 0) 1) ((fun i => ([(He.ga K "InvalidText"), (He.ga K "InvalidSyntax"), (He.ga K "TooLarge")] : List Addr).getD i 0) 2) (He.ga K "Reader")) := ⟨_, _, meRTerm, ok_RTermG FRTerm TSu TR X MC MA MM, bRTerm⟩
  have ME : HasM l.prog w K mg base (L2N.CX l.prog w) (5) (He.ga K "Reader") "read_expression" PRExpr (spRd ((fun i => ([(He.ga K "InvalidText"), (He.ga K "InvalidSyntax"), (He.ga K "TooLarge")] : List Addr).getD i 0) 1) ((fun i => ([(He.ga K "InvalidText"), (He.ga K "InvalidSyntax"), (He.ga K "TooLarge")] : List Addr).getD i 0) 2) (He.ga K "Reader") rExpr) := ⟨_, _, meRExpr, ok_RExprG FRExpr TSu TR MT MA GEx, bRExpr⟩
  have MG : HasM l.prog w K mg base (L2N.CX l.prog w) (6) (He.ga K "Reader") "read_arg" PRArg (spRd ((fun i => ([(He.ga K "InvalidText"), (He.ga K "InvalidSyntax"), (He.ga K "TooLarge")] : List Addr).getD i 0) 1) ((fun i => ([(He.ga K "InvalidText"), (He.ga K "InvalidSyntax"), (He.ga K "TooLarge")] : List Addr).getD i 0) 2) (He.ga K "Reader") rArg) := ⟨_, _, meRArg, ok_RArgG FRArg TR MM MA ME, bRArg⟩
  have MGs : HasM l.prog w K mg base (L2N.CX l.prog w) (7) (He.ga K "Reader") "read_args" PRArgs (spRd ((fun i => ([(He.ga K "InvalidText"), (He.ga K "InvalidSyntax"), (He.ga K "TooLarge")] : List Addr).getD i 0) 1) ((fun i => ([(He.ga K "InvalidText"), (He.ga K "InvalidSyntax"), (He.ga K "TooLarge")] : List Addr).getD i 0) 2) (He.ga K "Reader") rArgs) := ⟨_, _, meRArgs, ok_RArgsG FRArgs TD TR MG MA MX, bRArgs⟩
  have MPa : HasM l.prog w K mg base (L2N.CX l.prog w) (4) (He.ga K "Reader") "read_param" PRPar (spRd ((fun i => ([(He.ga K "InvalidText"), (He.ga K "InvalidSyntax"), (He.ga K "TooLarge")] : List Addr).getD i 0) 1) ((fun i => ([(He.ga K "InvalidText"), (He.ga K "InvalidSyntax"), (He.ga K "TooLarge")] : List Addr).getD i 0) 2) (He.ga K "Reader") rParam) := ⟨_, _, meRPar, ok_RParG FRPar TR MM MA, bRPar⟩
  have MAc : HasM l.prog w K mg base (L2N.CX l.prog w) (8) (He.ga K "Reader") "read_action" PRAct (spRd ((fun i => ([(He.ga K "InvalidText"), (He.ga K "InvalidSyntax"), (He.ga K "TooLarge")] : List Addr).getD i 0) 1) ((fun i => ([(He.ga K "InvalidText"), (He.ga K "InvalidSyntax"), (He.ga K "TooLarge")] : List Addr).getD i 0) 2) (He.ga K "Reader") rAction) := ⟨_, _, meRAct, ok_RActG FRAct TR MC MI MM MA MX ME MGs, bRAct⟩
  have MBl : HasM l.prog w K mg base (L2N.CX l.prog w) (9 + 3 * 30) (He.ga K "Reader") "read_block" PRBlk (spRdD ((fun i => ([(He.ga K "InvalidText"), (He.ga K "InvalidSyntax"), (He.ga K "TooLarge")] : List Addr).getD i 0) 1) ((fun i => ([(He.ga K "InvalidText"), (He.ga K "InvalidSyntax"), (He.ga K "TooLarge")] : List Addr).getD i 0) 2) (He.ga K "Reader") 30 (rBlock 30)) := ⟨_, _, meRBlk, ok_RBlksG FRBlk FRStm FRTry FRWth TB TR X meRBlk bRBlk meRStm bRStm meRTry bRTry meRWth bRWth MC MI MA MM MX MN ME MGs MAc 30, bRBlk⟩
  have MFu : HasM l.prog w K mg base (L2N.CX l.prog w) (9 + 3 * 30 + 1) (He.ga K "Reader") "read_function" PRFun (spRdD ((fun i => ([(He.ga K "InvalidText"), (He.ga K "InvalidSyntax"), (He.ga K "TooLarge")] : List Addr).getD i 0) 1) ((fun i => ([(He.ga K "InvalidText"), (He.ga K "InvalidSyntax"), (He.ga K "TooLarge")] : List Addr).getD i 0) 2) (He.ga K "Reader") 30 rFunction) := ⟨_, _, meRFun, ok_RFunG FRFun TD TR MM MA MX MPa MBl, bRFun⟩
  have MPr : HasM l.prog w K mg base (L2N.CX l.prog w) (9 + 3 * 30 + 1 + 1) (He.ga K "Reader") "read_program" PRPrg (spRdD ((fun i => ([(He.ga K "InvalidText"), (He.ga K "InvalidSyntax"), (He.ga K "TooLarge")] : List Addr).getD i 0) 1) ((fun i => ([(He.ga K "InvalidText"), (He.ga K "InvalidSyntax"), (He.ga K "TooLarge")] : List Addr).getD i 0) 2) (He.ga K "Reader") 30 rProgram) := ⟨_, _, meRPrg, ok_RPrgG FRPrg TD TR X MC MA MR ME MFu, bRPrg⟩
  have GPa : Has l.prog w K mg base (L2N.CX l.prog w) (9 + 3 * 30 + 1 + 1 + 1) "parse" PParse (spParseG K ((fun i => ([(He.ga K "InvalidText"), (He.ga K "InvalidSyntax"), (He.ga K "TooLarge")] : List Addr).getD i 0) 1) ((fun i => ([(He.ga K "InvalidText"), (He.ga K "InvalidSyntax"), (He.ga K "TooLarge")] : List Addr).getD i 0) 2) ((fun i => ([(He.ga K "InvalidText"), (He.ga K "InvalidSyntax"), (He.ga K "TooLarge")] : List Addr).getD i 0) 0)) := ⟨_, _, ok_ParseG FParse m_isinstance m_str TR X HC MPr, gParse, kParse, bParse⟩
  have GN : Has l.prog w K mg base CX0 3 "_law_names" PNames spNames := ⟨_, _, ok_Names FNames ⟨m_str, m_range⟩ GD, gNames, kNames, bNames⟩
  have wNow : Has l.prog w K mg base CX0 (1) "_law_now" PWNow (spWNow) := ⟨_, _, ok_WNow FWNow m_len, gWNow, kWNow, bWNow⟩
  have wSkp : Has l.prog w K mg base CX0 (2) "_law_skip" PWSkp (spWSkp) := ⟨_, _, ok_WSkp FWSkp wNow, gWSkp, kWSkp, bWSkp⟩
  have wNam : Has l.prog w K mg base CX0 (1) "_law_is_name" PWNam (spWNam) := ⟨_, _, ok_WNam FWNam, gWNam, kWNam, bWNam⟩
  have wRNm : Has l.prog w K mg base CX0 (3) "_law_read_name" PWRNm (spWRd rName) := ⟨_, _, ok_WRNm FWRNm wNow wNam wSkp, gWRNm, kWRNm, bWRNm⟩
  have wRLs : Has l.prog w K mg base CX0 (4) "_law_read_list" PWRLs (spWRd rNames) := ⟨_, _, ok_WRLs FWRLs wRNm wSkp, gWRLs, kWRLs, bWRLs⟩
  have wRRw : Has l.prog w K mg base CX0 (4) "_law_read_row" PWRRw (spWRd rRow) := ⟨_, _, ok_WRRw FWRRw wRNm wNow wNam, gWRRw, kWRRw, bWRRw⟩
  have wRTm : Has l.prog w K mg base CX0 (4) "_law_read_term" PWRTm (spWRd rTerm) := ⟨_, _, ok_WRTm FWRTm wRNm wNow wSkp, gWRTm, kWRTm, bWRTm⟩
  have wRSm : Has l.prog w K mg base CX0 (5) "_law_read_sum" PWRSm (spWRd rExpr) := ⟨_, _, ok_WRSm FWRSm wRTm wSkp, gWRSm, kWRSm, bWRSm⟩
  have wRAr : Has l.prog w K mg base CX0 (6) "_law_read_arg" PWRAr (spWRd rArg) := ⟨_, _, ok_WRAr FWRAr wRNm wRSm wSkp, gWRAr, kWRAr, bWRAr⟩
  have wRAs : Has l.prog w K mg base CX0 (7) "_law_read_args" PWRAs (spWRd rArgs) := ⟨_, _, ok_WRAs FWRAs wRAr wSkp, gWRAs, kWRAs, bWRAs⟩
  have wRAc : Has l.prog w K mg base CX0 (8) "_law_read_action" PWRAc (spWRdN rAction) := ⟨_, _, ok_WRAc FWRAc wRNm wRSm wSkp wNow wNam wRAs, gWRAc, kWRAc, bWRAc⟩
  have wRBk : Has l.prog w K mg base CX0 (9 + 3 * 30) "_law_read_block" PWRBk (spWRd (rBlock 30)) := ⟨_, _, ok_WRBks FWRBk FWRSt FWRTy FWRWi gWRBk kWRBk bWRBk gWRSt kWRSt bWRSt gWRTy kWRTy bWRTy gWRWi kWRWi bWRWi wSkp wNow wNam wRNm wRLs wRSm wRAs wRAc 30, gWRBk, kWRBk, bWRBk⟩
  have wRDf : Has l.prog w K mg base CX0 (9 + 3 * 30 + 1) "_law_read_def" PWRDf (spWRd rFunction) := ⟨_, _, ok_WRDf FWRDf wSkp wRNm wRBk (by decide), gWRDf, kWRDf, bWRDf⟩
  have wFst : Has l.prog w K mg base CX0 (9 + 3 * 30 + 1 + 1) "_law_first_wrong" PWFst (spWFst) := ⟨_, _, ok_WFst FWFst m_len wSkp wRRw wRSm wRDf (by decide), gWFst, kWFst, bWFst⟩
  have wGLs : Has l.prog w K mg base CX0 (3) "_law_some_list" PGLs (spGs 10 5) := ⟨_, _, ok_GLs FGLs T4 GD, gGLs, kGLs, bGLs⟩
  have wGSm : Has l.prog w K mg base CX0 (3) "_law_some_sum" PGSm (spGs 20 12) := ⟨_, _, ok_GSm FGSm T4 GD, gGSm, kGSm, bGSm⟩
  have wGCl : Has l.prog w K mg base CX0 (4) "_law_some_call" PGCl (spGs 60 30) := ⟨_, _, ok_GCl FGCl T4 GD wGSm, gGCl, kGCl, bGCl⟩
  have wGBk : Has l.prog w K mg base CX0 (17) "_law_some_block" PGBk (spGBk 4) := ⟨_, _, ok_GBks FGSt FGBk FGCm T4 gGSt kGSt bGSt gGBk kGBk bGBk gGCm kGCm bGCm GD wGLs wGSm wGCl 4, gGBk, kGBk, bGBk⟩
  have wGPg : Has l.prog w K mg base CX0 (18) "_law_some_program" PGPg (spGPg) := ⟨_, _, ok_GPg FGPg T4 GD wGLs wGSm wGBk, gGPg, kGPg, bGPg⟩
  have wGOt : Has l.prog w K mg base CX0 (3) "_law_other" PGOt (spGOt) := ⟨_, _, ok_GOt FGOt T4 GD, gGOt, kGOt, bGOt⟩
  exact ok_Law FLaw ⟨m_len, m_isinstance, m_int, m_bool⟩ X M GP GD GN wGPg wGOt wFst GPa
end Aon
open PySem PySem.W PySem.Calls PyProof.Rows
set_option maxRecDepth 100000 in
set_option maxHeartbeats 0 in
theorem PySem.Challenge.cw_allornothing_k04_positions_of_syntax_err_holds : PySem.Challenge.rw_allornothing_k04_positions_of_syntax_err.Holds := by
  w_on; o_law
  refine HandSHeadRun.head_any (r := PySem.W.OpenLaw.row PySem.Challenge.rw_allornothing_k04_positions_of_syntax_err) (q := Aon.khQ) (H := Aon.khH) (ob := Aon.khO) (M := 60000) (loose := Aon.khN) (d := HandSHeadRun.topDef (PySem.W.OpenLaw.row PySem.Challenge.rw_allornothing_k04_positions_of_syntax_err).prog 49) (kwd := []) Aon.khO_eq
    (by kernel_rfl) (fun s => by kernel_rfl) Aon.khRun (by kernel_rfl) (by kernel_rfl) (by kernel_rfl) (by rfl) (by first | assumption | decide +kernel) (by decide +kernel) ⟨rfl, rfl, rfl, rfl, rfl, by decide +kernel⟩ ?hw ?hc
  case hw => w_witness2
  case hc =>
    refine L2.walk_ofE (l := PySem.Challenge.rw_allornothing_k04_positions_of_syntax_err) (n := 63) (k := 103) (x := "_law_script") (CX := L2.CX0) rfl (by decide) (by kernel_rfl) ⟨rfl, by decide, by decide⟩ ?F (fun _ _ _ _ z => z)
    intro w mg fa h Y G hmg0
    obtain ⟨K, KX, c⟩ := Y
    have hmg : mg ("law" : PySem.Str) = some (.ref fa) := by
      have e : (HandSHeadRun.topDef (PySem.W.OpenLaw.row PySem.Challenge.rw_allornothing_k04_positions_of_syntax_err).prog 49).name = ("law" : PySem.Str) := by kernel_rfl
      rw [← e]
      exact hmg0
    obtain ⟨fd, hb, hF⟩ := Aon.khFacts (l := PySem.Challenge.rw_allornothing_k04_positions_of_syntax_err) (w := w) KX G hmg c
    exact ⟨K, fd, Aon.spLaw K, KX, hb, fun _ a ns hl _ hS => ⟨a, ns, rfl, hS, hl, fun _ => rfl⟩, hF⟩
#print axioms PySem.Challenge.cw_allornothing_k04_positions_of_syntax_err_holds

