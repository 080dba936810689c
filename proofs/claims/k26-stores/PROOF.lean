import PyProof.Rows.All
import Wide.All
import OpenK.AllK
import Wide.FinOn
import HandS.ForMost
import HandS.Wide
import HandS.IsInst
import HandS.Walk
import HandS.Flow
import HandS.Property
import HandS.Star
import HandS.DictComp
import HandS.Conv
import PySem.Challenge.RW_allornothing_k26_stores
set_option Elab.async false
set_option linter.all false
set_option maxRecDepth 100000
set_option maxHeartbeats 4000000
namespace Aon
open PySem L2
def topS (i : Nat) : Stmt := PySem.Challenge.pw_allornothing_k26_stores.main.body.getD i (.Pass ⟨0, 0, 0, 0⟩)
/-! ### words of this text, over HandS -/
theorem bb_int : bootBuiltins "int" = some (.type "int") := by decide +kernel
theorem bb_str : bootBuiltins "str" = some (.type "str") := by decide +kernel
theorem bb_bool : bootBuiltins "bool" = some (.type "bool") := by decide +kernel
theorem bb_list : bootBuiltins "list" = some (.type "list") := by decide +kernel
theorem bb_tuple : bootBuiltins "tuple" = some (.type "tuple") := by decide +kernel
theorem bb_len : bootBuiltins "len" = some (.builtin "len") := by decide +kernel
theorem bb_all : bootBuiltins "all" = some (.builtin "all") := by decide +kernel
theorem bb_isinstance : bootBuiltins "isinstance" = some (.builtin "isinstance") := by decide +kernel
/-- a def that stands under its name: its promise, and how it is called -/
structure Has (P : Program) (w : World) (K : PySem.W.Frag) (mg : Str → Option Value) (base : Heap) (CX : CXT) (k : Nat) (x : Str) (ps : List Str) (sp : Sp) : Prop where
  ex : ∃ (f : Addr) (fd : FuncData), FnOk P w K mg base CX k f fd ps sp ∧ mg x = some (.ref f) ∧ PySem.W.keepIn K (.ref f) = true ∧ Binds K fd ps []
section
variable {X : Cx}
theorem pe_callH {CX : CXT} {k : Nat} {x : Str} {ps : List Str} {sp : Sp} {E : XK} {e : Expr} {es : List Expr} {t : TA} {p pos : Pos} (F : Has X.prog X.w X.K X.mg X.base CX k x ps sp) (hr : Room k X.A) (hg : Gl X x) (hx : Passes CX X E) (ha : PA X (e :: es) t)
    (hd : (x == ("__debug__" : Str)) = false := by decide) (he : starEach (e :: es) X.env = (false, eval e X.env) :: starEach es X.env := by rfl) (hpl : (backTo pos (starEach es X.env)).any (·.1) = false := by rfl) :
    PE X (.Call (.Name x p) (e :: es) [] pos) (tCall sp [] E t) := by
  obtain ⟨f, fd, F, m, kp, b⟩ := F.ex
  exact pe_call F hr hg m kp b .nil hx ha hd he hpl
theorem pe_callH0 {CX : CXT} {k : Nat} {x : Str} {ps : List Str} {sp : Sp} {E : XK} {p pos : Pos} (F : Has X.prog X.w X.K X.mg X.base CX k x ps sp) (hr : Room k X.A) (hg : Gl X x) (hx : Passes CX X E) (hd : (x == ("__debug__" : Str)) = false := by decide) :
    PE X (.Call (.Name x p) [] [] pos) (tCall sp [] E tNil) := by
  obtain ⟨f, fd, F, m, kp, b⟩ := F.ex
  exact pe_call0 F hr hg m kp b .nil hx hd
theorem pe_globE {x : Str} {v : V} {pos : Pos} (hg : Gl X x) (hm : ∃ u, X.mg x = some u ∧ RelV v u) (hd : (x == ("__debug__" : Str)) = false := by decide) : PE X (.Name x pos) (tC v) := by
  obtain ⟨u, m, r⟩ := hm
  exact pe_glob hg m r hd
end
/-- a method of the class at C; a class under its name -/
structure HasM (P : Program) (w : World) (K : PySem.W.Frag) (mg : Str → Option Value) (base : Heap) (CX : CXT) (k : Nat) (C : Addr) (m : Str) (ps : List Str) (sp : Sp) : Prop where
  ex : ∃ (f : Addr) (fd : FuncData), Meth K C m f ∧ FnOk P w K mg base CX k f fd ps sp ∧ Binds K fd ps []
structure HasC (P : Program) (w : World) (K : PySem.W.Frag) (mg : Str → Option Value) (base : Heap) (CX : CXT) (k : Nat) (x : Str) (C : Addr) (ps : List Str) (sp : Sp) : Prop where
  ex : ∃ (f : Addr) (fd : FuncData), Mk K C f ∧ FnOk P w K mg base CX k f fd ps sp ∧ mg x = some (.ref C) ∧ Binds K fd ps []
section
variable {X : Cx}
theorem pe_methH {CX : CXT} {k : Nat} {C : Addr} {m : Str} {ps : List Str} {sp : Sp} {E : XK} {o e : Expr} {es : List Expr} {ta : TE} {t : TA} {apos pos : Pos} {pl : Sem Bool} (he : PE X o ta) (c : Cls X.K C) (M : HasM X.prog X.w X.K X.mg X.base CX k C m ps sp) (hr : Room k X.A) (hx : Passes CX X E)
    (ha : PA X (e :: es) t) (hst : starEach (e :: es) X.env = (false, eval e X.env) :: starEach es X.env := by rfl) (hpl : (backTo pos (starEach es X.env)).any (·.1) = false := by rfl)
    (ht : eval (.Call (.Attribute o m apos) (e :: es) [] pos) X.env = (do
      let v ← eval o X.env
      standAt apos.atName
      let (g, r) ← holding [v] (getMethod v m pl)
      callWith pos g r (backTo pos (starEach (e :: es) X.env)) (backToKw pos (keywordEach [] X.env))) := by rfl) : PE X (.Call (.Attribute o m apos) (e :: es) [] pos) (tMeth C m sp [] E ta t) := by
  obtain ⟨f, fd, hm, F, b⟩ := M.ex
  exact pe_meth (pl := pl) he c hm F hr b .nil hx ha hst hpl ht
theorem pe_methH0 {CX : CXT} {k : Nat} {C : Addr} {m : Str} {ps : List Str} {sp : Sp} {E : XK} {o : Expr} {ta : TE} {apos pos : Pos} {pl : Sem Bool} (he : PE X o ta) (c : Cls X.K C) (M : HasM X.prog X.w X.K X.mg X.base CX k C m ps sp) (hr : Room k X.A) (hx : Passes CX X E)
    (ht : eval (.Call (.Attribute o m apos) [] [] pos) X.env = (do
      let v ← eval o X.env
      standAt apos.atName
      let (g, r) ← holding [v] (getMethod v m pl)
      callWith pos g r (backTo pos (starEach [] X.env)) (backToKw pos (keywordEach [] X.env))) := by rfl) : PE X (.Call (.Attribute o m apos) [] [] pos) (tMeth C m sp [] E ta tNil) := by
  obtain ⟨f, fd, hm, F, b⟩ := M.ex
  exact pe_meth0 (pl := pl) he c hm F hr b .nil hx ht
theorem pe_makeH {CX : CXT} {k : Nat} {x : Str} {C : Addr} {ps : List Str} {sp : Sp} {E : XK} {e : Expr} {es : List Expr} {t : TA} {p pos : Pos} (M : HasC X.prog X.w X.K X.mg X.base CX k x C ps sp) (hr : Room (k + 1) X.A) (hg : Gl X x) (hx : Passes CX X E) (ha : PA X (e :: es) t)
    (hd : (x == ("__debug__" : Str)) = false := by decide) (he : starEach (e :: es) X.env = (false, eval e X.env) :: starEach es X.env := by rfl) (hpl : (backTo pos (starEach es X.env)).any (·.1) = false := by rfl) :
    PE X (.Call (.Name x p) (e :: es) [] pos) (tMake C sp [] E t) := by
  obtain ⟨f, fd, mk, F, m, b⟩ := M.ex
  exact pe_make mk F hr hg m b .nil hx ha hd he hpl
theorem pe_propH {CX : CXT} {k : Nat} {C p : Addr} {f : Str} {ps : List Str} {sp : Sp} {E : XK} {e : Expr} {ta : TE} {pos : Pos} (he : PE X e ta) (c : Cls X.K C) (M : ∃ (g : Addr) (fd : FuncData), PropOf X.K C f p g ∧ FnOk X.prog X.w X.K X.mg X.base CX k g fd ps sp ∧ Binds X.K fd ps []) (hr : Room (k + 1) X.A) (hx : Passes CX X.nox E)
    (hab : attributeBase e f X.env (eval e X.env) = eval e X.env := by rfl) : PE X (.Attribute e f pos) (tProp C sp [] E ta) := by
  obtain ⟨g, fd, hp, F, b⟩ := M
  exact pe_prop he c hp F hr b .nil hx hab
end
/-- all but p and c stands -/
def But (p c : Addr) (H H' : Hp) : Prop := ∀ b o, H b = some o → b ≠ p → b ≠ c → H' b = some o
theorem But.refl {p c : Addr} {H : Hp} : But p c H H := fun _ _ e _ _ => e
theorem But.trans {p c : Addr} {H H1 H2 : Hp} (a : But p c H H1) (b : But p c H1 H2) : But p c H H2 := fun x o e h1 h2 => b x o (a x o e h1 h2) h1 h2
theorem iteE {c : Bool} {A B : Prop} (hc : c = false) (k : B) : if c = true then A else B := by
  rw [hc]
  exact iteF k
theorem iteS {c : Bool} {A B : Prop} (hc : c = true) (k : A) : if c = true then A else B := by
  rw [hc]
  exact iteT k

/-! ### {**d, k: v}: the rule -/
section
variable {prog : Program} {w : World} {A : Around} {E : Value → Shared → Prop} {s : Shared}
theorem dput_ok {d : Addr} {kvs : List (Key × Value)} {k : Key} {key v : Value} {Q : Unit → Shared → Prop} (hkey : (mixKind prog w).is k key = true) (hm : s.heap.DictOf (mixKind prog w) d kvs) (hz : kvs.length ≤ sizeLine)
    (hQ : ∀ h', h'.DictOf (mixKind prog w) d (stored kvs k v) → Heap.SameBut d s.heap h' → Q () { s with heap := h' }) :
    wpAny (model prog w) A (dictPut d ((mixKind prog w).hash k) key v) Q E s := by
  obtain ⟨ob, es, ep, e1, e2, e3, e4, e5, e6⟩ := hm
  have z1 : es.size ≤ sizeLine := by
    have q1 := e5.length
    rw [Array.length_toList] at q1
    omega
  have fe : (es.findIdx? fun e => (mixKind prog w).is k e.key) = kvs.findIdx? fun kv => decide (kv.1 = k) := by
    rw [← e5.findIdx k]
    cases es with
    | mk l => simp
  unfold dictPut
  refine wpAny_bind (wpAny_dictFind_of hkey e1 e3 e4 ?_)
  cases fi : es.findIdx? fun e => (mixKind prog w).is k e.key with
  | some i =>
    have an : (kvs.any fun kv => decide (kv.1 = k)) = true := any_of_findIdx_some (fe ▸ fi)
    refine wpAny_updateDict e1 e3 (hQ _ ⟨_, _, ep, Heap.get?_update_self _ e1 (Obj.isFreed_of_dict (Obj.data_mapDict e3 _)), e2.mapDict _, Obj.data_mapDict e3 _, e4.modify _ _, ?_, ?_⟩ (Heap.SameBut.update ..))
    · unfold stored
      rw [if_pos an]
      have fl : (es.toList.findIdx? fun e => (mixKind prog w).is k e.key) = some i := by
        rw [← fi]
        cases es with
        | mk l => simp
      have r := e5.modify e6 fl v
      cases es with
      | mk l => simpa using r
    · unfold stored
      rw [if_pos an, keys_map_store]
      exact e6
  | none =>
    have nm : k ∉ kvs.map (·.1) := not_mem_of_findIdx_none (fe ▸ fi)
    have an : ¬ (kvs.any fun kv => decide (kv.1 = k)) = true := fun z => by
      obtain ⟨kv, m, q⟩ := List.any_eq_true.mp z
      exact nm (List.mem_map.mpr ⟨kv, m, of_decide_eq_true q⟩)
    refine wpAny_updateDictKeys (hz := z1) e1 e3 (hQ _ ⟨_, _, ep + 1, Heap.get?_update_self _ e1 (Obj.isFreed_of_dict (Obj.data_mapDictKeys e3 _)), e2.mapDictKeys _, Obj.data_mapDictKeys e3 _, e4.push hkey _, ?_, ?_⟩ (Heap.SameBut.update ..))
    · unfold stored
      rw [if_neg an]
      have r := e5.append hkey ((mixKind prog w).hash k) v
      cases es with
      | mk l => simpa using r
    · unfold stored
      rw [if_neg an, List.map_append, List.nodup_append]
      exact ⟨e6, by simp, fun a ha b hb z => nm (by
        have : b = k := by simpa using hb
        rw [← this, ← z]
        exact ha)⟩
theorem noref_loop {es : Array DictEntry} (hk : KeysOf (mixKind prog w) es) {f : DictEntry → PUnit → Sem (ForInStep PUnit)} (hf : ∀ e u, (∀ a, e.key ≠ .ref a) → f e u = pure (.yield PUnit.unit)) {Q : PUnit → Shared → Prop} (h : Q PUnit.unit s) :
    wpAny (model prog w) A (forIn es PUnit.unit f) Q E s := by
  rw [← Array.forIn_toList]
  have all : ∀ e ∈ es.toList, ∀ a, e.key ≠ Value.ref a := fun e he a z => by
    obtain ⟨k, q, _⟩ := hk e (by simpa using he)
    rcases keyIs_shape (k := k) (v := e.key) q with ⟨_, _, _, q⟩ | ⟨_, _, _, q⟩ <;> (rw [z] at q; cases q)
  refine wpAny_forIn_list f (fun rest _ s' => (∀ e ∈ rest, ∀ a, e.key ≠ Value.ref a) ∧ s' = s) Q ?_ ?_ es.toList PUnit.unit ⟨all, rfl⟩
  · rintro e rest b s' ⟨ha, rfl⟩
    rw [hf e b (ha e (List.mem_cons_self ..))]
    exact wpAny_pure ⟨fun x hx => ha x (List.mem_cons_of_mem _ hx), rfl⟩
  · rintro b s' ⟨_, rfl⟩
    exact h
theorem mergeMap_ok {d o : Addr} {kvs more : List (Key × Value)} {Q : Unit → Shared → Prop} (hdo : d ≠ o) (hoS : (o == sysModules) = false) (hd : s.heap.DictOf (mixKind prog w) d kvs) (ho : s.heap.DictOf (mixKind prog w) o more)
    (hz : kvs.length + more.length ≤ sizeLine) (hQ : ∀ h', h'.DictOf (mixKind prog w) d (merged kvs more) → Heap.SameBut d s.heap h' → Q () { s with heap := h' }) :
    wpAny (model prog w) A (mergeMapping d (.ref o) false) Q E s := by
  have ty := ho.typeIs
  obtain ⟨od, esd, epd, d1, d2, d3, d4, d5, d6⟩ := id hd
  obtain ⟨oo, es, ep, o1, o2, o3, o4, o5, o6⟩ := id ho
  have hlen : more.length = es.size := by rw [← o5.length]; simp
  unfold mergeMapping
  refine wpAny_bind (wpAny_isInstance ty isSubtype_dict_dict ?_)
  simp only [if_true]
  refine wpAny_bind (wpAny_specialOf ty F.slot_dict_iter.lookup ?_)
  simp only [beq_self_eq_true, Bool.false_eq_true, if_false]
  refine wpAny_bind (wpAny_pure ?_)
  dsimp only
  rw [if_neg (by rw [hoS]; exact Bool.false_ne_true)]
  refine wpAny_bind (wpAny_dictEntries d1 d3 ?_)
  have loop : wpAny (model prog w) A (do
      let l ← dictEntries o
      let epoch ← dictEpoch o
      forIn (List.range l.size) PUnit.unit fun i _ => (do
          let l' ← dictEntries o
          match l'[i]? with
            | some e => do
              holding [e.key, e.val] (dictPut d e.hash e.key e.val)
              let ep' ← dictEpoch o
              if (ep' != epoch) = true then do
                  (unsupported "dict.changed-during-merge" : Sem PUnit)
                  pure (ForInStep.yield PUnit.unit)
                else pure (ForInStep.yield PUnit.unit)
            | _ => do
              (unsupported "dict.changed-during-merge" : Sem PUnit)
              pure (ForInStep.yield PUnit.unit) : Sem (ForInStep PUnit))
      pure ()) Q E s := by
    refine wpAny_bind (wpAny_dictEntries o1 o3 (wpAny_bind (wpAny_dictEpoch o1 o3 (wpAny_bind ?_))))
    refine wpAny_forIn_list _ (fun rest _ s' => ∃ (h' : Heap) (i : Nat), s' = { s with heap := h' } ∧ rest = (List.range es.size).drop i ∧ i ≤ es.size ∧ h'.DictOf (mixKind prog w) d (merged kvs (more.take i)) ∧ h'.get? o = some oo ∧ Heap.SameBut d s.heap h') _ ?_ ?_ _ _
      ⟨s.heap, 0, rfl, rfl, Nat.zero_le _, by simpa [merged] using hd, o1, Heap.SameBut.refl _ _⟩
    · rintro x rest b s' ⟨h', i, rfl, hr, hi, hd', ho', hs'⟩
      have hlt : i < es.size := by
        rcases Nat.lt_or_ge i es.size with q | q
        · exact q
        · rw [List.drop_of_length_le (by simpa using q)] at hr
          cases hr
      rw [List.drop_eq_getElem_cons (by simpa using hlt), List.getElem_range] at hr
      injection hr with hx hr
      subst hx
      refine wpAny_bind (wpAny_dictEntries ho' o3 ?_)
      rw [Array.getElem?_eq_getElem hlt]
      obtain ⟨⟨k, v⟩, hkv⟩ : ∃ kv, more[x]? = some kv := ⟨more[x]'(by omega), by simp [hlen, hlt]⟩
      obtain ⟨hkey, hval⟩ := o5.get? (e := es[x]) (by simp [hlt]) hkv
      obtain ⟨k', hkey', hhash⟩ := o4 es[x] (Array.getElem_mem hlt)
      obtain rfl : k' = k := (mixKind prog w).inj _ _ _ hkey' hkey
      show wpAny _ _ (holding [es[x].key, es[x].val] (dictPut d es[x].hash es[x].key es[x].val) >>= _) _ _ _
      rw [hhash, hval]
      have q1 := merged_length_le kvs (more.take x)
      have q2 : (more.take x).length ≤ more.length := by rw [List.length_take]; omega
      refine wpAny_bind (wpAny_holding (dput_ok hkey hd' (by omega) fun h2 hd2 hs2 => ?_))
      have ho2 : h2.get? o = some oo := (hs2.2 o (Ne.symm hdo)).trans ho'
      refine wpAny_bind (wpAny_dictEpoch ho2 o3 ?_)
      rw [if_neg (by simp)]
      exact wpAny_pure ⟨h2, x + 1, rfl, hr, hlt, by rw [merged_take_succ kvs more x (k', v) hkv]; exact hd2, ho2, hs'.trans hs2⟩
    · rintro b s' ⟨h', i, rfl, hr, hi, hd', ho', hs'⟩
      have e : i = es.size := by
        rcases Nat.lt_or_ge i es.size with q | q
        · rw [List.drop_eq_getElem_cons (by simpa using q)] at hr
          cases hr
        · omega
      rw [e, ← hlen, List.take_length] at hd'
      exact wpAny_pure (hQ h' hd' hs')
  split
  · refine wpAny_bind (wpAny_dictEntries o1 o3 (wpAny_bind (noref_loop o4 (fun e u hne => ?_) loop)))
    split
    · rename_i a q
      exact absurd q (hne a)
    · rfl
  · exact loop
end
/-- what is asked of the mapping and the pair; the new dict stands at p -/
def tDstar (td tk tv : TE) : TE := fun σ H Q => ∀ p, H p = none → td σ (upd H p (.dK [])) fun x H1 => ∃ (a : Addr) (kvs : List (Key × V)), x = .ref a ∧ a ≠ p ∧ Rd H1 a (.dK kvs) ∧ H1 p = some (.dK []) ∧ kvs.length ≤ 1000 ∧
  ∀ q, H1 q = none → tk σ (upd (upd H1 p (.dK kvs)) q (.dK [])) fun y H2 => tv σ H2 fun z H3 => ∃ k : Key, y = kV k ∧ H3 p = some (.dK kvs) ∧ H3 q = some (.dK []) ∧ Q (.ref p) (upd (upd H3 q (.dK [(k, z)])) p (.dK (putK kvs k z)))
section
variable {X : Cx}
theorem dictDisplay_star (m k v : Sem Value) : dictDisplay [(none, m), (some k, v)] = (do
    let d ← alloc { cls := .type "dict", data := .dict #[] }
    let x ← holding [.ref d] m
    (((holding [.ref d, x] (mergeMapping d x false)).onRaise fun y => do let _ ← holding [.ref d, x, y] (runValue (.builtin "proto.let_go" {}))).tryCatch fun e => do
        if ← isInstance e (.type "AttributeError") then
          rule "dict.display.not-a-mapping"; raiseError "TypeError" s!"'{← typeNameOf x}' object is not a mapping"
        throw e).onRaise fun y => do let _ ← holding [.ref d, y] (runValue (.builtin "proto.let_go" {}))
    let sub ← holding [.ref d] (subDict [(k, v)])
    (holding [.ref d, .ref sub] (mergeMapping d (.ref sub) false)).onRaise fun y => do let _ ← holding [.ref d, y] (runValue (.builtin "proto.let_go" {}))
    pure (.ref d)) := by
  unfold dictDisplay
  simp [List.forIn_cons, List.forIn_nil]
theorem stored_nodup {kvs : List (Key × Value)} : (kvs.map (·.1)).Nodup → merged ([] : List (Key × Value)) kvs = kvs := merged_nil_of_nodup kvs
theorem kv_put {kvs : List (Key × V)} {vs : List (Key × Value)} (r : KV kvs vs) (k : Key) {z : V} {u : Value} (rz : RelV z u) : KV (putK kvs k z) (stored vs k u) := r.put k rz
theorem pe_dstar {d k v : Expr} {td tk tv : TE} {pos : Pos} (hd : PE X d td) (hk : PE X k tk) (hv : PE X v tv) : PE X (.Dict [none, some k] [d, v] pos) (tDstar td tk tv) := by
  refine ⟨fun pins s σ H Q I h => ?_⟩
  rw [arm_eval_Dict]
  refine wpAny_bind (wpAny_standAt ?_)
  show wpAny _ _ (dictDisplay [(none, do let x ← eval d X.env; standAt pos; pure x), (some (eval k X.env), do let x ← eval v X.env; standAt pos; pure x)]) _ _ _
  rw [dictDisplay_star]
  refine wpAny_bind (wpAny_alloc ?_)
  have hn := I.hok.fresh (Nat.le_refl s.heap.objs.size)
  have I1 := I.laid (a := s.heap.objs.size) (o := .dK []) (h' := s.heap.push { cls := .type "dict", data := .dict #[] }) (t' := s.toks) (fun _ _ q => Heap.get?_push_of_some _ q) (Nat.le_refl _) (dk_empty s.heap I.big)
  refine wpAny_bind (wpAny_holding (wpAny_bind (thn (hd.run pins _ σ _ _ I1 (h _ hn)) fun xv s1 hh => ?_)))
  obtain ⟨x, H1, J1, rx, a, kvs, ex, nap, ea, ep, hl, hq⟩ := hh
  subst ex
  obtain rfl : xv = Value.ref a := rx
  refine wpAny_bind (wpAny_standAt (wpAny_pure ?_))
  obtain ⟨_, ma, va, ra, da⟩ := dk_rd J1.hok ea
  obtain ⟨_, mp, vp, rp, dp⟩ := dk_of J1.hok ep
  cases rp
  have lva : va.length ≤ 1000 := by rw [← ra.length]; exact hl
  have ndv : (va.map (·.1)).Nodup := by
    obtain ⟨_, _, _, _, _, _, _, _, nd⟩ := da
    exact nd
  refine wpAny_bind (wpAny_onRaise (wpAny_tryCatch (wpAny_onRaise (wpAny_holding (mergeMap_ok (Ne.symm nap) ma dp da (by rw [sizeLine_eq, List.length_nil]; omega) fun h2 d2 s2 => ?_)))))
  rw [stored_nodup ndv] at d2
  have kz : kvs.length ≤ sizeLine := by rw [sizeLine_eq]; omega
  have J2 : Inv X pins σ (upd H1 s.heap.objs.size (.dK kvs)) { s1 with heap := h2, toks := s1.toks } :=
    d_write J1 (by rw [ep]; exact True.intro) s2 (let ⟨q, _, _, hq, _⟩ := d2; ⟨q, hq⟩) (dk_new kz mp ra d2)
  have hq2 : H1 h2.objs.size = none := by
    have f2 := J2.hok.fresh (Nat.le_refl h2.objs.size)
    have ne : h2.objs.size ≠ s.heap.objs.size := fun z => by
      rw [z, upd_same] at f2
      cases f2
    rw [upd_ne ne] at f2
    exact f2
  have J3 := J2.laid (a := h2.objs.size) (o := .dK []) (h' := h2.push { cls := .type "dict", data := .dict #[] }) (t' := s1.toks) (fun _ _ q => Heap.get?_push_of_some _ q) (Nat.le_refl _) (dk_empty h2 J2.big)
  refine wpAny_bind (wpAny_holding (wpAny_subDict (knd := mixKind X.prog X.w) (show 1 ≤ 15 by decide) ?_))
  unfold evalPairs
  refine wpAny_bind (thn (hk.run pins _ σ _ _ J3 (hq _ hq2)) fun kv s4 hh => ?_)
  obtain ⟨y, H4, J4, ry, hv4⟩ := hh
  refine wpAny_bind (wpAny_holding (wpAny_bind (thn (hv.run pins s4 σ H4 _ J4 hv4) fun vv s5 hh => ?_)))
  obtain ⟨z, H5, J5, rz, ky, ey, e5p, e5q, fin⟩ := hh
  subst ey
  refine wpAny_bind (wpAny_standAt (wpAny_pure (wpAny_bind ?_)))
  unfold evalPairs
  refine wpAny_holding (wpAny_pure (wpAny_pure ?_))
  obtain ⟨_, mq, vq, rq, dq⟩ := dk_of J5.hok e5q
  cases rq
  refine ⟨[(ky, vv)], ⟨kV_is ry, rfl, trivial⟩, dq, fun h6 d6 s6 => ?_⟩
  have d6' : h6.DictOf (mixKind X.prog X.w) h2.objs.size [(ky, vv)] := d6
  have J6 : Inv X pins σ (upd H5 h2.objs.size (.dK [(ky, z)])) { s5 with heap := h6, toks := s5.toks + 1 } :=
    d_write J5 (by rw [e5q]; exact True.intro) s6 (let ⟨q, _, _, hq, _⟩ := d6; ⟨q, hq⟩) (dk_new (by show 1 ≤ sizeLine; decide) mq (Paired.cons ⟨rfl, rz⟩ Paired.nil) d6')
  have npq : s.heap.objs.size ≠ h2.objs.size := fun z => by
    rw [z] at e5p
    have q := e5p.symm.trans e5q
    have f2 := J2.hok.fresh (Nat.le_refl h2.objs.size)
    rw [z, upd_same] at f2
    cases f2
  have e6p : upd H5 h2.objs.size (.dK [(ky, z)]) s.heap.objs.size = some (.dK kvs) := by rw [upd_ne npq]; exact e5p
  obtain ⟨_, mp6, v6, r6, d6p⟩ := dk_of J6.hok e6p
  refine wpAny_bind (wpAny_onRaise (wpAny_holding (mergeMap_ok npq mq d6p d6' (by rw [← r6.length, sizeLine_eq]; show kvs.length + 1 ≤ _; omega) fun h7 d7 s7 => ?_)))
  have pl : (putK kvs ky z).length ≤ sizeLine := by
    have := length_putK kvs ky z
    rw [sizeLine_eq]
    omega
  have J7 : Inv X pins σ (upd (upd H5 h2.objs.size (.dK [(ky, z)])) s.heap.objs.size (.dK (putK kvs ky z))) { s5 with heap := h7, toks := s5.toks + 1 } :=
    d_write (s := { s5 with heap := h6, toks := s5.toks + 1 }) (t' := s5.toks + 1) J6 (by rw [e6p]; exact True.intro) s7 (let ⟨q, _, _, hq, _⟩ := d7; ⟨q, hq⟩) (dk_new pl mp6 (kv_put r6 ky rz) d7)
  exact wpAny_pure ⟨.ref s.heap.objs.size, _, J7, rfl, fin⟩
theorem call_dictOf : CallR X (.type "dict") (fun xs H Q => ∃ (a : Addr) (kvs : List (Key × V)), xs = [.ref a] ∧ Rd H a (.dK kvs) ∧ ∀ p, H p = none → Q (.ref p) (upd H p (.dK kvs))) := by
  intro pins s σ H xs us Q I r h
  obtain ⟨a, kvs, rfl, ea, q⟩ := h
  obtain ⟨u, rfl, ru⟩ := vals1 r
  obtain rfl : u = Value.ref a := ru
  exact d_copyOf I ea fun p s' hp I' => ⟨.ref p, _, I', rfl, q p hp⟩
end

/-! ### the pool: _law_pool, _law_mixed, _law_draw -/
abbrev sMixed : Stmt := topS 19
abbrev NMixed : List Str := ["_law_number", "_law_count", "_law_many"]
abbrev PMixed : List Str := ["_law_number", "_law_count", "_law_many"]
theorem scMixed : FnScope NMixed PMixed (defScope sMixed) := ⟨rfl, rfl, rfl, by decide +kernel, rfl, by decide +kernel, by decide +kernel⟩
abbrev sDraw : Stmt := topS 20
abbrev NDraw : List Str := ["_law_pool_here", "_law_many", "_law_at", "_law_cells", "_law_cell"]
abbrev PDraw : List Str := ["_law_pool_here", "_law_many"]
theorem scDraw : FnScope NDraw PDraw (defScope sDraw) := ⟨rfl, rfl, rfl, by decide +kernel, rfl, by decide +kernel, by decide +kernel⟩
abbrev sPool : Stmt := topS 18
abbrev NPool : List Str := ["_law_script", "_law_cells", "_law_cell", "_law_seed"]
abbrev PPool : List Str := ["_law_script"]
theorem scPool : FnScope NPool PPool (defScope sPool) := ⟨rfl, rfl, rfl, by decide +kernel, rfl, by decide +kernel, by decide +kernel⟩
/-- the pool at p, its cells at c; lim is its last item; at most n draws so far -/
def PoolAt (H : Hp) (p c : Addr) (lim : V) (n : Nat) : Prop :=
  ∃ (i : Nat) (cells : List Int) (cnt seed mode : Int), H p = some (.lst [.ref c, .int (i : Int), .int cnt, .int seed, .int mode, lim]) ∧ H c = some (.lst (cells.map V.int)) ∧
    i ≤ cells.length ∧ 0 ≤ cnt ∧ cnt ≤ (n : Int) ∧ 0 ≤ seed ∧ seed < 2147483647
def spMixed : Sp := fun vs H Q _ => ∃ (n c m : Int), vs = [.int n, .int c, .int m] ∧ 0 ≤ n ∧ n < 2147483647 ∧ 0 ≤ c ∧ c ≤ 1000000000000 ∧ 0 < m ∧ ∀ r : Int, 0 ≤ r → r < m → Q (.int r) H
def spDraw : Sp := fun vs H Q _ => ∃ (p c : Addr) (lim : V) (n : Nat) (m : Int), vs = [.ref p, .int m] ∧ PoolAt H p c lim n ∧ n < 1000000000000 ∧ 0 < m ∧ m ≤ 1000000000000000000 ∧
  ∀ (r : Int) (H' : Hp), 0 ≤ r → r < m → PoolAt H' p c lim (n + 1) → But p c H H' → Q (.int r) H'
def spPool (K : PySem.W.Frag) : Sp := fun vs H Q _ => ∃ (a : Addr) (ns : List Int), vs = [.ref a] ∧ SqL K H a (ns.map V.int) ∧ ns.length ≤ 63 ∧
  ∀ (p c : Addr) (H' : Hp), Same H H' → H p = none → H c = none → PoolAt H' p c (.int 30) 0 → Q (.ref p) H'
structure TxPool (mg : Str → Option Value) : Prop where
  n_int : mg "int" = none
  n_len : mg "len" = none
theorem pool_ne {H : Hp} {p c : Addr} {xs : List V} {cells : List Int} (hp : H p = some (.lst (.ref c :: xs))) (hc : H c = some (.lst (cells.map V.int))) : p ≠ c := ne_of hp hc (by
  intro z
  injection z with z
  cases cells with
  | nil => cases z
  | cons a r => injection z with z _; cases z)
theorem pow_lt {n c : Int} (h1 : 0 ≤ n) (h2 : n < 2147483647) (h3 : 0 ≤ c) (h4 : c ≤ 1000000000000) : (n + 7919 * c).natAbs < 2 ^ 64 := by
  have : (2 : Nat) ^ 64 = 18446744073709551616 := by decide
  omega
theorem m63 {m : Int} (h0 : 0 < m) (h1 : m ≤ 1000000000000000000) : m.natAbs < 2 ^ 63 := by
  have : (2 : Nat) ^ 63 = 9223372036854775808 := by decide
  omega
theorem set_ints (cells : List Int) (j : Nat) (z : Int) : (cells.map V.int).set j (V.int z) = (cells.set j z).map V.int := by
  rw [List.map_set]
theorem same_new {H : Hp} {p : Addr} {o : HO} (h : H p = none) : Same H (upd H p o) := fun b x e => by
  rw [upd_ne (ne_of_none e h)]
  exact e
theorem atI_in {α : Type} {xs : List α} {i : Int} (h0 : 0 ≤ i) (h1 : i < xs.length) : ∃ v, atI xs i = some v ∧ v ∈ xs := by
  have h : i.toNat < xs.length := by omega
  refine ⟨xs[i.toNat], ?_, List.getElem_mem h⟩
  have e : i = ((i.toNat : Nat) : Int) := by omega
  have q := atI_nat (xs := xs) (j := i.toNat) (v := xs[i.toNat]) (by simp [h])
  rw [← e] at q
  exact q
theorem PoolAt.same {H H' : Hp} {p c : Addr} {lim : V} {n : Nat} (h : PoolAt H p c lim n) (s : Same H H') : PoolAt H' p c lim n := by
  obtain ⟨i, cs, cn, sd, md, e1, e2, e⟩ := h
  exact ⟨i, cs, cn, sd, md, s _ _ e1, s _ _ e2, e⟩
theorem PoolAt.ne1 {H : Hp} {p c q : Addr} {lim : V} {n : Nat} (h : PoolAt H p c lim n) (hq : H q = none) : q ≠ p := fun z => by
  obtain ⟨_, _, _, _, _, e, _⟩ := h
  rw [z, e] at hq
  cases hq
theorem PoolAt.ne2 {H : Hp} {p c q : Addr} {lim : V} {n : Nat} (h : PoolAt H p c lim n) (hq : H q = none) : q ≠ c := fun z => by
  obtain ⟨_, _, _, _, _, _, e, _⟩ := h
  rw [z, e] at hq
  cases hq
theorem str_app_len (a b : Str) : (a ++ b : Str).length = a.length + b.length := by
  show (a.cps ++ b.cps).size = a.cps.size + b.cps.size
  exact Array.size_append
theorem PoolAt.mono {H : Hp} {p c : Addr} {lim : V} {n m : Nat} (h : PoolAt H p c lim n) (hm : n ≤ m) : PoolAt H p c lim m := by
  obtain ⟨i, cs, cn, sd, md, e1, e2, e3, e4, e5, e⟩ := h
  exact ⟨i, cs, cn, sd, md, e1, e2, e3, e4, by omega, e⟩
theorem PoolAt.upd {H : Hp} {p c q : Addr} {lim : V} {n : Nat} {o : HO} (h : PoolAt H p c lim n) (h1 : q ≠ p) (h2 : q ≠ c) : PoolAt (upd H q o) p c lim n := by
  obtain ⟨i, cs, cn, sd, md, e1, e2, e⟩ := h
  exact ⟨i, cs, cn, sd, md, by rw [upd_ne h1.symm]; exact e1, by rw [upd_ne h2.symm]; exact e2, e⟩
section
variable {P : Program} {w : World} {K : PySem.W.Frag} {mg : Str → Option Value} {base : Heap}
theorem ok_Mixed {f : Addr} {fd : FuncData} (F : Fun K "_law_mixed" "_law_mixed" sMixed f fd) (T : TxPool mg) : FnOk P w K mg base CX0 1 f fd PMixed spMixed := by
  refine F.ok scMixed (fun vs H Q E h => ?_) (fun cdv A outer s H vs Q E hr h => ?_)
  · obtain ⟨n, c, m, rfl, _⟩ := h
    rfl
  · obtain ⟨n, c, m, rfl, n0, n1, c0, c1, m0, k⟩ := h
    refine ⟨_, (pss_one (ps_ret (pe_op op_mod (pe_op op_fdiv (pe_callTy call_int1 (by rfl) T.n_int bb_int (pa_cons (pe_op op_mod (pe_op op_pow (pe_callTy call_int1 (by rfl) T.n_int bb_int (pa_cons (pe_op op_add (pv 0) (pe_op op_mul pe_int (pv 1))) pa_nil)) pe_int) pe_int) pa_nil)) pe_int) (pv 2)))), ?_⟩
    refine ⟨_, rfl, _, rfl, _, _, rfl, rfl, .inl ⟨by decide, by decide⟩, _, _, rfl, rfl, .inl ⟨_, rfl, ?_⟩⟩
    refine ⟨_, _, rfl, rfl, ⟨by decide, by decide, pow_lt n0 n1 c0 c1⟩, _, _, rfl, rfl, (show (0 : Int) < 2147483647 by decide), .inl ⟨_, rfl, ?_⟩⟩
    refine ⟨_, _, rfl, rfl, ⟨by decide, by decide⟩, _, rfl, _, _, rfl, rfl, m0, ?_⟩
    exact k _ (Int.emod_nonneg _ (by omega)) (Int.emod_lt_of_pos _ m0)
theorem ok_Draw {f : Addr} {fd : FuncData} (F : Fun K "_law_draw" "_law_draw" sDraw f fd) (T : TxPool mg) (GM : Has P w K mg base CX0 1 "_law_mixed" PMixed spMixed) :
    FnOk P w K mg base CX0 2 f fd PDraw spDraw := by
  refine F.ok scDraw (fun vs H Q E h => ?_) (fun cdv A outer s H vs Q E hr h => ?_)
  · obtain ⟨p, c, lim, n, m, rfl, _⟩ := h
    rfl
  · obtain ⟨p, c, lim, n, m, rfl, ⟨i, cells, cnt, seed, mode, hp, hc, hi, c0, c1, s0, s1⟩, hn, m0, m1, k⟩ := h
    have npc : p ≠ c := pool_ne hp hc
    refine ⟨_, (pss_cons (ps_asg (pe_op op_add (pe_ix ix_list (pv 0) pe_int (fun _ _ => rfl)) pe_int) (pg_sub (pv 0) pe_int set_list))
  (pss_cons (ps_if (pt_cmpR op_ge (pe_ix ix_list (pv 0) pe_int (fun _ _ => rfl)) (pe_callB call_len_seq (by rfl) T.n_len bb_len (pa_cons (pe_ix ix_list (pv 0) pe_int (fun _ _ => rfl)) pa_nil)) (nomark _))
  (pss_one (ps_ret (pe_callH GM hr rfl pass0 (pa_cons (pe_ix ix_list (pv 0) pe_int (fun _ _ => rfl)) (pa_cons (pe_ix ix_list (pv 0) pe_int (fun _ _ => rfl)) (pa_cons (pv 1) pa_nil))))))
  pss_nil)
  (pss_cons (ps_set (i := 2) scDraw.nd rfl (Or.inl rfl) (pe_ix ix_list (pv 0) pe_int (fun _ _ => rfl)))
  (pss_cons (ps_set (i := 3) scDraw.nd rfl (Or.inl rfl) (pe_ix ix_list (pv 0) pe_int (fun _ _ => rfl)))
  (pss_cons (ps_set (i := 4) scDraw.nd rfl (Or.inl rfl) (pe_ix ix_list (pv 3) (pv 2) (fun _ _ => rfl)))
  (pss_cons (ps_if (PW.pt (pw_and (pt_cmpR op_ne (pe_ix ix_list (pv 0) pe_int (fun _ _ => rfl)) pe_int (nomark _)) (pw_and1 (pt_cmpR op_lt (pv 4) (pe_op op_pow pe_int pe_int) (nomark _)))))
  (pss_cons (ps_asg (pe_op op_add (pe_ix ix_list (pv 0) pe_int (fun _ _ => rfl)) pe_int) (pg_sub (pv 0) pe_int set_list))
  (pss_cons (ps_if (pt_cmpR op_eq (pe_ix ix_list (pv 0) pe_int (fun _ _ => rfl)) pe_int (nomark _))
  (pss_cons (ps_asg (pe_op op_add (pv 2) pe_int) (pg_sub (pv 0) pe_int set_list))
  (pss_one (ps_asg pe_int (pg_sub (pv 0) pe_int set_list))))
  pss_nil)
  (pss_one (ps_ret (pe_callH GM hr rfl pass0 (pa_cons (pe_op op_mod (pe_callTy call_int1 (by rfl) T.n_int bb_int (pa_cons (pv 4) pa_nil)) pe_int) (pa_cons (pe_ix ix_list (pv 0) pe_int (fun _ _ => rfl)) (pa_cons (pv 1) pa_nil))))))))
  pss_nil)
  (pss_cons (ps_asg pe_int (pg_sub (pv 0) pe_int set_list))
  (pss_cons (ps_asg (pe_op op_fdivW (pe_callTy call_int1 (by rfl) T.n_int bb_int (pa_cons (pv 4) pa_nil)) (pv 1)) (pg_sub (pv 3) (pv 2) set_list))
  (pss_cons (ps_if (pt_cmpR op_eq (pe_ix ix_list (pv 3) (pv 2) (fun _ _ => rfl)) pe_int (nomark _))
  (pss_cons (ps_asg (pe_op op_add (pv 2) pe_int) (pg_sub (pv 0) pe_int set_list))
  (pss_one (ps_asg pe_int (pg_sub (pv 0) pe_int set_list))))
  pss_nil)
  (pss_one (ps_ret (pe_op op_mod (pe_callTy call_int1 (by rfl) T.n_int bb_int (pa_cons (pv 4) pa_nil)) (pv 1))))))))))))), ?_⟩
    -- pool[2] = pool[2] + 1
    refine ⟨_, rfl, p, _, _, _, rfl, rfl, SqL.of hp, rfl, _, _, rfl, rfl, _, rfl, p, _, _, _, rfl, rfl, hp, rfl, ?_⟩
    have st : ∀ (i' : Nat) (md : Int) (cs : List Int), i' ≤ cs.length → ∀ H' : Hp, H' p = some (.lst [.ref c, .int (i' : Int), .int (cnt + 1), .int seed, .int md, lim]) → H' c = some (.lst (cs.map V.int)) → PoolAt H' p c lim (n + 1) :=
      fun i' md cs hl H' a b => ⟨i', cs, cnt + 1, seed, md, a, b, hl, by omega, by omega, s0, s1⟩
    have ac : ∀ {H' : Hp} {o : HO} {x : HO}, H' c = some x → upd H' p o c = some x := fun e => by rw [upd_ne npc.symm]; exact e
    have ap : ∀ {H' : Hp} {o : HO} {x : HO}, H' p = some x → upd H' c o p = some x := fun e => by rw [upd_ne npc]; exact e
    have kq : ∀ {H' : Hp} {o : HO}, But p c H H' → But p c H (upd H' p o) := fun b x o e hb hx => by rw [upd_ne hb]; exact b x o e hb hx
    have kc : ∀ {H' : Hp} {o : HO}, But p c H H' → But p c H (upd H' c o) := fun b x o e hb hx => by rw [upd_ne hx]; exact b x o e hb hx
    -- if pool[1] >= len(pool[0])
    refine ⟨_, rfl, p, _, _, _, rfl, rfl, SqL.of upd_same, rfl, _, rfl, p, _, _, _, rfl, rfl, SqL.of upd_same, rfl, c, _, rfl, .inl (SqL.of (ac hc)), _, _, rfl, rfl, _, rfl, ?_⟩
    refine ite2 (fun hge => ?_) (fun hlt => ?_)
    · refine ⟨_, rfl, p, _, _, _, rfl, rfl, SqL.of upd_same, rfl, _, rfl, p, _, _, _, rfl, rfl, SqL.of upd_same, rfl, _, rfl, seed, cnt + 1, m, rfl, s0, s1, by omega, by omega, m0, fun r r0 r1 => ?_⟩
      exact k r _ r0 r1 (st i mode cells hi _ upd_same (ac hc)) (kq But.refl)
    · have hil : i < cells.length := by
        have z : ¬ ((cells.map V.int).length : Int) ≤ (i : Int) := fun z => hlt (decide_eq_true z)
        rw [List.length_map] at z
        omega
      obtain ⟨cell, hcell⟩ : ∃ z, cells[i]? = some z := ⟨cells[i], by simp [hil]⟩
      have hcV : (cells.map V.int)[i]? = some (V.int cell) := by rw [List.getElem?_map, hcell]; rfl
      -- at, cells, cell
      refine ⟨_, rfl, p, _, _, _, rfl, rfl, SqL.of upd_same, rfl, ?_⟩
      refine ⟨_, rfl, p, _, _, _, rfl, rfl, SqL.of upd_same, rfl, ?_⟩
      refine ⟨_, rfl, _, rfl, c, _, _, _, rfl, rfl, SqL.of (ac hc), atI_nat hcV, ?_⟩
      -- if pool[4] != 2 and cell < 10 ** 18
      refine ⟨_, rfl, p, _, _, _, rfl, rfl, SqL.of upd_same, rfl, rfl, _, rfl, ?_⟩
      refine ite2 (fun h2 => ?gA) (fun h2 => iteF ?gB)
      case' gA => refine ⟨_, rfl, _, _, rfl, rfl, ⟨by decide, by decide, by decide⟩, _, _, rfl, rfl, _, rfl, ite2 (fun h3 => ?gD) (fun h3 => ?gC)⟩
      case gD =>
        refine ⟨_, rfl, p, _, _, _, rfl, rfl, SqL.of upd_same, rfl, _, _, rfl, rfl, _, rfl, p, _, _, _, rfl, rfl, upd_same, rfl, ?_⟩
        refine ⟨_, rfl, p, _, _, _, rfl, rfl, SqL.of upd_same, rfl, rfl, _, rfl, ite2 (fun h4 => ?_) (fun h4 => ?_)⟩
        · refine ⟨_, rfl, _, _, rfl, rfl, _, rfl, p, _, _, _, rfl, rfl, upd_same, rfl, ?_⟩
          refine ⟨_, rfl, p, _, _, _, rfl, rfl, upd_same, rfl, ?_⟩
          refine ⟨_, rfl, .inl ⟨_, rfl, _, _, rfl, rfl, (show (0 : Int) < 2147483647 by decide), _, rfl, p, _, _, _, rfl, rfl, SqL.of upd_same, rfl, _, rfl, _, cnt + 1, m, rfl, Int.emod_nonneg _ (by decide), Int.emod_lt_of_pos _ (by decide), by omega, by omega, m0, fun r r0 r1 => ?_⟩⟩
          exact k r _ r0 r1 (st (i + 1) 0 cells (by omega) _ upd_same (ac (ac (ac (ac hc))))) (kq (kq (kq (kq But.refl))))
        · refine ⟨_, rfl, .inl ⟨_, rfl, _, _, rfl, rfl, (show (0 : Int) < 2147483647 by decide), _, rfl, p, _, _, _, rfl, rfl, SqL.of upd_same, rfl, _, rfl, _, cnt + 1, m, rfl, Int.emod_nonneg _ (by decide), Int.emod_lt_of_pos _ (by decide), by omega, by omega, m0, fun r r0 r1 => ?_⟩⟩
          exact k r _ r0 r1 (st i (mode + 1) cells (by omega) _ upd_same (ac (ac hc))) (kq (kq But.refl))
      all_goals
        -- pool[4] = 2; cells[at] = int(cell) // many
        refine ⟨_, rfl, p, _, _, _, rfl, rfl, upd_same, rfl, ?_⟩
        have hix : ixN (cells.map V.int).length (i : Int) = some i := by
          unfold ixN
          rw [List.length_map, if_pos (by omega), if_pos (by omega), Int.toNat_natCast]
        refine ⟨_, rfl, .inl ⟨_, rfl, _, rfl, _, _, rfl, rfl, wide_div m0 (m63 m0 m1) (by decide) (by decide), _, rfl, _, rfl, c, _, _, i, rfl, rfl, ac (ac hc), hix, ?_⟩⟩
        rw [set_ints]
        have hcW : ((cells.set i (cell / m)).map V.int)[i]? = some (V.int (cell / m)) := by
          rw [List.getElem?_map, List.getElem?_set_self hil]; rfl
        have hlen : (cells.set i (cell / m)).length = cells.length := List.length_set
        refine ⟨_, rfl, _, rfl, c, _, _, _, rfl, rfl, SqL.of upd_same, atI_nat hcW, rfl, _, rfl, ite2 (fun h4 => ?_) (fun h4 => ?_)⟩
        · refine ⟨_, rfl, _, _, rfl, rfl, _, rfl, p, _, _, _, rfl, rfl, ap upd_same, rfl, ?_⟩
          refine ⟨_, rfl, p, _, _, _, rfl, rfl, upd_same, rfl, ?_⟩
          refine ⟨_, rfl, .inl ⟨_, rfl, _, rfl, _, _, rfl, rfl, m0, ?_⟩⟩
          exact k _ _ (Int.emod_nonneg _ (by omega)) (Int.emod_lt_of_pos _ m0) (st (i + 1) 0 _ (by omega) _ upd_same (ac (ac upd_same))) (kq (kq (kc (kq (kq But.refl)))))
        · refine ⟨_, rfl, .inl ⟨_, rfl, _, rfl, _, _, rfl, rfl, m0, ?_⟩⟩
          exact k _ _ (Int.emod_nonneg _ (by omega)) (Int.emod_lt_of_pos _ m0) (st i 2 _ (by omega) _ (ap upd_same) upd_same) (kc (kq (kq But.refl)))
/-! _law_pool -/
theorem cut63 {ns : List Int} (h : ns.length ≤ 63) : cutV (ns.map V.int) none (some 63) = ns.map V.int := by
  unfold cutV
  rw [HT.sIx_none, show HT.sIx (ns.map V.int).length (ns.map V.int).length (some 63) = min 63 (ns.map V.int).length from HT.sIx_nat _ _ 63]
  rw [List.length_map, List.drop_zero, List.take_of_length_le]
  rw [List.length_map]
  omega
theorem int_at {ns : List Int} {i : Nat} {x : V} (h : (ns.map V.int)[i]? = some x) : ∃ z, ns[i]? = some z ∧ x = V.int z := by
  rw [List.getElem?_map] at h
  cases e : ns[i]? with
  | none => rw [e] at h; cases h
  | some z => rw [e] at h; exact ⟨z, rfl, (Option.some.inj h).symm⟩
theorem take_snoc {α : Type} {l : List α} {i : Nat} {z : α} (h : l[i]? = some z) : l.take (i + 1) = l.take i ++ [z] := by
  rw [List.take_succ, h]; rfl
theorem ok_Pool {f : Addr} {fd : FuncData} (F : Fun K "_law_pool" "_law_pool" sPool f fd) (T : TxPool mg) : FnOk P w K mg base CX0 1 f fd PPool (spPool K) := by
  refine F.ok scPool (fun vs H Q E h => ?_) (fun cdv A outer s H vs Q E hr h => ?_)
  · obtain ⟨a, ns, rfl, _⟩ := h
    rfl
  · obtain ⟨a, ns, rfl, hS, hlen, k⟩ := h
    refine ⟨_, (pss_cons (ps_setLc (i := 1) (own := [("_law_cell", 2)]) (g := gName 2) (tt := tYes) rfl scPool.nd rfl rfl (sw_true rfl rfl rfl (by decide +kernel)) (pi_list (pe_slice sl_list (pv 0) po_none (po_some pe_int))) (blkOk_by (own := [("_law_cell", 2)]) (N := NPool) (sc := (defScope sPool)) (by decide +kernel)) (fun _ _ _ _ _ => (pg_name (i := 2) scPool.nd rfl (Or.inl rfl))) (fun _ _ _ _ _ => pts_nil) (fun _ _ _ _ _ => (pe_callTy call_int1 (by rfl) T.n_int bb_int (pa_cons (pv 2) pa_nil))))
  (pss_cons (ps_set (i := 3) scPool.nd rfl (Or.inl rfl) pe_int)
  (pss_cons (ps_for PassesOwn.never rfl (pi_list (pv 1)) (pg_name (i := 2) scPool.nd rfl (Or.inl rfl))
  (pss_one (ps_set (i := 3) scPool.nd rfl (Or.inl rfl) (pe_op op_mod (pe_callTy call_int1 (by rfl) T.n_int bb_int (pa_cons (pe_op op_add (pe_op op_mul (pv 3) pe_int) (pv 2)) pa_nil)) pe_int))))
  (pss_one (ps_ret (pe_lst (pa_cons (pv 1) (pa_cons pe_int (pa_cons pe_int (pa_cons (pv 3) (pa_cons pe_int (pa_cons pe_int pa_nil)))))))))))), ?_⟩
    refine ⟨_, rfl, 63, rfl, a, _, rfl, hS, fun q hq => ⟨q, rfl, ⟨_, SqL.of upd_same⟩, fun D hD => ?_⟩⟩
    rw [cut63 hlen] at *
    have nqD : q ≠ D := fun z => by rw [z, upd_same] at hD; cases hD
    have hD0 : H D = none := by rw [← hD, upd_ne (Ne.symm nqD)]
    refine lc_list (K := K) (a := q) (xs := ns.map V.int) (fun i H' => Same H H' ∧ H' q = some (.lst (ns.map V.int)) ∧ H' D = some (.lst ((ns.take i).map V.int))) ?_ ?_ ?_ ?_
    · exact ⟨fun b o e => by rw [upd_ne (ne_of_none e hD0), upd_ne (ne_of_none e hq)]; exact e, by rw [upd_ne nqD, upd_same], upd_same⟩
    · exact fun i H' _ h' => SqL.of h'.2.1
    · rintro i x H' hx ⟨s1, q1, d1⟩
      obtain ⟨z, hz, rfl⟩ := int_at hx
      refine ⟨rfl, _, rfl, .inl ⟨_, rfl, _, d1, ?_, ?_⟩⟩
      · exact small1000 (by rw [List.length_map, List.length_take]; omega)
      · refine ⟨fun b o e => by rw [upd_ne (ne_of_none e hD0)]; exact s1 b o e, by rw [upd_ne nqD]; exact q1, ?_⟩
        rw [upd_same, take_snoc hz, List.map_append]
        rfl
    · rintro H1 ⟨s1, q1, d1⟩
      rw [List.length_map, List.take_length] at d1
      -- seed = 11; the loop
      refine ⟨_, rfl, D, rfl, ⟨_, SqL.of d1⟩, for_list (K := K) (a := D) (xs := ns.map V.int) (fun i σ H' => ∃ (x : Option V) (z : Int), σ = [some (.ref a), some (.ref D), x, some (.int z)] ∧ 0 ≤ z ∧ z < 2147483647 ∧ H' = H1)
        ⟨none, 11, rfl, by decide, by decide, rfl⟩ (fun i σ H' _ ⟨_, _, _, _, _, e⟩ => by rw [e]; exact SqL.of d1) ?_ ?_⟩
      · rintro i x σ H' hx ⟨y, z, rfl, z0, z1, rfl⟩
        obtain ⟨u, hu, rfl⟩ := int_at hx
        refine ⟨_, rfl, _, _, rfl, rfl, .inr ⟨by decide, by decide⟩, _, rfl, _, _, rfl, rfl, .inl ⟨_, rfl, _, _, rfl, rfl, (show (0 : Int) < 2147483647 by decide), ?_⟩⟩
        exact ⟨_, _, rfl, Int.emod_nonneg _ (by decide), Int.emod_lt_of_pos _ (by decide), rfl⟩
      · rintro σ H' ⟨y, z, rfl, z0, z1, rfl⟩
        refine ⟨_, rfl, _, rfl, (by show 6 ≤ sizeLine; decide), fun p hp => ?_⟩
        have npD : D ≠ p := ne_of_none d1 hp
        refine k p D _ (s1.trans (same_new hp)) (s1.free hp) hD0 ⟨0, ns, 0, z, 0, upd_same, by rw [upd_ne npD]; exact d1, Nat.zero_le _, by decide, by decide, z0, z1⟩
end

def dOf : V → PyData
  | .non => .none | .bl b => .bool b | .int i => .int i | .str z => .str z | _ => .none
theorem dp_flat {K : PySem.W.Frag} {H : Hp} {v : V} (h : flatV v = true) : Dp K H v (dOf v) := by
  cases v with
  | non => exact .non
  | bl b => exact .bl b
  | int i => exact .int i
  | str z => exact .str z
  | _ => cases h
theorem dpAll_flat {K : PySem.W.Frag} {H : Hp} : ∀ {xs : List V}, xs.all flatV = true → DpAll K H xs (xs.map dOf)
  | [], _ => .nil
  | x :: xs, h => by
    rw [List.all_cons, Bool.and_eq_true] at h
    exact .cons (dp_flat h.1) (dpAll_flat h.2)
/-! shapes -/
def okV : V → Bool
  | .str z => PyData.strOk z
  | _ => true
theorem lay_dOf {v : V} (h : okV v = true) : (dOf v).canLay0 = true := by
  cases v with
  | str z => simpa [dOf, PyData.canLay0, okV] using h
  | _ => simp [dOf, PyData.canLay0]
theorem layAll_dOf : ∀ {xs : List V}, xs.all okV = true → PyData.canLayAll0 (xs.map dOf) = true
  | [], _ => by simp [PyData.canLayAll0]
  | x :: xs, h => by
    rw [List.all_cons, Bool.and_eq_true] at h
    simp only [List.map_cons, PyData.canLayAll0, Bool.and_eq_true]
    exact ⟨lay_dOf h.1, layAll_dOf h.2⟩
theorem depth_dOf (v : V) : (dOf v).depth = 0 := by cases v <;> simp [dOf, PyData.depth]
theorem depthAll_dOf : ∀ xs : List V, PyData.depthAll (xs.map dOf) = 0
  | [] => by simp [PyData.depthAll]
  | x :: xs => by simp only [List.map_cons, PyData.depthAll, depth_dOf, depthAll_dOf xs]; rfl
theorem shaped_tup {xs : List V} (h : xs.all okV = true) : SeqAt.shaped (.tuple (xs.map dOf)) = true := by
  unfold SeqAt.shaped
  simp only [PyData.canLay0, PyData.depth, layAll_dOf h, depthAll_dOf, Bool.true_and]
  decide

/-! ### is_name -/
abbrev sIsName : Stmt := topS 11
abbrev NIsName : List Str := ["value", "char"]
abbrev PIsName : List Str := ["value"]
theorem scIsName : FnScope NIsName PIsName (defScope sIsName) := ⟨rfl, rfl, rfl, by decide +kernel, rfl, by decide +kernel, by decide +kernel⟩
def LET : Str := "abcdefghijklmnopqrstuvwxyz"
def DIG : Str := "0123456789"
def KWS : List Str := ["globals", "kinds", "keep", "def", "if", "else", "while", "risk", "raise", "try", "except", "finally", "undo", "with", "swallow", "return"]
def al (c : Nat) : Bool := decide (c ∈ LET.cps.toList) || decide (c ∈ DIG.cps.toList)
def isName (z : Str) : Bool := match z.cps.toList with
  | [] => false
  | c :: r => decide (c ∈ LET.cps.toList) && (c :: r).all al && !inV (.str z) (KWS.map V.str)
theorem isName_nil {z : Str} (h : z.cps.toList = []) : isName z = false := by unfold isName; rw [h]
theorem isName_at {z : Str} {c : Nat} (h : z.cps.toList[0]? = some c) : isName z = (decide (c ∈ LET.cps.toList) && z.cps.toList.all al && !inV (.str z) (KWS.map V.str)) := by
  unfold isName
  cases e : z.cps.toList with
  | nil => rw [e] at h; simp at h
  | cons a r => rw [e] at h; simp at h; subst h; rfl
theorem str_empty_iff {z : Str} : (V.str z = V.str ("" : Str)) ↔ z.cps.toList = [] := by
  constructor
  · intro h
    injection h with h
    subst h
    decide +kernel
  · intro h
    congr 1
    have e : z.cps = #[] := by simpa using h
    cases z with
    | mk c =>
      have e : c = #[] := e
      subst e
      decide +kernel
/-- what is asked of a value: a text not too long, or something that is no text -/
def NoStr (K : PySem.W.Frag) (H : Hp) (v : V) : Prop := ∃ t, TyX K H v t ∧ PySem.W.kitOne K t (.type "str") = some false
def spName (K : PySem.W.Frag) : Sp := fun vs H Q _ => ∃ v, vs = [v] ∧ ((∃ z : Str, v = .str z ∧ z.length ≤ 1000 ∧ Q (.bl (isName z)) H) ∨ (NoStr K H v ∧ Q (.bl false) H))
structure TxName (K : PySem.W.Frag) (mg : Str → Option Value) (kw : Addr) : Prop where
  n_isinstance : mg "isinstance" = none
  n_str : mg "str" = none
  c_LETTERS : ∃ u, mg "LETTERS" = some u ∧ RelV (.str LET) u
  c_DIGITS : ∃ u, mg "DIGITS" = some u ∧ RelV (.str DIG) u
  c_KEYWORDS : ∃ u, mg "KEYWORDS" = some u ∧ RelV (.ref kw) u
  kws : ∀ H, SqT K H kw (KWS.map V.str)
section
variable {P : Program} {w : World} {K : PySem.W.Frag} {mg : Str → Option Value} {base : Heap} {kw : Addr}
theorem ok_IsName {f : Addr} {fd : FuncData} (F : Fun K "is_name" "is_name" sIsName f fd) (T : TxName K mg kw) : FnOk P w K mg base CX0 1 f fd PIsName (spName K) := by
  refine F.ok scIsName (fun vs H Q E h => ?_) (fun cdv A outer s H vs Q E hr h => ?_)
  · obtain ⟨v, rfl, _⟩ := h
    rfl
  · obtain ⟨v, rfl, h⟩ := h
    refine ⟨_, (pss_cons (ps_if (PW.pt (pw_or (pt_not (pt_val (pe_callB call_isi (by rfl) T.n_isinstance bb_isinstance (pa_cons (pv 0) (pa_cons (pe_bltn (v := .ty "str") (by rfl) T.n_str bb_str rfl) pa_nil))))) (pw_or (pt_cmpR op_eq (pv 0) pe_str (nomark _)) (pw_or1 (pt_cmpR op_notIn_sign (pe_ix ix_str (pv 0) pe_int (fun _ _ => rfl)) (pe_globE rfl T.c_LETTERS) (by rfl))))))
  (pss_one (ps_ret pe_bl))
  pss_nil)
  (pss_cons (ps_for PassesOwn.never rfl (pi_str (pv 0)) (pg_name (i := 1) scIsName.nd rfl (Or.inl rfl))
  (pss_one (ps_if (PW.pt (pw_and (pt_cmpR op_notIn_sign (pv 1) (pe_globE rfl T.c_LETTERS) (by rfl)) (pw_and1 (pt_cmpR op_notIn_sign (pv 1) (pe_globE rfl T.c_DIGITS) (by rfl)))))
  (pss_one (ps_ret pe_bl))
  pss_nil)))
  (pss_one (ps_ret (pe_cmpR op_notIn_seq (pv 0) (pe_globE rfl T.c_KEYWORDS) (by rfl)))))), ?_⟩
    rcases h with ⟨z, rfl, hz, k⟩ | ⟨⟨t, ty, kt⟩, k⟩
    · refine ⟨_, rfl, _, _, _, _, _, rfl, .ty _, .base (.str z), kit_ty (r := true) (by decide +kernel), _, rfl, ?_⟩
      refine ⟨_, rfl, rfl, _, rfl, ite2 (fun he => ?_) (fun he => ?_)⟩
      · have e := str_empty_iff.mp (of_decide_eq_true he)
        rw [isName_nil e] at k
        exact k
      · have hne : z.cps.toList ≠ [] := fun e => he (decide_eq_true (str_empty_iff.mpr e))
        obtain ⟨c, hc⟩ : ∃ c, z.cps.toList[0]? = some c := by
          cases e : z.cps.toList with
          | nil => exact absurd e hne
          | cons a r => exact ⟨a, rfl⟩
        rw [isName_at hc] at k
        refine ⟨_, rfl, z, 0, c, rfl, rfl, Nat.le_trans hz (by decide), atI_nat (j := 0) hc, c, _, rfl, rfl, _, rfl, ite2 (fun hl => ?_) (fun hl => ?_)⟩
        · have hl : decide (c ∈ LET.cps.toList) = false := by simpa using hl
          rw [hl] at k
          exact k
        · have hl : decide (c ∈ LET.cps.toList) = true := by simpa using hl
          rw [hl, Bool.true_and] at k
          refine ⟨_, rfl, z, rfl, for_it (walk_str (z := z)) (fun i σ H' => H' = H ∧ (z.cps.toList.take i).all al = true ∧ ∃ x, σ = [some (.str z), x]) ⟨rfl, rfl, none, rfl⟩ (fun _ _ _ _ _ => trivial) ?_ ?_⟩
          · rintro i x σ H1 H2 hi ⟨rfl, ha, y, rfl⟩ ⟨rfl, d, hd, rfl⟩
            have hd' : z.cps.toList[i]? = some d := by rw [Array.getElem?_toList]; exact hd
            have step : decide (d ∈ LET.cps.toList) || decide (d ∈ DIG.cps.toList) → (z.cps.toList.take (i + 1)).all al = true := fun h => by
              rw [take_snoc hd', List.all_append, ha, Bool.true_and, List.all_cons, List.all_nil, Bool.and_true]
              exact h
            have bad : (decide (d ∈ LET.cps.toList) || decide (d ∈ DIG.cps.toList)) = false → z.cps.toList.all al = false := fun h => by
              rw [List.all_eq_false]
              exact ⟨d, List.mem_of_getElem? hd', by unfold al; rw [h]; decide⟩
            refine ⟨_, rfl, d, _, rfl, rfl, _, rfl, ite2 (fun h1 => ?_) (fun h1 => ?_)⟩
            · have h1 : decide (d ∈ LET.cps.toList) = false := by simpa using h1
              refine ⟨_, rfl, d, _, rfl, rfl, _, rfl, ite2 (fun h2 => ?_) (fun h2 => ?_)⟩
              · have h2 : decide (d ∈ DIG.cps.toList) = false := by simpa using h2
                rw [bad (by rw [h1, h2]; rfl)] at k
                exact k
              · have h2 : decide (d ∈ DIG.cps.toList) = true := by simpa using h2
                exact ⟨rfl, step (by rw [h2]; simp), _, rfl⟩
            · have h1 : decide (d ∈ LET.cps.toList) = true := by simpa using h1
              exact ⟨rfl, step (by rw [h1]; simp), _, rfl⟩
          · rintro σ H1 ⟨rfl, ha, y, rfl⟩
            rw [show z.cps.size = z.cps.toList.length from Array.length_toList.symm, List.take_length] at ha
            rw [ha, Bool.true_and] at k
            exact ⟨_, rfl, kw, _, rfl, .inr (T.kws _), rfl, by decide +kernel, k⟩
    · refine ⟨_, rfl, _, _, _, _, _, rfl, .ty _, ty, kt, _, rfl, ?_⟩
      exact k
end
theorem sq_kws {K : PySem.W.Frag} {a : Addr} {od : Option Addr} {n : Nat} {sl : Array (Option Value)} {its : List Value} (h : K.lookup a = some ⟨.type "tuple", od, .seq its.toArray n, sl⟩) (hv : Vals (KWS.map V.str) its) (H : Hp) : SqT K H a (KWS.map V.str) :=
  .inr ⟨_, _, n, h, rfl, rfl, by
    have e := hv.length
    rw [List.length_map] at e
    have e2 : KWS.length = 16 := rfl
    show its.toArray.size ≤ sizeLine
    rw [List.size_toArray, ← e, e2]
    decide, by simpa using hv⟩

/-! ### stores -/
abbrev sIsInt : Stmt := topS 6
abbrev NIsInt : List Str := ["value"]
abbrev PIsInt : List Str := ["value"]
theorem scIsInt : FnScope NIsInt PIsInt (defScope sIsInt) := ⟨rfl, rfl, rfl, by decide +kernel, rfl, by decide +kernel, by decide +kernel⟩
abbrev sIsVals : Stmt := topS 13
abbrev NIsVals : List Str := ["value", "one"]
abbrev PIsVals : List Str := ["value"]
theorem scIsVals : FnScope NIsVals PIsVals (defScope sIsVals) := ⟨rfl, rfl, rfl, by decide +kernel, rfl, by decide +kernel, by decide +kernel⟩
abbrev sIsEvt : Stmt := topS 14
abbrev NIsEvt : List Str := ["value", "names"]
abbrev PIsEvt : List Str := ["value", "names"]
theorem scIsEvt : FnScope NIsEvt PIsEvt (defScope sIsEvt) := ⟨rfl, rfl, rfl, by decide +kernel, rfl, by decide +kernel, by decide +kernel⟩
abbrev sApp : Stmt := topS 15
abbrev NApp : List Str := ["state", "event", "values", "log"]
abbrev PApp : List Str := ["state", "event"]
theorem scApp : FnScope NApp PApp (defScope sApp) := ⟨rfl, rfl, rfl, by decide +kernel, rfl, by decide +kernel, by decide +kernel⟩
abbrev sSInit : Stmt := inClass (topS 16) 0
abbrev NSInit : List Str := ["self", "values"]
abbrev PSInit : List Str := ["self", "values"]
theorem scSInit : FnScope NSInit PSInit (defScope sSInit) := ⟨rfl, rfl, rfl, by decide +kernel, rfl, by decide +kernel, by decide +kernel⟩
abbrev sSPend : Stmt := inClass (topS 16) 1
abbrev NSPend : List Str := ["self"]
abbrev PSPend : List Str := ["self"]
theorem scSPend : FnScope NSPend PSPend (defScope sSPend) := ⟨rfl, rfl, rfl, by decide +kernel, rfl, by decide +kernel, by decide +kernel⟩
abbrev sSPerf : Stmt := inClass (topS 16) 2
abbrev NSPerf : List Str := ["self", "event"]
abbrev PSPerf : List Str := ["self", "event"]
theorem scSPerf : FnScope NSPerf PSPerf (defScope sSPerf) := ⟨rfl, rfl, rfl, by decide +kernel, rfl, by decide +kernel, by decide +kernel⟩
abbrev sSSeen : Stmt := inClass (topS 16) 3
abbrev NSSeen : List Str := ["self", "state", "event"]
abbrev PSSeen : List Str := ["self"]
theorem scSSeen : FnScope NSSeen PSSeen (defScope sSSeen) := ⟨rfl, rfl, rfl, by decide +kernel, rfl, by decide +kernel, by decide +kernel⟩
abbrev sSCur : Stmt := inClass (topS 16) 4
abbrev NSCur : List Str := ["self"]
abbrev PSCur : List Str := ["self"]
theorem scSCur : FnScope NSCur PSCur (defScope sSCur) := ⟨rfl, rfl, rfl, by decide +kernel, rfl, by decide +kernel, by decide +kernel⟩
abbrev sSLog : Stmt := inClass (topS 16) 5
abbrev NSLog : List Str := ["self"]
abbrev PSLog : List Str := ["self"]
theorem scSLog : FnScope NSLog PSLog (defScope sSLog) := ⟨rfl, rfl, rfl, by decide +kernel, rfl, by decide +kernel, by decide +kernel⟩
abbrev sSRec : Stmt := inClass (topS 16) 7
abbrev NSRec : List Str := ["self", "values", "log", "found", "name", "worth"]
abbrev PSRec : List Str := ["self"]
theorem scSRec : FnScope NSRec PSRec (defScope sSRec) := ⟨rfl, rfl, rfl, by decide +kernel, rfl, by decide +kernel, by decide +kernel⟩
abbrev Recs := List (Str × Int)
def kvOf (l : Recs) : List (Key × V) := l.map fun p => (Sum.inr p.1, V.int p.2)
inductive Evt where
  | log (n : Str) (v : Int) | write (n : Str) (v : Int) | clear | flush
def evV : Evt → List V
  | .log n v => [.str "log", .str n, .int v]
  | .write n v => [.str "write", .str n, .int v]
  | .clear => [.str "clear"]
  | .flush => [.str "flush"]
def EvAt (H : Hp) (v : V) (e : Evt) : Prop := ∃ a, v = .ref a ∧ H a = some (.tup (evV e))
def RecAt (H : Hp) (v : V) (r : Str × Int) : Prop := ∃ a, v = .ref a ∧ H a = some (.tup [.str r.1, .int r.2])
/-- d[n] = v for a name that is there -/
def setR (l : Recs) (n : Str) (v : Int) : Recs := l.map fun p => if p.1 = n then (p.1, v) else p
def names (l : Recs) : List Str := l.map (·.1)
theorem names_setR (l : Recs) (n : Str) (v : Int) : names (setR l n v) = names l := by
  unfold names setR
  rw [List.map_map]
  refine List.map_congr_left fun p _ => ?_
  show (if p.1 = n then (p.1, v) else p).1 = p.1
  split <;> rfl
theorem length_setR (l : Recs) (n : Str) (v : Int) : (setR l n v).length = l.length := List.length_map ..
theorem valV_kvOf {l : Recs} {n : Str} (h : n ∈ names l) : ∃ v, valV (kvOf l) (Sum.inr n) = some (V.int v) := by
  induction l with
  | nil => cases h
  | cons p r ih =>
    by_cases e : p.1 = n
    · refine ⟨p.2, ?_⟩
      unfold kvOf valV
      simp [e]
    · obtain ⟨v, hv⟩ := ih (by
        rcases List.mem_cons.mp h with q | q
        · exact absurd q.symm e
        · exact q)
      refine ⟨v, ?_⟩
      unfold kvOf valV at hv ⊢
      rw [List.map_cons]
      simpa [e] using hv
theorem putK_kvOf {l : Recs} {n : Str} (v : Int) (h : n ∈ names l) : putK (kvOf l) (Sum.inr n) (V.int v) = kvOf (setR l n v) := by
  obtain ⟨u, hu⟩ := valV_kvOf h
  have an : ((kvOf l).any fun kv => decide (kv.1 = (Sum.inr n : Key))) = true := by rw [valV_any, hu]; rfl
  unfold putK
  rw [if_pos an]
  unfold kvOf setR
  rw [List.map_map, List.map_map]
  refine List.map_congr_left fun p _ => ?_
  show (if (Sum.inr p.1 : Key) = Sum.inr n then ((Sum.inr p.1 : Key), V.int v) else (Sum.inr p.1, V.int p.2)) = ((Sum.inr (if p.1 = n then (p.1, v) else p).1 : Key), V.int (if p.1 = n then (p.1, v) else p).2)
  by_cases e : p.1 = n
  · rw [if_pos (by rw [e]), if_pos e]
  · rw [if_neg (fun z => e (Sum.inr.inj z)), if_neg e]
/-! what is asked of the module -/
structure TxSt (K : PySem.W.Frag) (mg : Str → Option Value) (kw : Addr) : Prop extends TxPool mg, TxName K mg kw where
  n_bool : mg "bool" = none
  n_dict : mg "dict" = none
  n_tuple : mg "tuple" = none
  n_list : mg "list" = none
  n_all : mg "all" = none
  n_range : mg "range" = none
  n_reversed : mg "reversed" = none
theorem bb_dict : bootBuiltins "dict" = some (.type "dict") := by decide +kernel
def NoInt (K : PySem.W.Frag) (H : Hp) (v : V) : Prop := ∃ t b, TyX K H v t ∧ PySem.W.kitOne K t (.type "int") = some b ∧ (b = true → PySem.W.kitOne K t (.type "bool") = some true)
def spIsInt (K : PySem.W.Frag) : Sp := fun vs H Q _ => ∃ v, vs = [v] ∧ ((∃ i : Int, v = .int i ∧ Q (.bl true) H) ∨ (NoInt K H v ∧ Q (.bl false) H))
def GoodR (l : Recs) : Prop := (names l).Nodup ∧ l.length ≤ 1000 ∧ ∀ n ∈ names l, isName n = true ∧ n.length ≤ 1000
def spVals : Sp := fun vs H Q _ => ∃ (d : Addr) (l : Recs), vs = [.ref d] ∧ H d = some (.dK (kvOf l)) ∧ GoodR l ∧ ∀ H', Same H H' → Q (.bl true) H'
theorem GoodR.set {l : Recs} (h : GoodR l) (n : Str) (v : Int) : GoodR (setR l n v) := by
  unfold GoodR at *
  rw [names_setR, length_setR]
  exact h
def evOk (l : Recs) : Evt → Prop
  | .log n _ => n ∈ names l
  | .write n _ => n ∈ names l
  | _ => True
section
variable {P : Program} {w : World} {K : PySem.W.Frag} {mg : Str → Option Value} {base : Heap} {kw : Addr}
theorem ok_IsInt {f : Addr} {fd : FuncData} (F : Fun K "is_integer" "is_integer" sIsInt f fd) (T : TxSt K mg kw) : FnOk P w K mg base CX0 1 f fd PIsInt (spIsInt K) := by
  refine F.ok scIsInt (fun vs H Q E h => ?_) (fun cdv A outer s H vs Q E hr h => ?_)
  · obtain ⟨v, rfl, _⟩ := h
    rfl
  · obtain ⟨v, rfl, h⟩ := h
    refine ⟨_, (pss_one (ps_ret (pe_and (pe_callB call_isi (by rfl) T.n_isinstance bb_isinstance (pa_cons (pv 0) (pa_cons (pe_bltn (v := .ty "int") (by rfl) T.n_int bb_int rfl) pa_nil))) (pe_one (pe_not (pe_callB call_isi (by rfl) T.n_isinstance bb_isinstance (pa_cons (pv 0) (pa_cons (pe_bltn (v := .ty "bool") (by rfl) T.n_bool bb_bool rfl) pa_nil)))))))), ?_⟩
    rcases h with ⟨i, rfl, k⟩ | ⟨⟨t, b, ty, k1, k2⟩, k⟩
    · refine ⟨_, rfl, _, _, _, _, _, rfl, .ty _, .base (.int i), kit_ty (r := true) (by decide +kernel), _, rfl, ?_⟩
      exact ⟨_, rfl, _, _, _, _, _, rfl, .ty _, .base (.int i), kit_ty (r := false) (by decide +kernel), _, rfl, k⟩
    · refine ⟨_, rfl, _, _, _, _, _, rfl, .ty _, ty, k1, _, rfl, ?_⟩
      cases b with
      | false => exact k
      | true => exact ⟨_, rfl, _, _, _, _, _, rfl, .ty _, ty, k2 rfl, _, rfl, k⟩
theorem ok_IsVals {f : Addr} {fd : FuncData} (F : Fun K "is_values" "is_values" sIsVals f fd) (T : TxSt K mg kw) (GN : Has P w K mg base CX0 1 "is_name" PIsName (spName K)) (GI : Has P w K mg base CX0 1 "is_integer" PIsInt (spIsInt K)) : FnOk P w K mg base CX0 2 f fd PIsVals spVals := by
  refine F.ok scIsVals (fun vs H Q E h => ?_) (fun cdv A outer s H vs Q E hr h => ?_)
  · obtain ⟨d, l, rfl, _⟩ := h
    rfl
  · obtain ⟨d, l, rfl, ed, gl, k⟩ := h
    have hu := hu_of hr
    refine ⟨_, (pss_one (ps_ret (pe_and (pe_callB call_isi (by rfl) T.n_isinstance bb_isinstance (pa_cons (pv 0) (pa_cons (pe_bltn (v := .ty "dict") (by rfl) T.n_dict bb_dict rfl) pa_nil))) (pe_one (pe_callB (cr_all rfl) (by rfl) T.n_all bb_all (pa_cons (pe_lock (pe_lc (own := [("one", 1)]) (g := gName 1) (tt := tYes) rfl scIsVals.nd (pi_keys (pv 0)) (blkOk_by (own := [("one", 1)]) (N := NIsVals) (sc := (defScope sIsVals)) (by decide +kernel)) (fun _ _ _ _ _ => (pg_name (i := 1) scIsVals.nd rfl (Or.inl rfl))) (fun _ _ _ _ _ => pts_nil) (fun _ _ _ _ _ => (pe_and (pe_callH GN hr rfl pass0 (pa_cons (pv 1) pa_nil)) (pe_one (pe_callH GI hr rfl pass0 (pa_cons (pe_dget hu (pv 0) (pv 1) (fun _ _ => rfl)) pa_nil))))))) pa_nil)))))), ?_⟩
    refine ⟨_, rfl, _, _, _, _, _, rfl, .ty _, .base (.dK ed), kit_ty (r := true) (by decide +kernel), _, rfl, ?_⟩
    refine ⟨d, _, ed, trivial, fun od => ?_⟩
    refine ⟨_, rfl, d, od, rfl, .inl ⟨_, upd_same, fun D hD => ?_⟩⟩
    have nDd : D ≠ d := fun z => by rw [z, upd_same] at hD; cases hD
    have hD0 : H D = none := by rw [← hD, upd_ne nDd]
    refine lc_it walk_keys (fun i H' => Same (upd H d (.frz od (.dK (kvOf l)))) H' ∧ H' D = some (.lst ((List.replicate i true).map V.bl))) ⟨same_new hD, upd_same⟩ (fun i H' _ h' => h'.1 _ _ upd_same) ?_ ?_
    · rintro i x H1 H2 hi ⟨s1, e1⟩ ⟨rfl, ky, v, hk, rfl⟩
      have hil : i < l.length := by
        have q : (kvOf l).length = l.length := List.length_map ..
        omega
      obtain ⟨p, hp⟩ : ∃ p, l[i]? = some p := ⟨l[i], by simp [hil]⟩
      have hkv : (kvOf l)[i]? = some (Sum.inr p.1, V.int p.2) := by unfold kvOf; rw [List.getElem?_map, hp]; rfl
      rw [hk] at hkv
      cases hkv
      have mn : p.1 ∈ names l := List.mem_map.mpr ⟨p, List.mem_of_getElem? hp, rfl⟩
      obtain ⟨z, hz⟩ := valV_kvOf mn
      have gn := gl.2.2 _ mn
      refine ⟨rfl, _, rfl, _, rfl, .inl ⟨p.1, rfl, gn.2, true, by rw [gn.1], ?_⟩⟩
      refine ⟨_, rfl, _, rfl, d, _, rfl, .inl ⟨kvOf l, Sum.inr p.1, .inr ⟨od, s1 _ _ upd_same⟩, rfl, hz.symm⟩, _, rfl, .inl ⟨z, rfl, _, e1, small1000 ?_, fun b o e => ?_, ?_⟩⟩
      · rw [List.length_map, List.length_replicate]
        have := gl.2.1
        omega
      · rw [upd_ne (ne_of_none e hD)]
        exact s1 b o e
      · rw [upd_same, List.replicate_succ', List.map_append]
        rfl
    · rintro H1 ⟨s1, e1⟩
      refine ⟨s1 _ _ upd_same, D, _, rfl, SqL.of (by rw [upd_ne nDd]; exact e1), ?_⟩
      have ea : ∀ n : Nat, (List.replicate n true).all id = true := fun n => by
        rw [List.all_eq_true]
        intro b hb
        rw [(List.mem_replicate.mp hb).2]
        rfl
      rw [ea]
      refine k _ fun b o e => ?_
      by_cases hb : b = d
      · rw [hb, upd_same, ← e, hb, ed]
      · rw [upd_ne hb]
        exact s1 b o (by rw [upd_ne hb]; exact e)
/-! is_event -/
def spEvt (K : PySem.W.Frag) : Sp := fun vs H Q _ => ∃ (a nl : Addr) (ev : Evt) (l : Recs), vs = [.ref a, .ref nl] ∧ H a = some (.tup (evV ev)) ∧ SqL K H nl ((names l).map V.str) ∧ evOk l ev ∧ (∀ n ∈ names l, isName n = true) ∧ ∀ H', Same H H' → Q (.bl true) H'
theorem inV_names {l : Recs} {n : Str} (h : n ∈ names l) : inV (.str n) ((names l).map V.str) = true := by
  unfold inV
  rw [List.any_eq_true]
  exact ⟨.str n, List.mem_map.mpr ⟨n, h, rfl⟩, by unfold eqV; simp⟩
theorem flat_names (l : List Str) : (l.map V.str).all flatV = true := by
  rw [List.all_eq_true]
  intro v hv
  obtain ⟨n, _, rfl⟩ := List.mem_map.mp hv
  rfl
theorem evV_ne (ev : Evt) : ∃ x xs, evV ev = .str x :: xs := by
  cases ev <;> exact ⟨_, _, rfl⟩
theorem strOk_name {n : Str} (h : isName n = true) : PyData.strOk n = true := by
  unfold PyData.strOk
  rw [← Array.all_toList, List.all_eq_true]
  intro c hc
  obtain ⟨c0, h0⟩ : ∃ c0, n.cps.toList[0]? = some c0 := by
    cases e : n.cps.toList with
    | nil => rw [e] at hc; cases hc
    | cons a r => exact ⟨a, rfl⟩
  rw [isName_at h0] at h
  simp only [Bool.and_eq_true] at h
  have q := List.all_eq_true.mp h.1.2 c hc
  unfold al at q
  simp only [Bool.or_eq_true, decide_eq_true_eq] at q
  have b1 : ∀ x ∈ LET.cps.toList, x < 200 := by decide +kernel
  have b2 : ∀ x ∈ DIG.cps.toList, x < 200 := by decide +kernel
  rcases q with q | q
  · have := b1 c q
    simp only [decide_eq_true_eq]
    omega
  · have := b2 c q
    simp only [decide_eq_true_eq]
    omega
theorem evV_ok {l : Recs} {ev : Evt} (h : evOk l ev) (gn : ∀ n ∈ names l, isName n = true) : (evV ev).all okV = true := by
  cases ev with
  | log n v =>
    simp only [evV, List.all_cons, List.all_nil, okV, strOk_name (gn n h), Bool.and_true]
    decide +kernel
  | write n v =>
    simp only [evV, List.all_cons, List.all_nil, okV, strOk_name (gn n h), Bool.and_true]
    decide +kernel
  | clear => decide +kernel
  | flush => decide +kernel
theorem ok_IsEvt {f : Addr} {fd : FuncData} (F : Fun K "is_event" "is_event" sIsEvt f fd) (T : TxSt K mg kw) (GI : Has P w K mg base CX0 1 "is_integer" PIsInt (spIsInt K)) : FnOk P w K mg base CX0 2 f fd PIsEvt (spEvt K) := by
  refine F.ok scIsEvt (fun vs H Q E h => ?_) (fun cdv A outer s H vs Q E hr h => ?_)
  · obtain ⟨a, nl, ev, l, rfl, _⟩ := h
    rfl
  · obtain ⟨a, nl, ev, l, rfl, ea, en, ok, gn, k⟩ := h
    have hu := hu_of hr
    refine ⟨_, (pss_cons (ps_if (PW.pt (pw_or (pt_not (pt_val (pe_callB call_isi (by rfl) T.n_isinstance bb_isinstance (pa_cons (pv 0) (pa_cons (pe_bltn (v := .ty "tuple") (by rfl) T.n_tuple bb_tuple rfl) pa_nil))))) (pw_or (pt_cmpR (op_eqD hr.units) (pv 0) (pe_tup pa_nil) (nomark _)) (pw_or1 (pt_not (pt_val (pe_callB call_isi (by rfl) T.n_isinstance bb_isinstance (pa_cons (pe_ix ix_tup (pv 0) pe_int (fun _ _ => rfl)) (pa_cons (pe_bltn (v := .ty "str") (by rfl) T.n_str bb_str rfl) pa_nil)))))))))
  (pss_one (ps_ret pe_bl))
  pss_nil)
  (pss_cons (ps_if (pt_cmpR op_in_seq (pe_ix ix_tup (pv 0) pe_int (fun _ _ => rfl)) (pe_tup (pa_cons pe_str (pa_cons pe_str pa_nil))) (by rfl))
  (pss_one (ps_ret (pe_cmpR op_eq (pe_callB call_len_seq (by rfl) T.n_len bb_len (pa_cons (pv 0) pa_nil)) pe_int (nomark _))))
  pss_nil)
  (pss_cons (ps_if (PW.pt (pw_or (pt_cmpR op_notIn_seq (pe_ix ix_tup (pv 0) pe_int (fun _ _ => rfl)) (pe_tup (pa_cons pe_str (pa_cons pe_str pa_nil))) (by rfl)) (pw_or1 (pt_cmpR op_ne (pe_callB call_len_seq (by rfl) T.n_len bb_len (pa_cons (pv 0) pa_nil)) pe_int (nomark _)))))
  (pss_one (ps_ret pe_bl))
  pss_nil)
  (pss_one (ps_ret (pe_and (pe_callB call_isi (by rfl) T.n_isinstance bb_isinstance (pa_cons (pe_ix ix_tup (pv 0) pe_int (fun _ _ => rfl)) (pa_cons (pe_bltn (v := .ty "str") (by rfl) T.n_str bb_str rfl) pa_nil))) (pe_and (pe_cmpR op_in_seq (pe_ix ix_tup (pv 0) pe_int (fun _ _ => rfl)) (pv 1) (by rfl)) (pe_one (pe_callH GI hr rfl pass0 (pa_cons (pe_ix ix_tup (pv 0) pe_int (fun _ _ => rfl)) pa_nil)))))))))), ?_⟩
    refine ⟨_, rfl, _, _, _, _, _, rfl, .ty _, .base (.tup ea), kit_ty (r := true) (by decide +kernel), _, rfl, ?_⟩
    have fl : (evV ev).all flatV = true := by cases ev <;> rfl
    have sh : SeqAt.shaped (.tuple ((evV ev).map dOf)) = true := shaped_tup (evV_ok ok gn)
    have ne : PyData.eqv (.tuple ((evV ev).map dOf)) (.tuple []) = false := by cases ev <;> rfl
    refine ⟨_, rfl, (by show 0 ≤ sizeLine; decide), fun t1 h1 => ?_⟩
    have s1 : Same H _ := same_new (o := .tup []) h1
    refine ⟨_, _, .tup (SqT.of (s1 _ _ ea)) (dpAll_flat fl), .tup (SqT.of upd_same) .nil, sh, rfl, _, rfl, iteE ne ?_⟩
    obtain ⟨x0, xs, exs⟩ := evV_ne ev
    have a0 : atI (evV ev) 0 = some (.str x0) := by rw [exs]; exact atI_nat (j := 0) rfl
    refine ⟨_, rfl, a, _, _, _, rfl, rfl, SqT.of (s1 _ _ ea), a0, _, _, _, _, _, rfl, .ty _, .base (.str x0), kit_ty (r := true) (by decide +kernel), _, rfl, ?_⟩
    refine ⟨_, rfl, a, _, _, _, rfl, rfl, SqT.of (s1 _ _ ea), a0, (by show 2 ≤ sizeLine; decide), fun t2 h2 => ?_⟩
    have s2 : Same H _ := s1.trans (same_new (o := .tup [.str "clear", .str "flush"]) h2)
    refine ⟨t2, _, rfl, .inr (SqT.of upd_same), rfl, rfl, _, rfl, ?_⟩
    cases ev with
    | log n v =>
      cases exs
      refine iteE (by decide +kernel) ?_
      refine ⟨_, rfl, a, _, _, _, rfl, rfl, SqT.of (s2 _ _ ea), a0, (by show 2 ≤ sizeLine; decide), fun t3 h3 => ?_⟩
      have s3 : Same H _ := s2.trans (same_new (o := .tup [.str "log", .str "write"]) h3)
      refine ⟨t3, _, rfl, .inr (SqT.of upd_same), rfl, rfl, _, rfl, iteE (by decide +kernel) ?_⟩
      refine ⟨_, rfl, a, _, rfl, .inr (SqT.of (s3 _ _ ea)), rfl, _, rfl, ?_⟩
      refine ⟨_, rfl, a, _, _, _, rfl, rfl, SqT.of (s3 _ _ ea), rfl, _, _, _, _, _, rfl, .ty _, .base (.str n), kit_ty (r := true) (by decide +kernel), _, rfl, ?_⟩
      refine ⟨_, rfl, a, _, _, _, rfl, rfl, SqT.of (s3 _ _ ea), rfl, _, rfl, nl, _, rfl, .inl (s3.seq en), rfl, flat_names _, true, congrArg V.bl (inV_names ok), ?_⟩
      exact ⟨_, rfl, a, _, _, _, rfl, rfl, SqT.of (s3 _ _ ea), rfl, _, rfl, .inl ⟨v, rfl, k _ s3⟩⟩
    | write n v =>
      cases exs
      refine iteE (by decide +kernel) ?_
      refine ⟨_, rfl, a, _, _, _, rfl, rfl, SqT.of (s2 _ _ ea), a0, (by show 2 ≤ sizeLine; decide), fun t3 h3 => ?_⟩
      have s3 : Same H _ := s2.trans (same_new (o := .tup [.str "log", .str "write"]) h3)
      refine ⟨t3, _, rfl, .inr (SqT.of upd_same), rfl, rfl, _, rfl, iteE (by decide +kernel) ?_⟩
      refine ⟨_, rfl, a, _, rfl, .inr (SqT.of (s3 _ _ ea)), rfl, _, rfl, ?_⟩
      refine ⟨_, rfl, a, _, _, _, rfl, rfl, SqT.of (s3 _ _ ea), rfl, _, _, _, _, _, rfl, .ty _, .base (.str n), kit_ty (r := true) (by decide +kernel), _, rfl, ?_⟩
      refine ⟨_, rfl, a, _, _, _, rfl, rfl, SqT.of (s3 _ _ ea), rfl, _, rfl, nl, _, rfl, .inl (s3.seq en), rfl, flat_names _, true, congrArg V.bl (inV_names ok), ?_⟩
      exact ⟨_, rfl, a, _, _, _, rfl, rfl, SqT.of (s3 _ _ ea), rfl, _, rfl, .inl ⟨v, rfl, k _ s3⟩⟩
    | clear =>
      cases exs
      refine iteS (by decide +kernel) ?_
      exact ⟨_, rfl, a, _, rfl, .inr (SqT.of (s2 _ _ ea)), rfl, k _ s2⟩
    | flush =>
      cases exs
      refine iteS (by decide +kernel) ?_
      exact ⟨_, rfl, a, _, rfl, .inr (SqT.of (s2 _ _ ea)), rfl, k _ s2⟩
end

section
variable {P : Program} {w : World} {K : PySem.W.Frag} {mg : Str → Option Value} {base : Heap} {kw : Addr}
/-! applied -/
/-- av: dicts that the state's own is none of -/
def StateAt (av : List Addr) (H : Hp) (a : Addr) (l g : Recs) : Prop := ∃ (dv dl : Addr) (xs : List V), H a = some (.tup [.ref dv, .ref dl]) ∧ H dv = some (.dK (kvOf l)) ∧ H dl = some (.lst xs) ∧ Paired (RecAt H) xs g ∧ dv ∉ av ∧ dl ∉ av
def Av (av : List Addr) (H : Hp) : Prop := ∀ b ∈ av, ∃ o, H b = some o
theorem Av.same {av : List Addr} {H H' : Hp} (h : Av av H) (s : Same H H') : Av av H' := fun b hb => let ⟨o, e⟩ := h b hb; ⟨o, s _ _ e⟩
theorem Av.new {av : List Addr} {H : Hp} (h : Av av H) {p : Addr} (hp : H p = none) : p ∉ av := fun hb => by
  obtain ⟨o, e⟩ := h p hb
  rw [hp] at e
  cases e
def app (st : Recs × Recs) : Evt → Recs × Recs
  | .log n v => (st.1, st.2 ++ [(n, v)])
  | .write n v => (setR st.1 n v, st.2)
  | .clear => (st.1, [])
  | .flush => st
theorem RecAt.same {H H' : Hp} (s : Same H H') {v : V} {r : Str × Int} (h : RecAt H v r) : RecAt H' v r := let ⟨a, e, q⟩ := h; ⟨a, e, s _ _ q⟩
theorem EvAt.same {H H' : Hp} (s : Same H H') {v : V} {r : Evt} (h : EvAt H v r) : EvAt H' v r := let ⟨a, e, q⟩ := h; ⟨a, e, s _ _ q⟩
theorem StateAt.same {av : List Addr} {H H' : Hp} (s : Same H H') {a : Addr} {l g : Recs} (h : StateAt av H a l g) : StateAt av H' a l g :=
  let ⟨dv, dl, xs, e1, e2, e3, e4, e5⟩ := h
  ⟨dv, dl, xs, s _ _ e1, s _ _ e2, s _ _ e3, Paired.mapP e4 (fun _ _ q => q.same s), e5⟩
def spApp : Sp := fun vs H Q _ => ∃ (av : List Addr) (a e : Addr) (l g : Recs) (ev : Evt), vs = [.ref a, .ref e] ∧ Av av H ∧ StateAt av H a l g ∧ H e = some (.tup (evV ev)) ∧ evOk l ev ∧ l.length ≤ 1000 ∧ g.length < 1000 ∧
  ∀ (a' : Addr) (H' : Hp), Same H H' → StateAt av H' a' (app (l, g) ev).1 (app (l, g) ev).2 → Q (.ref a') H'
theorem Paired.snoc {α β : Type} {F : α → β → Prop} : ∀ {l₁ : List α} {l₂ : List β} {a : α} {b : β}, Paired F l₁ l₂ → F a b → Paired F (l₁ ++ [a]) (l₂ ++ [b])
  | _, _, _, _, .nil, h => .cons h .nil
  | _, _, _, _, .cons r t, h => .cons r (Paired.snoc t h)
theorem ok_App {f : Addr} {fd : FuncData} (F : Fun K "applied" "applied" sApp f fd) : FnOk P w K mg base CX0 1 f fd PApp spApp := by
  refine F.ok scApp (fun vs H Q E h => ?_) (fun cdv A outer s H vs Q E hr h => ?_)
  · obtain ⟨av, a, e, l, g, ev, rfl, _⟩ := h
    rfl
  · obtain ⟨av, a, e, l, g, ev, rfl, hav, ⟨dv, dl, xs, e1, e2, e3, e4, e5⟩, ee, ok, hl, hg, k⟩ := h
    have hu := hu_of hr
    refine ⟨_, (pss_cons (ps_asg (pv 0) (pg_tup (by rfl) (pgs_cons (pg_name (i := 2) scApp.nd rfl (Or.inl rfl)) (pgs_cons (pg_name (i := 3) scApp.nd rfl (Or.inl rfl)) pgs_nil))))
  (pss_cons (ps_if (pt_cmpR op_eq (pe_ix ix_tup (pv 1) pe_int (fun _ _ => rfl)) pe_str (nomark _))
  (pss_one (ps_ret (pe_tup (pa_cons (pv 2) (pa_cons (pe_lst (StX.pa_star (pv 3) (pa_cons (pe_tup (pa_cons (pe_ix ix_tup (pv 1) pe_int (fun _ _ => rfl)) (pa_cons (pe_ix ix_tup (pv 1) pe_int (fun _ _ => rfl)) pa_nil))) pa_nil))) pa_nil)))))
  pss_nil)
  (pss_cons (ps_if (pt_cmpR op_eq (pe_ix ix_tup (pv 1) pe_int (fun _ _ => rfl)) pe_str (nomark _))
  (pss_one (ps_ret (pe_tup (pa_cons (pe_dstar (pv 2) (pe_ix ix_tup (pv 1) pe_int (fun _ _ => rfl)) (pe_ix ix_tup (pv 1) pe_int (fun _ _ => rfl))) (pa_cons (pv 3) pa_nil)))))
  pss_nil)
  (pss_one (ps_ret (pe_tup (pa_cons (pv 2) (pa_cons (pe_ifExp (pt_cmpR op_eq (pe_ix ix_tup (pv 1) pe_int (fun _ _ => rfl)) pe_str (nomark _)) (pe_lst pa_nil) (pv 3)) pa_nil)))))))), ?_⟩
    refine ⟨_, rfl, a, _, rfl, SqT.of e1, rfl, _, _, rfl, _, _, rfl, rfl, ?_⟩
    have lx : xs.length = g.length := Paired.length e4
    cases ev with
    | log n v =>
      refine ⟨_, rfl, e, _, _, _, rfl, rfl, SqT.of ee, rfl, rfl, _, rfl, iteS (by decide +kernel) ?_⟩
      refine ⟨_, rfl, _, rfl, dl, _, rfl, .inr (SqL.of e3), _, rfl, e, _, _, _, rfl, rfl, SqT.of ee, rfl, _, rfl, e, _, _, _, rfl, rfl, SqT.of ee, rfl, (by show 2 ≤ sizeLine; decide), fun t ht => ?_⟩
      have s1 := same_new (o := .tup [.str n, .int v]) ht
      refine ⟨Nat.le_of_lt (small1000 (by rw [List.length_append]; show xs.length + 1 ≤ 1000; omega)), fun q hq => ?_⟩
      have s2 := s1.trans (same_new (o := .lst (xs ++ [.ref t])) hq)
      refine ⟨(by show 2 ≤ sizeLine; decide), fun p hp => ?_⟩
      have s3 := s2.trans (same_new (o := .tup [.ref dv, .ref q]) hp)
      have tq : t ≠ q := ne_of_none upd_same hq
      have et : upd (upd H t (.tup [.str n, .int v])) q (.lst (xs ++ [.ref t])) t = some (.tup [.str n, .int v]) := by rw [upd_ne tq, upd_same]
      have s4 := same_new (o := .tup [.ref dv, .ref q]) hp
      exact k p _ s3 ⟨dv, q, _, upd_same, s3 _ _ e2, s4 _ _ upd_same, Paired.snoc (Paired.mapP e4 fun _ _ z => z.same s3) ⟨t, rfl, s4 _ _ et⟩, e5.1, hav.new (s1.free hq)⟩
    | write n v =>
      refine ⟨_, rfl, e, _, _, _, rfl, rfl, SqT.of ee, rfl, rfl, _, rfl, iteE (by decide +kernel) ?_⟩
      refine ⟨_, rfl, e, _, _, _, rfl, rfl, SqT.of ee, rfl, rfl, _, rfl, iteS (by decide +kernel) ?_⟩
      intro p hp
      have s1 := same_new (o := .dK []) hp
      refine ⟨_, rfl, dv, kvOf l, rfl, ne_of_none e2 hp, .inl (s1 _ _ e2), upd_same, by unfold kvOf; rw [List.length_map]; exact hl, fun q hq => ?_⟩
      have pq : p ≠ q := ne_of_none upd_same hq
      have hq0 : H q = none := s1.free hq
      have s2 : Same H (upd (upd (upd H p (.dK [])) p (.dK (kvOf l))) q (.dK [])) := fun b o z => by
        rw [upd_ne (ne_of_none z hq0), upd_ne (ne_of_none z hp), upd_ne (ne_of_none z hp)]
        exact z
      refine ⟨_, rfl, e, _, _, _, rfl, rfl, SqT.of (s2 _ _ ee), rfl, _, rfl, e, _, _, _, rfl, rfl, SqT.of (s2 _ _ ee), rfl, Sum.inr n, rfl, by rw [upd_ne pq, upd_same], upd_same, ?_⟩
      rw [putK_kvOf v ok]
      refine ⟨_, rfl, (by show 2 ≤ sizeLine; decide), fun t ht => ?_⟩
      have s3 : Same H (upd (upd (upd (upd (upd H p (.dK [])) p (.dK (kvOf l))) q (.dK [])) q (.dK [(Sum.inr n, .int v)])) p (.dK (kvOf (setR l n v)))) := fun b o z => by
        rw [upd_ne (ne_of_none z hp), upd_ne (ne_of_none z hq0)]
        exact s2 b o z
      have s4 := same_new (o := .tup [.ref p, .ref dl]) ht
      have s5 := s3.trans s4
      exact k t _ s5 ⟨p, dl, xs, upd_same, s4 _ _ upd_same, s5 _ _ e3, Paired.mapP e4 (fun _ _ z => z.same s5), hav.new hp, e5.2⟩
    | clear =>
      refine ⟨_, rfl, e, _, _, _, rfl, rfl, SqT.of ee, rfl, rfl, _, rfl, iteE (by decide +kernel) ?_⟩
      refine ⟨_, rfl, e, _, _, _, rfl, rfl, SqT.of ee, rfl, rfl, _, rfl, iteE (by decide +kernel) ?_⟩
      refine ⟨_, rfl, _, rfl, e, _, _, _, rfl, rfl, SqT.of ee, rfl, rfl, _, rfl, iteS (by decide +kernel) ?_⟩
      refine ⟨(by show 0 ≤ sizeLine; decide), fun q hq => ⟨(by show 2 ≤ sizeLine; decide), fun p hp => ?_⟩⟩
      have s1 := same_new (o := .lst []) hq
      have s2 := same_new (o := .tup [.ref dv, .ref q]) hp
      exact k p _ (s1.trans s2) ⟨dv, q, [], upd_same, (s1.trans s2) _ _ e2, s2 _ _ upd_same, .nil, e5.1, hav.new hq⟩
    | flush =>
      refine ⟨_, rfl, e, _, _, _, rfl, rfl, SqT.of ee, rfl, rfl, _, rfl, iteE (by decide +kernel) ?_⟩
      refine ⟨_, rfl, e, _, _, _, rfl, rfl, SqT.of ee, rfl, rfl, _, rfl, iteE (by decide +kernel) ?_⟩
      refine ⟨_, rfl, _, rfl, e, _, _, _, rfl, rfl, SqT.of ee, rfl, rfl, _, rfl, iteE (by decide +kernel) ?_⟩
      refine ⟨_, rfl, (by show 2 ≤ sizeLine; decide), fun p hp => ?_⟩
      have s2 := same_new (o := .tup [.ref dv, .ref dl]) hp
      exact k p _ s2 ⟨dv, dl, xs, upd_same, s2 _ _ e2, s2 _ _ e3, Paired.mapP e4 (fun _ _ z => z.same s2), e5⟩
end

/-! ### the class Store -/
def stF (a wl : Addr) : List (Str × V) := [("state", .ref a), ("waiting", .ref wl)]
structure TxC (K : PySem.W.Frag) (C : Addr) : Prop where
  cl : Cls K C
  nS : NoAttr K C "state"
  nW : NoAttr K C "waiting"
def StoreAt (C : Addr) (av : List Addr) (H : Hp) (S wl : Addr) (l g : Recs) (ws : List Evt) : Prop :=
  ∃ (dx a : Addr) (xs : List V), H S = some (.ins C dx (stF a wl)) ∧ StateAt av H a l g ∧ H wl = some (.lst xs) ∧ Paired (EvAt H) xs ws ∧ (∀ dv dl, H a = some (.tup [.ref dv, .ref dl]) → dl ≠ wl) ∧ wl ∉ av
theorem StoreAt.same {C : Addr} {av : List Addr} {H H' : Hp} (s : Same H H') {S wl : Addr} {l g : Recs} {ws : List Evt} (h : StoreAt C av H S wl l g ws) : StoreAt C av H' S wl l g ws :=
  let ⟨dx, a, xs, e1, e2, e3, e4, e5, e6⟩ := h
  ⟨dx, a, xs, s _ _ e1, e2.same s, s _ _ e3, Paired.mapP e4 (fun _ _ q => q.same s), (fun dv dl z => by
    obtain ⟨dv', dl', _, q, _⟩ := e2
    have q' := s _ _ q
    rw [z] at q'
    cases q'
    exact e5 _ _ q), e6⟩
def apps (st : Recs × Recs) (ws : List Evt) : Recs × Recs := ws.foldl app st
theorem names_app (st : Recs × Recs) (e : Evt) : names (app st e).1 = names st.1 := by
  cases e with
  | write n v => exact names_setR ..
  | _ => rfl
theorem len_app (st : Recs × Recs) (e : Evt) : (app st e).1.length = st.1.length ∧ (app st e).2.length ≤ st.2.length + 1 := by
  cases e with
  | log n v => exact ⟨rfl, by show (st.2 ++ [(n, v)]).length ≤ _; rw [List.length_append]; exact Nat.le_refl _⟩
  | write n v => exact ⟨length_setR .., Nat.le_succ _⟩
  | clear => exact ⟨rfl, Nat.zero_le _⟩
  | flush => exact ⟨rfl, Nat.le_succ _⟩
theorem apps_snoc (st : Recs × Recs) (ws : List Evt) (e : Evt) : apps st (ws ++ [e]) = app (apps st ws) e := by
  unfold apps
  rw [List.foldl_append]
  rfl
theorem apps_inv (st : Recs × Recs) : ∀ ws : List Evt, names (apps st ws).1 = names st.1 ∧ (apps st ws).1.length = st.1.length ∧ (apps st ws).2.length ≤ st.2.length + ws.length := by
  intro ws
  induction ws generalizing st with
  | nil => exact ⟨rfl, rfl, Nat.le_refl _⟩
  | cons e r ih =>
    obtain ⟨i1, i2, i3⟩ := ih (app st e)
    obtain ⟨j1, j2⟩ := len_app st e
    refine ⟨i1.trans (names_app st e), i2.trans j1, ?_⟩
    show (apps (app st e) r).2.length ≤ _
    rw [List.length_cons]
    omega
theorem evOk_names {l l' : Recs} (h : names l' = names l) {e : Evt} (k : evOk l e) : evOk l' e := by
  cases e with
  | log n v => show n ∈ names l'; rw [h]; exact k
  | write n v => show n ∈ names l'; rw [h]; exact k
  | _ => trivial
/-- what is known of a store between two calls -/
def WellS (l g : Recs) (ws : List Evt) : Prop := GoodR l ∧ g.length + ws.length < 900 ∧ (∀ p ∈ g, p.1 ∈ names l) ∧ ∀ e ∈ ws, evOk l e
def spSeen (C : Addr) : Sp := fun vs H Q _ => ∃ (av : List Addr) (S wl : Addr) (l g : Recs) (ws : List Evt), vs = [.ref S] ∧ Av av H ∧ StoreAt C av H S wl l g ws ∧ WellS l g ws ∧
  ∀ (a' : Addr) (H' : Hp), Same H H' → StateAt av H' a' (apps (l, g) ws).1 (apps (l, g) ws).2 → Q (.ref a') H'
def spCur (C : Addr) : Sp := fun vs H Q _ => ∃ (av : List Addr) (S wl : Addr) (l g : Recs) (ws : List Evt), vs = [.ref S] ∧ Av av H ∧ StoreAt C av H S wl l g ws ∧ WellS l g ws ∧
  ∀ (p : Addr) (H' : Hp), Same H H' → H p = none → H' p = some (.dK (kvOf (apps (l, g) ws).1)) → Q (.ref p) H'
def spLog (C : Addr) : Sp := fun vs H Q _ => ∃ (av : List Addr) (S wl : Addr) (l g : Recs) (ws : List Evt), vs = [.ref S] ∧ Av av H ∧ StoreAt C av H S wl l g ws ∧ WellS l g ws ∧
  ∀ (p : Addr) (xs : List V) (H' : Hp), Same H H' → H p = none → H' p = some (.lst xs) → Paired (RecAt H') xs (apps (l, g) ws).2 → Q (.ref p) H'
def spPend (C : Addr) : Sp := fun vs H Q _ => ∃ (av : List Addr) (S wl : Addr) (l g : Recs) (ws : List Evt), vs = [.ref S] ∧ StoreAt C av H S wl l g ws ∧ Q (.int (ws.length : Int)) H
def spSInit (C : Addr) : Sp := fun vs H Q _ => ∃ (av : List Addr) (S d dx : Addr) (l : Recs), vs = [.ref S, .ref d] ∧ Av av H ∧ H S = some (.ins C dx []) ∧ H d = some (.dK (kvOf l)) ∧ GoodR l ∧
  ∀ (wl : Addr) (H' : Hp), H wl = none → StoreAt C av H' S wl l [] [] → (∀ b o, H b = some o → b ≠ S → H' b = some o) → Q .non H'
theorem sw_ne : ¬ (("state" : Str) = "waiting") := by decide +kernel
theorem putF_init (t wl : Addr) : putF "waiting" (.ref wl) (putF "state" (.ref t) []) = stF t wl := by
  show (if ("state" : Str) = "waiting" then [(("state" : Str), V.ref wl)] else (("state" : Str), V.ref t) :: putF "waiting" (V.ref wl) []) = _
  rw [if_neg sw_ne]
  rfl
theorem putF_s (t t' wl : Addr) : putF "state" (.ref t') (stF t wl) = stF t' wl := by
  show (if ("state" : Str) = "state" then [(("state" : Str), V.ref t'), (("waiting" : Str), V.ref wl)] else _) = _
  rw [if_pos rfl]
  rfl
theorem putF_w (t wl wl' : Addr) : putF "waiting" (.ref wl') (stF t wl) = stF t wl' := by
  show (if ("state" : Str) = "waiting" then _ else (("state" : Str), V.ref t) :: (if ("waiting" : Str) = "waiting" then [(("waiting" : Str), V.ref wl')] else _)) = _
  rw [if_neg sw_ne, if_pos rfl]
  rfl
section
variable {P : Program} {w : World} {K : PySem.W.Frag} {mg : Str → Option Value} {base : Heap} {kw C : Addr}
theorem ok_SSeen {f : Addr} {fd : FuncData} (F : Fun K "seen" "Store.seen" sSSeen f fd) (TC : TxC K C) (GA : Has P w K mg base CX0 1 "applied" PApp spApp) : FnOk P w K mg base CX0 2 f fd PSSeen (spSeen C) := by
  refine F.ok scSSeen (fun vs H Q E h => ?_) (fun cdv A outer s H vs Q E hr h => ?_)
  · obtain ⟨av, S, wl, l, g, ws, rfl, _⟩ := h
    rfl
  · obtain ⟨av, S, wl, l, g, ws, rfl, hav, ⟨dx, a, xs, e1, e2, e3, e4, e5, e6⟩, wf, k⟩ := h
    refine ⟨_, (pss_cons (ps_set (i := 1) scSSeen.nd rfl (Or.inl rfl) (pe_fld (pv 0) rfl))
  (pss_cons (ps_for PassesOwn.never rfl (pi_list (pe_fld (pv 0) rfl)) (pg_name (i := 2) scSSeen.nd rfl (Or.inl rfl))
  (pss_one (ps_set (i := 1) scSSeen.nd rfl (Or.inl rfl) (pe_callH GA hr rfl pass0 (pa_cons (pv 1) (pa_cons (pv 2) pa_nil))))))
  (pss_one (ps_ret (pv 1))))), ?_⟩
    refine ⟨_, rfl, S, C, dx, _, _, rfl, e1, TC.cl, TC.nS, rfl, ?_⟩
    refine ⟨_, rfl, S, C, dx, _, _, rfl, e1, TC.cl, TC.nW, rfl, wl, rfl, ⟨_, SqL.of e3⟩, ?_⟩
    have lx : xs.length = ws.length := Paired.length e4
    refine for_list (K := K) (a := wl) (xs := xs) (fun i σ H' => Same H H' ∧ ∃ (st : Addr) (x : Option V), σ = [some (.ref S), some (.ref st), x] ∧ StateAt av H' st (apps (l, g) (ws.take i)).1 (apps (l, g) (ws.take i)).2) ?_ (fun i σ H' _ h' => SqL.of (h'.1 _ _ e3)) ?_ ?_
    · exact ⟨Same.refl _, a, none, rfl, e2⟩
    · rintro i x σ H1 hx ⟨s1, st, y, rfl, q1⟩
      obtain ⟨ev, hev, t, rfl, et⟩ : ∃ ev, ws[i]? = some ev ∧ EvAt H x ev := by
        have : ∀ {xs : List V} {ws : List Evt} {i : Nat} {x : V}, Paired (EvAt H) xs ws → xs[i]? = some x → ∃ ev, ws[i]? = some ev ∧ EvAt H x ev := by
          intro xs ws i x hp
          induction hp generalizing i with
          | nil => intro z; simp at z
          | cons r _ ih =>
            intro z
            cases i with
            | zero => simp at z; subst z; exact ⟨_, rfl, r⟩
            | succ j => simp at z ⊢; exact ih z
        exact this e4 hx
      obtain ⟨i1, i2, i3⟩ := apps_inv (l, g) (ws.take i)
      have hi : i < ws.length := (List.getElem?_eq_some_iff.mp hev).1
      have lt : (ws.take i).length = i := by rw [List.length_take]; omega
      have w2 := wf.2.1
      have w1 := wf.1.2.1
      refine ⟨_, rfl, _, rfl, av, st, t, _, _, ev, rfl, hav.same s1, q1, s1 _ _ et, evOk_names i1 (wf.2.2.2 ev (List.mem_of_getElem? hev)), by rw [i2]; exact w1, by rw [lt] at i3; show _ < 1000; simp only at i3; omega, fun a' H2 s2 q2 => ?_⟩
      refine ⟨s1.trans s2, a', _, rfl, ?_⟩
      rw [take_snoc hev, apps_snoc]
      exact q2
    · rintro σ H1 ⟨s1, st, y, rfl, q1⟩
      rw [lx, List.take_length] at q1
      exact ⟨_, rfl, k st H1 s1 q1⟩
theorem ok_SCur {f : Addr} {fd : FuncData} (F : Fun K "current" "Store.current" sSCur f fd) (T : TxSt K mg kw) (TC : TxC K C) (MS : HasM P w K mg base CX0 2 C "seen" PSSeen (spSeen C)) : FnOk P w K mg base CX0 3 f fd PSCur (spCur C) := by
  refine F.ok scSCur (fun vs H Q E h => ?_) (fun cdv A outer s H vs Q E hr h => ?_)
  · obtain ⟨av, S, wl, l, g, ws, rfl, _⟩ := h
    rfl
  · obtain ⟨av, S, wl, l, g, ws, rfl, hav, sa, wf, k⟩ := h
    refine ⟨_, (pss_one (ps_ret (pe_callTy call_dictOf (by rfl) T.n_dict bb_dict (pa_cons (pe_ix ix_tup (pe_methH0 (pv 0) TC.cl MS hr pass0) pe_int (fun _ _ => rfl)) pa_nil)))), ?_⟩
    obtain ⟨dx, a, xs, e1, _⟩ := id sa
    refine ⟨_, rfl, S, dx, _, rfl, e1, rfl, av, S, wl, l, g, ws, rfl, hav, sa, wf, fun a' H1 s1 q1 => ?_⟩
    obtain ⟨dv, dl, ys, u1, u2, u3, u4, u5⟩ := q1
    refine ⟨a', _, _, _, rfl, rfl, SqT.of u1, rfl, dv, _, rfl, .inl u2, fun p hp => ?_⟩
    exact k p _ (s1.trans (same_new hp)) (s1.free hp) upd_same
theorem ok_SLog {f : Addr} {fd : FuncData} (F : Fun K "log" "Store.log" sSLog f fd) (T : TxSt K mg kw) (TC : TxC K C) (MS : HasM P w K mg base CX0 2 C "seen" PSSeen (spSeen C)) : FnOk P w K mg base CX0 3 f fd PSLog (spLog C) := by
  refine F.ok scSLog (fun vs H Q E h => ?_) (fun cdv A outer s H vs Q E hr h => ?_)
  · obtain ⟨av, S, wl, l, g, ws, rfl, _⟩ := h
    rfl
  · obtain ⟨av, S, wl, l, g, ws, rfl, hav, sa, wf, k⟩ := h
    refine ⟨_, (pss_one (ps_ret (pe_callTy call_list_of (by rfl) T.n_list bb_list (pa_cons (pe_ix ix_tup (pe_methH0 (pv 0) TC.cl MS hr pass0) pe_int (fun _ _ => rfl)) pa_nil)))), ?_⟩
    obtain ⟨dx, a, xs, e1, _⟩ := id sa
    refine ⟨_, rfl, S, dx, _, rfl, e1, rfl, av, S, wl, l, g, ws, rfl, hav, sa, wf, fun a' H1 s1 q1 => ?_⟩
    obtain ⟨dv, dl, ys, u1, u2, u3, u4, u5⟩ := q1
    refine ⟨a', _, _, _, rfl, rfl, SqT.of u1, rfl, dl, _, rfl, .inl (SqL.of u3), fun p hp => ?_⟩
    exact k p ys _ (s1.trans (same_new hp)) (s1.free hp) upd_same (Paired.mapP u4 fun _ _ z => z.same (same_new hp))
theorem ok_SPend {f : Addr} {fd : FuncData} (F : Fun K "pending" "Store.pending" sSPend f fd) (T : TxSt K mg kw) (TC : TxC K C) : FnOk P w K mg base CX0 1 f fd PSPend (spPend C) := by
  refine F.ok scSPend (fun vs H Q E h => ?_) (fun cdv A outer s H vs Q E hr h => ?_)
  · obtain ⟨av, S, wl, l, g, ws, rfl, _⟩ := h
    rfl
  · obtain ⟨av, S, wl, l, g, ws, rfl, ⟨dx, a, xs, e1, e2, e3, e4, e5, e6⟩, k⟩ := h
    refine ⟨_, (pss_one (ps_ret (pe_callB call_len_seq (by rfl) T.n_len bb_len (pa_cons (pe_fld (pv 0) rfl) pa_nil)))), ?_⟩
    have lx : xs.length = ws.length := Paired.length e4
    refine ⟨_, rfl, S, C, dx, _, _, rfl, e1, TC.cl, TC.nW, rfl, wl, _, rfl, .inl (SqL.of e3), ?_⟩
    rw [lx]
    exact k
theorem ok_SInit {f : Addr} {fd : FuncData} (F : Fun K "__init__" "Store.__init__" sSInit f fd) (T : TxSt K mg kw) (TC : TxC K C) (GV : Has P w K mg base CX0 2 "is_values" PIsVals spVals) : FnOk P w K mg base CX0 3 f fd PSInit (spSInit C) := by
  refine F.ok scSInit (fun vs H Q E h => ?_) (fun cdv A outer s H vs Q E hr h => ?_)
  · obtain ⟨av, S, d, dx, l, rfl, _⟩ := h
    rfl
  · obtain ⟨av, S, d, dx, l, rfl, hav, e1, e2, gl, k⟩ := h
    refine ⟨_, (pss_cons (ps_if (pt_not (pt_val (pe_callH GV hr rfl pass0 (pa_cons (pv 1) pa_nil))))
  (pss_one ps_never)
  pss_nil)
  (pss_cons (ps_fld (pv 0) (pe_tup (pa_cons (pe_callTy call_dictOf (by rfl) T.n_dict bb_dict (pa_cons (pv 1) pa_nil)) (pa_cons (pe_lst pa_nil) pa_nil))) rfl)
  (pss_one (ps_fld (pv 0) (pe_lst pa_nil) rfl)))), ?_⟩
    refine ⟨_, rfl, d, l, rfl, e2, gl, fun H1 s1 => ⟨true, rfl, ?_⟩⟩
    refine ⟨_, rfl, d, _, rfl, .inl (s1 _ _ e2), fun p hp => ?_⟩
    refine ⟨(by show 0 ≤ sizeLine; decide), fun q hq => ?_⟩
    refine ⟨(by show 2 ≤ sizeLine; decide), fun t ht => ?_⟩
    have s2 := s1.trans (same_new (o := .dK (kvOf l)) hp)
    have s3 := s2.trans (same_new (o := .lst []) hq)
    have s4 := s3.trans (same_new (o := .tup [.ref p, .ref q]) ht)
    have pq := ne_of_none upd_same hq
    have pt := ne_of_none (show upd (upd H1 p (.dK (kvOf l))) q (.lst []) p = some _ by rw [upd_ne pq, upd_same]) ht
    have qt := ne_of_none upd_same ht
    have Sp := ne_of_none (s1 _ _ e1) hp
    have Sq := ne_of_none (s2 _ _ e1) hq
    have St := ne_of_none (s3 _ _ e1) ht
    refine ⟨_, rfl, S, C, dx, [], rfl, s4 _ _ e1, TC.cl, TC.nS, (by show 0 < 1000; decide), ?_⟩
    refine ⟨(by show 0 ≤ sizeLine; decide), fun wl hwl => ?_⟩
    have wS := ne_of_none upd_same hwl
    have hw3 := hwl
    rw [upd_ne wS.symm] at hw3
    have pw := ne_of_none (show upd (upd (upd H1 p (.dK (kvOf l))) q (.lst [])) t (.tup [.ref p, .ref q]) p = some _ by rw [upd_ne pt, upd_ne pq, upd_same]) hw3
    have qw := ne_of_none (show upd (upd (upd H1 p (.dK (kvOf l))) q (.lst [])) t (.tup [.ref p, .ref q]) q = some _ by rw [upd_ne qt, upd_same]) hw3
    have tw := ne_of_none upd_same hw3
    refine ⟨_, rfl, S, C, dx, _, rfl, by rw [upd_ne wS, upd_same], TC.cl, TC.nW, (by show 1 < 1000; decide), ?_⟩
    refine k wl _ (s4.free hw3) ⟨dx, t, [], (by rw [upd_same, putF_init]), ⟨p, q, [], ?_, ?_, ?_, .nil, (hav.same s1).new hp, (hav.same s1).new ((same_new hp).free hq)⟩, ?_, .nil, fun dv dl z => ?_, hav.new (s4.free hw3)⟩ fun b o e hb => ?_
    · rw [upd_ne St.symm, upd_ne tw, upd_ne St.symm, upd_same]
    · rw [upd_ne Sp.symm, upd_ne pw, upd_ne Sp.symm, upd_ne pt, upd_ne pq, upd_same]
    · rw [upd_ne Sq.symm, upd_ne qw, upd_ne Sq.symm, upd_ne qt, upd_same]
    · rw [upd_ne wS.symm, upd_same]
    · rw [upd_ne St.symm, upd_ne tw, upd_ne St.symm, upd_same] at z
      cases z
      exact qw
    · rw [upd_ne hb, upd_ne (ne_of_none e (s4.free hw3)), upd_ne hb]
      exact s4 b o e
/-! perform -/
def perf (l g : Recs) (ws : List Evt) : Evt → Recs × Recs × List Evt
  | .flush => ((apps (l, g) ws).1, (apps (l, g) ws).2, [])
  | e => (l, g, ws ++ [e])
def spPerf (C : Addr) : Sp := fun vs H Q _ => ∃ (av : List Addr) (S wl e : Addr) (l g : Recs) (ws : List Evt) (ev : Evt), vs = [.ref S, .ref e] ∧ Av av H ∧ StoreAt C av H S wl l g ws ∧ WellS l g ws ∧ H e = some (.tup (evV ev)) ∧ evOk l ev ∧
  ∀ (wl' : Addr) (H' : Hp), (wl' = wl ∨ H wl' = none) → But S wl H H' → StoreAt C av H' S wl' (perf l g ws ev).1 (perf l g ws ev).2.1 (perf l g ws ev).2.2 → Q .non H'
theorem keys_kvOf (l : Recs) : (kvOf l).map (fun kv => kV kv.1) = (names l).map V.str := by
  unfold kvOf names
  rw [List.map_map, List.map_map]
  rfl
theorem StoreAt.ne {av : List Addr} {H : Hp} {S wl : Addr} {l g : Recs} {ws : List Evt} (h : StoreAt C av H S wl l g ws) : S ≠ wl := by
  obtain ⟨dx, a, xs, e1, e2, e3, e4, e5, e6⟩ := h
  exact ne_of e1 e3 (by intro z; cases z)
theorem ok_SPerf {f : Addr} {fd : FuncData} (F : Fun K "perform" "Store.perform" sSPerf f fd) (T : TxSt K mg kw) (TC : TxC K C) (GE : Has P w K mg base CX0 2 "is_event" PIsEvt (spEvt K)) (MS : HasM P w K mg base CX0 2 C "seen" PSSeen (spSeen C)) : FnOk P w K mg base CX0 3 f fd PSPerf (spPerf C) := by
  refine F.ok scSPerf (fun vs H Q E h => ?_) (fun cdv A outer s H vs Q E hr h => ?_)
  · obtain ⟨av, S, wl, e, l, g, ws, ev, rfl, _⟩ := h
    rfl
  · obtain ⟨av, S, wl, e, l, g, ws, ev, rfl, hav, sa, wf, ee, ok, k⟩ := h
    refine ⟨_, (pss_cons (ps_if (pt_not (pt_val (pe_callH GE hr rfl pass0 (pa_cons (pv 1) (pa_cons (pe_callTy (call_list_dK rfl) (by rfl) T.n_list bb_list (pa_cons (pe_ix ix_tup (pe_fld (pv 0) rfl) pe_int (fun _ _ => rfl)) pa_nil)) pa_nil)))))
  (pss_one ps_never)
  pss_nil)
  (pss_one (ps_if (pt_cmpR op_eq (pe_ix ix_tup (pv 1) pe_int (fun _ _ => rfl)) pe_str (nomark _))
  (pss_cons (ps_fld (pv 0) (pe_methH0 (pv 0) TC.cl MS hr pass0) rfl)
  (pss_one (ps_fld (pv 0) (pe_lst pa_nil) rfl)))
  (pss_one (ps_expr (pe_bm PySem.F.plainAttrs_list PySem.F.slot_list_append PySem.F.type_list_append mt_append (pe_fld (pv 0) rfl) (pa_cons (pv 1) pa_nil))))))), ?_⟩
    have nSw := sa.ne
    obtain ⟨dx, a, xs, e1, e2, e3, e4, e5, e6⟩ := id sa
    obtain ⟨dv, dl, ys, u1, u2, u3, u4, u5⟩ := id e2
    have lx : xs.length = ws.length := Paired.length e4
    refine ⟨_, rfl, _, rfl, S, C, dx, _, _, rfl, e1, TC.cl, TC.nS, rfl, a, _, _, _, rfl, rfl, SqT.of u1, rfl, dv, _, rfl, u2, fun q hq => ?_⟩
    have s1 := same_new (o := .lst ((kvOf l).map fun kv => kV kv.1)) hq
    refine ⟨e, q, ev, l, rfl, s1 _ _ ee, SqL.of (by rw [← keys_kvOf]; exact upd_same), ok, fun n hn => (wf.1.2.2 n hn).1, fun H2 s2 => ⟨true, rfl, ?_⟩⟩
    have s := s1.trans s2
    obtain ⟨x0, x1, exs⟩ := evV_ne ev
    have a0 : atI (evV ev) 0 = some (.str x0) := by rw [exs]; exact atI_nat (j := 0) rfl
    refine ⟨_, rfl, e, _, _, _, rfl, rfl, SqT.of (s _ _ ee), a0, rfl, _, rfl, ?_⟩
    have plain : ev ≠ .flush → ∀ {D : Ends}, (∀ H', D.nx [some (.ref S), some (.ref e)] H' = Q .non H') →
        tDrop (tBM K "list" rAppend (tFld K (tVar 0) "waiting") (tCons (tVar 1) tNil)) D [some (.ref S), some (.ref e)] H2 := fun hne D hD => by
      have pe : perf l g ws ev = (l, g, ws ++ [ev]) := by cases ev <;> first | rfl | exact absurd rfl hne
      refine ⟨_, rfl, S, C, dx, _, _, rfl, s _ _ e1, TC.cl, TC.nW, rfl, .inl ⟨rfl, _, SqL.of (s _ _ e3)⟩, _, rfl, wl, xs, _, rfl, rfl, s _ _ e3, ?_, ?_⟩
      · have := wf.2.1
        exact small1000 (by omega)
      show D.nx _ _
      rw [hD]
      have nd : ∀ {b : Addr} {o : HO}, H b = some o → (∀ zs, o ≠ .lst zs) → upd H2 wl (.lst (xs ++ [.ref e])) b = some o := fun {b o} z no => by
        rw [upd_ne (ne_of z e3 (no _))]
        exact s _ _ z
      have dlw : dl ≠ wl := e5 _ _ u1
      refine k wl _ (.inl rfl) (fun b o z _ h2 => by rw [upd_ne h2]; exact s b o z) ?_
      rw [pe]
      refine ⟨dx, a, _, nd e1 (fun _ z => by cases z), ⟨dv, dl, ys, nd u1 (fun _ z => by cases z), nd u2 (fun _ z => by cases z), by rw [upd_ne dlw]; exact s _ _ u3, Paired.mapP u4 (fun v r z => ?_), u5⟩, upd_same, Paired.snoc (Paired.mapP e4 fun v r z => ?_) ⟨e, rfl, nd ee (fun _ z => by cases z)⟩, fun dv' dl' z => ?_, e6⟩
      · obtain ⟨b, rfl, q⟩ := z
        exact ⟨b, rfl, nd q (fun _ z => by cases z)⟩
      · obtain ⟨b, rfl, q⟩ := z
        exact ⟨b, rfl, nd q (fun _ z => by cases z)⟩
      · rw [nd u1 (fun _ z => by cases z)] at z
        cases z
        exact dlw
    cases ev with
    | flush =>
      cases exs
      refine iteS (by decide +kernel) ?_
      refine ⟨_, rfl, S, dx, _, rfl, s _ _ e1, rfl, av, S, wl, l, g, ws, rfl, hav.same s, sa.same s, wf, fun a' H3 s3 q3 => ?_⟩
      have s' := s.trans s3
      obtain ⟨dv', dl', zs, v1, v2, v3, v4, v5⟩ := q3
      refine ⟨_, rfl, S, C, dx, _, rfl, s' _ _ e1, TC.cl, TC.nS, (by show 2 < 1000; decide), ?_⟩
      refine ⟨(by show 0 ≤ sizeLine; decide), fun wl' hw => ?_⟩
      have wS := ne_of_none upd_same hw
      have hw3 := hw
      rw [upd_ne wS.symm] at hw3
      refine ⟨_, rfl, S, C, dx, _, rfl, by rw [upd_ne wS, upd_same], TC.cl, TC.nW, (by rw [putF_s]; show 2 < 1000; decide), ?_⟩
      have nd : ∀ {b : Addr} {o : HO}, H3 b = some o → b ≠ S → ∀ o1 o2, upd (upd (upd H3 S o1) wl' (.lst [])) S o2 b = some o := fun {b o} z hb o1 o2 => by
        rw [upd_ne hb, upd_ne (ne_of_none z hw3), upd_ne hb]
        exact z
      have nS : ∀ {b : Addr} {o : HO}, H3 b = some o → (∀ c d x, o ≠ .ins c d x) → b ≠ S := fun {b o} z no => ne_of z (s' _ _ e1) (no _ _ _)
      refine k wl' _ (.inr (s'.free hw3)) (fun b o z h1 h2 => nd (s' b o z) h1 _ _) ⟨dx, a', [], by rw [upd_same, putF_s, putF_w], ⟨dv', dl', zs, nd v1 (nS v1 fun _ _ _ z => by cases z) _ _, nd v2 (nS v2 fun _ _ _ z => by cases z) _ _, nd v3 (nS v3 fun _ _ _ z => by cases z) _ _, Paired.mapP v4 (fun v r z => ?_), v5⟩, by rw [upd_ne wS.symm, upd_same], .nil, fun dv2 dl2 z => ?_, hav.new (s'.free hw3)⟩
      · obtain ⟨b, rfl, q⟩ := z
        exact ⟨b, rfl, nd q (nS q fun _ _ _ z => by cases z) _ _⟩
      · rw [nd v1 (nS v1 fun _ _ _ z => by cases z) _ _] at z
        cases z
        exact ne_of_none v3 hw3
    | log n v =>
      cases exs
      exact iteE (by decide +kernel) (plain (by intro z; cases z) fun _ => rfl)
    | write n v =>
      cases exs
      exact iteE (by decide +kernel) (plain (by intro z; cases z) fun _ => rfl)
    | clear =>
      cases exs
      exact iteE (by decide +kernel) (plain (by intro z; cases z) fun _ => rfl)
/-! recovered -/
def recF (l : Recs) (r : List (Str × Int)) : Recs := r.foldl (fun l p => setR l p.1 p.2) l
def recov (l g : Recs) : Recs := recF l g.reverse
theorem recF_inv (l : Recs) : ∀ r : List (Str × Int), names (recF l r) = names l ∧ (recF l r).length = l.length := by
  intro r
  induction r generalizing l with
  | nil => exact ⟨rfl, rfl⟩
  | cons p r ih =>
    obtain ⟨h1, h2⟩ := ih (setR l p.1 p.2)
    exact ⟨h1.trans (names_setR ..), h2.trans (length_setR ..)⟩
theorem recF_snoc (l : Recs) (r : List (Str × Int)) (p : Str × Int) : recF l (r ++ [p]) = setR (recF l r) p.1 p.2 := by
  unfold recF
  rw [List.foldl_append]
  rfl
theorem GoodR.of_names {l l' : Recs} (h : GoodR l) (e : names l' = names l) (e2 : l'.length = l.length) : GoodR l' := by
  unfold GoodR at *
  rw [e, e2]
  exact h
theorem app_log {st : Recs × Recs} {e : Evt} (h : ∀ p ∈ st.2, p.1 ∈ names st.1) (k : evOk st.1 e) : ∀ p ∈ (app st e).2, p.1 ∈ names (app st e).1 := by
  rw [names_app]
  cases e with
  | log n v =>
    intro p hp
    rcases List.mem_append.mp hp with q | q
    · exact h p q
    · rw [List.mem_singleton.mp q]; exact k
  | write n v => exact h
  | clear => exact fun p hp => nomatch hp
  | flush => exact h
theorem apps_log : ∀ {ws : List Evt} {st : Recs × Recs}, (∀ p ∈ st.2, p.1 ∈ names st.1) → (∀ e ∈ ws, evOk st.1 e) → ∀ p ∈ (apps st ws).2, p.1 ∈ names (apps st ws).1
  | [], _, h, _ => h
  | e :: r, st, h, k => apps_log (st := app st e) (app_log h (k e (List.mem_cons_self ..))) fun x hx => evOk_names (names_app st e) (k x (List.mem_cons_of_mem _ hx))
theorem Paired.at {α β : Type} {F : α → β → Prop} {xs : List α} {ys : List β} (hp : Paired F xs ys) : ∀ {i : Nat} {x : α}, xs[i]? = some x → ∃ y, ys[i]? = some y ∧ F x y := by
  induction hp with
  | nil => intro i x z; simp at z
  | cons r _ ih =>
    intro i x z
    cases i with
    | zero => simp at z; subst z; exact ⟨_, rfl, r⟩
    | succ j => simp at z ⊢; exact ih z
def spRec (C : Addr) : Sp := fun vs H Q _ => ∃ (av : List Addr) (S wl : Addr) (l g : Recs) (ws : List Evt), vs = [.ref S] ∧ Av av H ∧ StoreAt C av H S wl l g ws ∧ WellS l g ws ∧
  ∀ (S' wl' : Addr) (H' : Hp), Same H H' → H S' = none → H wl' = none → StoreAt C av H' S' wl' (recov (apps (l, g) ws).1 (apps (l, g) ws).2) [] [] → Q (.ref S') H'
theorem ok_SRec {f : Addr} {fd : FuncData} (F : Fun K "recovered" "Store.recovered" sSRec f fd) (T : TxSt K mg kw) (TC : TxC K C) (MS : HasM P w K mg base CX0 2 C "seen" PSSeen (spSeen C)) (HC : HasC P w K mg base CX0 3 "Store" C PSInit (spSInit C)) : FnOk P w K mg base CX0 5 f fd PSRec (spRec C) := by
  refine F.ok scSRec (fun vs H Q E h => ?_) (fun cdv A outer s H vs Q E hr h => ?_)
  · obtain ⟨av, S, wl, l, g, ws, rfl, _⟩ := h
    rfl
  · obtain ⟨av, S, wl, l, g, ws, rfl, hav, sa, wf, k⟩ := h
    have hu := hu_of hr
    have hr2 := hr.mono (j := 2) (by decide)
    refine ⟨_, (pss_cons (ps_asg (pe_methH0 (pv 0) TC.cl MS hr2 pass0) (pg_tup (by rfl) (pgs_cons (pg_name (i := 1) scSRec.nd rfl (Or.inl rfl)) (pgs_cons (pg_name (i := 2) scSRec.nd rfl (Or.inl rfl)) pgs_nil))))
  (pss_cons (ps_set (i := 3) scSRec.nd rfl (Or.inl rfl) (pe_callTy call_dictOf (by rfl) T.n_dict bb_dict (pa_cons (pv 1) pa_nil)))
  (pss_cons (ps_for PassesOwn.never rfl (pi_reversed (by rfl) T.n_reversed (pa_cons (pe_callTy call_list_of (by rfl) T.n_list bb_list (pa_cons (pv 2) pa_nil)) pa_nil)) (pg_tup (by rfl) (pgs_cons (pg_name (i := 4) scSRec.nd rfl (Or.inl rfl)) (pgs_cons (pg_name (i := 5) scSRec.nd rfl (Or.inl rfl)) pgs_nil)))
  (pss_one (ps_dput hu (pv 3) (pv 4) (pv 5) rfl)))
  (pss_one (ps_ret (pe_makeH HC hr rfl pass0 (pa_cons (pv 3) pa_nil))))))), ?_⟩
    obtain ⟨dx, a, xs, e1, _⟩ := id sa
    refine ⟨_, rfl, S, dx, _, rfl, e1, rfl, av, S, wl, l, g, ws, rfl, hav, sa, wf, fun a' H1 s1 q1 => ?_⟩
    obtain ⟨dv, dl, ys, u1, u2, u3, u4, u5⟩ := q1
    obtain ⟨l', g', eq⟩ : ∃ l' g', apps (l, g) ws = (l', g') := ⟨_, _, rfl⟩
    rw [eq] at u2 u4 k
    have inv := apps_inv (l, g) ws
    have lg := apps_log (st := (l, g)) wf.2.2.1 wf.2.2.2
    rw [eq] at inv lg
    obtain ⟨i1, i2, i3⟩ := inv
    have lys : ys.length = g'.length := Paired.length u4
    have gl : GoodR l' := wf.1.of_names i1 i2
    refine ⟨a', _, rfl, SqT.of u1, rfl, _, _, rfl, _, _, rfl, rfl, ?_⟩
    refine ⟨_, rfl, dv, _, rfl, .inl u2, fun p hp => ?_⟩
    have s2 := same_new (o := .dK (kvOf l')) hp
    refine ⟨_, rfl, dl, _, rfl, .inl (SqL.of (s2 _ _ u3)), fun q hq => ?_⟩
    have s3 := s2.trans (same_new (o := .lst ys) hq)
    have pq := ne_of_none upd_same hq
    refine ⟨q, ys, rfl, SqL.of upd_same, ?_⟩
    refine for_it walk_rev (fun i σ H' => ∃ (x y : Option V), σ = [some (.ref S), some (.ref dv), some (.ref dl), some (.ref p), x, y] ∧ Same H1 H' ∧ H' q = some (.lst ys) ∧ H' p = some (.dK (kvOf (recF l' (g'.reverse.take i))))) ?_ (fun i σ H' _ h' => by obtain ⟨_, _, _, _, z, _⟩ := h'; exact SqL.of z) ?_ ?_
    · exact ⟨none, none, rfl, s3, upd_same, by rw [upd_ne pq, upd_same]; rfl⟩
    · rintro i v σ H2 H2' hi ⟨x, y, rfl, sm, eq2, ep⟩ ⟨rfl, hv⟩
      obtain ⟨r, hr', t, rfl, et⟩ := Paired.at u4 hv
      have hrev : g'.reverse[i]? = some r := by
        rw [List.getElem?_reverse (by omega), ← hr', lys]
      have mem : r ∈ g' := List.mem_of_getElem? hr'
      obtain ⟨j1, j2⟩ := recF_inv l' (g'.reverse.take i)
      refine ⟨t, _, rfl, SqT.of (sm _ _ et), rfl, _, _, rfl, _, _, rfl, rfl, ?_⟩
      have hn : r.1 ∈ names (recF l' (g'.reverse.take i)) := by rw [j1]; exact lg r mem
      refine ⟨_, rfl, _, rfl, _, rfl, p, _, rfl, DPut.k (k := Sum.inr r.1) ep ?_, ?_⟩
      · unfold kvOf
        rw [List.length_map, j2]
        have := gl.2.1
        exact small1000 (by omega)
      · refine ⟨_, _, rfl, fun b o z => ?_, ?_, ?_⟩
        · rw [upd_ne (ne_of_none z hp)]
          exact sm b o z
        · rw [upd_ne pq.symm]
          exact eq2
        · rw [upd_same, take_snoc hrev, recF_snoc, putK_kvOf r.2 hn]
    · rintro σ H2 ⟨x, y, rfl, sm, eq2, ep⟩
      rw [lys, ← List.length_reverse, List.take_length] at ep
      refine ⟨_, rfl, fun X dX hX hdX ne => ?_⟩
      have s4 : Same H2 (upd (upd H2 dX (.own X)) X (.ins C dX [])) := fun b o z => by
        rw [upd_ne (ne_of_none z hX), upd_ne (ne_of_none z hdX)]
        exact z
      obtain ⟨j1, j2⟩ := recF_inv l' g'.reverse
      refine ⟨av, X, p, dX, _, rfl, (hav.same (s1.trans sm)).same s4, upd_same, s4 _ _ ep, gl.of_names j1 j2, fun wl' H3 hw st kp => ⟨rfl, ?_⟩⟩
      have s5 : Same H2 H3 := fun b o z => kp b o (s4 b o z) (ne_of_none z hX)
      exact k X wl' H3 ((s1.trans sm).trans s5) ((s1.trans sm).free hX) ((s1.trans sm).free (s4.free hw)) st
end

/-! ### _law_names -/
abbrev sNames : Stmt := topS 21
abbrev NNames : List Str := ["_law_pool_here", "_law_letter", "_law_shift", "_law_k"]
abbrev PNames : List Str := ["_law_pool_here"]
theorem scNames : FnScope NNames PNames (defScope sNames) := ⟨rfl, rfl, rfl, by decide +kernel, rfl, by decide +kernel, by decide +kernel⟩
def nm (c : Nat) (i : Int) : Str := (⟨#[c]⟩ : Str) ++ ((toString i : String) : Str)
/-- a list of names as _law_names gives it -/
structure NamesOk (ns : List Str) : Prop where
  nd : ns.Nodup
  name : ∀ n ∈ ns, isName n = true
  len : ∀ n ∈ ns, n.length ≤ 10
theorem dig_facts : ∀ k : Fin 16, ((toString ((k.val : Nat) : Int) : String) : Str).cps.toList ≠ [] ∧ (∀ c ∈ ((toString ((k.val : Nat) : Int) : String) : Str).cps.toList, c ∈ DIG.cps.toList) ∧ ((toString ((k.val : Nat) : Int) : String) : Str).cps.toList.length ≤ 2 := by decide +kernel
theorem dig_inj : ∀ k j : Fin 16, ((toString ((k.val : Nat) : Int) : String) : Str) = ((toString ((j.val : Nat) : Int) : String) : Str) → k = j := by decide +kernel
theorem mod_inj : ∀ s k j : Fin 16, (7 * k.val + s.val) % 16 = (7 * j.val + s.val) % 16 → k = j := by decide +kernel
theorem kws_let : ∀ k ∈ KWS, ∀ c ∈ k.cps.toList, c ∈ LET.cps.toList := by decide +kernel
theorem let_dig : ∀ c ∈ DIG.cps.toList, c ∉ LET.cps.toList := by decide +kernel
theorem nm_list (c : Nat) (i : Int) : (nm c i).cps.toList = c :: ((toString i : String) : Str).cps.toList := by
  show (#[c] ++ ((toString i : String) : Str).cps).toList = _
  simp
theorem nm_name {c : Nat} (hc : c ∈ LET.cps.toList) {i : Int} (h0 : 0 ≤ i) (h1 : i < 16) : isName (nm c i) = true ∧ (nm c i).length ≤ 10 := by
  have e : i = (((⟨i.toNat, by omega⟩ : _root_.Fin 16).val : Nat) : Int) := by
    show i = ((i.toNat : Nat) : Int)
    omega
  obtain ⟨d1, d2, d3⟩ := dig_facts ⟨i.toNat, by omega⟩
  rw [← e] at d1 d2 d3
  have hl := nm_list c i
  have h0 : (nm c i).cps.toList[0]? = some c := by rw [hl]; rfl
  constructor
  · rw [isName_at h0, hl]
    simp only [Bool.and_eq_true, decide_eq_true_eq, Bool.not_eq_true']
    refine ⟨⟨hc, ?_⟩, ?_⟩
    · rw [List.all_eq_true]
      intro x hx
      unfold al
      simp only [Bool.or_eq_true, decide_eq_true_eq]
      rcases List.mem_cons.mp hx with q | q
      · rw [q]; exact .inl hc
      · exact .inr (d2 x q)
    · cases q : inV (.str (nm c i)) (KWS.map V.str) with
      | false => rfl
      | true =>
        unfold inV at q
        obtain ⟨v, hv, q⟩ := List.any_eq_true.mp q
        obtain ⟨k, hk, rfl⟩ := List.mem_map.mp hv
        have q : k = nm c i := by
          have q : (k == nm c i) = true := q
          simpa using q
        obtain ⟨x, hx⟩ := List.exists_mem_of_ne_nil _ d1
        exact absurd (kws_let k hk x (by rw [q, hl]; exact List.mem_cons_of_mem _ hx)) (let_dig x (d2 x hx))
  · show (nm c i).cps.size ≤ 10
    rw [← Array.length_toList, hl, List.length_cons]
    omega
theorem nm_inj {c : Nat} {i j : Int} (i0 : 0 ≤ i) (i1 : i < 16) (j0 : 0 ≤ j) (j1 : j < 16) (h : nm c i = nm c j) : i = j := by
  have q : ((toString i : String) : Str).cps.toList = ((toString j : String) : Str).cps.toList := by
    have z := congrArg (fun z : Str => z.cps.toList) h
    simp only [nm_list] at z
    exact (List.cons.inj z).2
  have e : ((toString i : String) : Str) = ((toString j : String) : Str) := by
    have z := congrArg List.toArray q
    simp only [Array.toArray_toList] at z
    cases hx : ((toString i : String) : Str) with
    | mk a =>
      cases hy : ((toString j : String) : Str) with
      | mk b =>
        rw [hx, hy] at z
        rw [show a = b from z]
  have ei : i = (((⟨i.toNat, by omega⟩ : _root_.Fin 16).val : Nat) : Int) := by
    show i = ((i.toNat : Nat) : Int)
    omega
  have ej : j = (((⟨j.toNat, by omega⟩ : _root_.Fin 16).val : Nat) : Int) := by
    show j = ((j.toNat : Nat) : Int)
    omega
  rw [ei, ej] at e
  have f := congrArg Fin.val (dig_inj _ _ e)
  have f : i.toNat = j.toNat := f
  omega
def nms (c : Nat) (s : Int) (n : Nat) : List Str := (List.range n).map fun k => nm c ((7 * (k : Nat) + s) % 16)
theorem nms_ok {c : Nat} (hc : c ∈ LET.cps.toList) {s : Int} (s0 : 0 ≤ s) (s1 : s < 16) {n : Nat} (hn : n ≤ 16) : NamesOk (nms c s n) := by
  have b : ∀ k : Nat, 0 ≤ (7 * (k : Int) + s) % 16 ∧ (7 * (k : Int) + s) % 16 < 16 := fun k => ⟨Int.emod_nonneg _ (by decide), Int.emod_lt_of_pos _ (by decide)⟩
  refine ⟨?_, fun x hx => ?_, fun x hx => ?_⟩
  · unfold nms
    rw [List.nodup_iff_pairwise_ne, List.pairwise_map]
    refine List.Pairwise.imp_of_mem (fun {i j} hi hj hne z => hne ?_) List.nodup_range
    have hi := List.mem_range.mp hi
    have hj := List.mem_range.mp hj
    have q := nm_inj (b i).1 (b i).2 (b j).1 (b j).2 z
    have m := mod_inj ⟨s.toNat, by omega⟩ ⟨i, by omega⟩ ⟨j, by omega⟩ (by show (7 * i + s.toNat) % 16 = (7 * j + s.toNat) % 16; omega)
    exact congrArg Fin.val m
  · obtain ⟨k, _, rfl⟩ := List.mem_map.mp hx
    exact (nm_name hc (b k).1 (b k).2).1
  · obtain ⟨k, _, rfl⟩ := List.mem_map.mp hx
    exact (nm_name hc (b k).1 (b k).2).2
def spNames : Sp := fun vs H Q _ => ∃ (p c : Addr) (lim : V) (n : Nat), vs = [.ref p] ∧ PoolAt H p c lim n ∧ n < 100000000000 ∧
  ∀ (q : Addr) (ns : List Str) (H' : Hp), NamesOk ns → ns.length = 16 → PoolAt H' p c lim (n + 2) → But p c H H' → H q = none → H' q = some (.lst (ns.map V.str)) → Q (.ref q) H'
structure TxNames (mg : Str → Option Value) : Prop where
  n_str : mg "str" = none
  n_range : mg "range" = none
section
variable {P : Program} {w : World} {K : PySem.W.Frag} {mg : Str → Option Value} {base : Heap}
theorem log2_small {i : Int} (h0 : 0 ≤ i) (h1 : i < 16) : i.natAbs.log2 < 1920 := by
  have : i.natAbs.log2 ≤ i.natAbs := Nat.log2_le_self _
  omega
theorem ok_Names {f : Addr} {fd : FuncData} (F : Fun K "_law_names" "_law_names" sNames f fd) (T : TxNames mg) (GD : Has P w K mg base CX0 2 "_law_draw" PDraw spDraw) : FnOk P w K mg base CX0 3 f fd PNames spNames := by
  refine F.ok scNames (fun vs H Q E h => ?_) (fun cdv A outer s H vs Q E hr h => ?_)
  · obtain ⟨p, c, lim, n, rfl, _⟩ := h
    rfl
  · obtain ⟨p, c, lim, n, rfl, P0, hn, k⟩ := h
    refine ⟨_, (pss_cons (ps_set (i := 1) scNames.nd rfl (Or.inr rfl) (pe_ix ix_str pe_str (pe_callH GD hr rfl pass0 (pa_cons (pv 0) (pa_cons pe_int pa_nil))) (fun _ _ => rfl)))
  (pss_cons (ps_set (i := 2) scNames.nd rfl (Or.inr rfl) (pe_callH GD hr rfl pass0 (pa_cons (pv 0) (pa_cons pe_int pa_nil))))
  (pss_one (ps_ret (pe_lc (own := [("_law_k", 3)]) (g := gName 3) (tt := tYes) rfl scNames.nd (pi_range1 (by rfl) T.n_range (pa_cons pe_int pa_nil)) (blkOk_by (own := [("_law_k", 3)]) (N := NNames) (sc := (defScope sNames)) (by decide +kernel)) (fun _ _ _ _ _ => (pg_name (i := 3) scNames.nd rfl (Or.inl rfl))) (fun _ _ _ _ _ => pts_nil) (fun _ _ _ _ _ => (pe_op op_add_str (pv 1) (pe_callTy call_str_int (by rfl) T.n_str bb_str (pa_cons (pe_op op_mod (pe_op op_add (pe_op op_mul pe_int (pv 3)) (pv 2)) pe_int) pa_nil))))))))), ?_⟩
    refine ⟨_, rfl, p, c, lim, n, 26, rfl, P0, by omega, by decide, by decide, fun r H1 r0 r1 P1 b1 => ?_⟩
    obtain ⟨lc, hlc, mlc⟩ := atI_in (xs := LET.cps.toList) r0 (by rw [show LET.cps.toList.length = 26 by decide +kernel]; exact r1)
    refine ⟨_, _, lc, rfl, rfl, by decide +kernel, hlc, ?_⟩
    refine ⟨_, rfl, p, c, lim, n + 1, 16, rfl, P1, by omega, by decide, by decide, fun sh H2 s0 s1 P2 b2 => ?_⟩
    refine ⟨16, rfl, by decide, by decide, fun D hD => ?_⟩
    have Dp := P2.ne1 hD
    have Dc := P2.ne2 hD
    refine lc_range (lo := 0) (n := 16) (fun i H' => Same H2 H' ∧ H' D = some (.lst ((nms lc sh i).map V.str))) ⟨same_new hD, upd_same⟩ ?_ ?_
    · rintro i H3 hi ⟨s3, e3⟩
      have b : 0 ≤ (7 * (0 + (i : Int)) + sh) % 16 ∧ (7 * (0 + (i : Int)) + sh) % 16 < 16 := ⟨Int.emod_nonneg _ (by decide), Int.emod_lt_of_pos _ (by decide)⟩
      refine ⟨rfl, _, rfl, _, rfl, _, _, rfl, rfl, .inl ⟨by decide, by decide⟩, _, rfl, _, _, rfl, rfl, _, _, rfl, rfl, (show (0 : Int) < 16 by decide), _, rfl, log2_small b.1 b.2, _, _, rfl, rfl, ?_, _, e3, small1000 ?_, fun b o z => ?_, ?_⟩
      · have q := (nm_name mlc b.1 b.2).2
        unfold nm at q
        rw [str_app_len] at q
        exact Nat.le_trans q (by decide)
      · unfold nms
        rw [List.length_map, List.length_map, List.length_range]
        omega
      · rw [upd_ne (ne_of_none z hD)]
        exact s3 b o z
      · rw [upd_same]
        unfold nms
        rw [List.range_succ, List.map_append, List.map_append]
        show some (HO.lst (_ ++ [V.str (nm lc ((7 * (0 + (i : Int)) + sh) % 16))])) = _
        rw [Int.zero_add]
        rfl
    · rintro H3 ⟨s3, e3⟩
      have hD0 : H D = none := by
        cases q : H D with
        | none => rfl
        | some o => rw [b2 D o (b1 D o q Dp Dc) Dp Dc] at hD; cases hD
      refine k D _ H3 (nms_ok mlc s0 s1 (Nat.le_refl 16)) (by unfold nms; rw [List.length_map, List.length_range]) (P2.same s3) (fun b o z h1 h2 => s3 b o (b2 b o (b1 b o z h1 h2) h1 h2)) hD0 e3
end

/-! ### the law -/
abbrev sEvent : Stmt := topS 23
abbrev NEvent : List Str := ["_law_pool_here", "_law_names_here", "_law_choice", "_law_name"]
abbrev PEvent : List Str := ["_law_pool_here", "_law_names_here"]
theorem scEvent : FnScope NEvent PEvent (defScope sEvent) := ⟨rfl, rfl, rfl, by decide +kernel, rfl, by decide +kernel, by decide +kernel⟩
abbrev sLRec : Stmt := topS 24
abbrev NLRec : List Str := ["_law_values", "_law_log", "_law_found", "_law_name", "_law_k", "_law_record"]
abbrev PLRec : List Str := ["_law_values", "_law_log"]
theorem scLRec : FnScope NLRec PLRec (defScope sLRec) := ⟨rfl, rfl, rfl, by decide +kernel, rfl, by decide +kernel, by decide +kernel⟩
abbrev sFits : Stmt := topS 25
abbrev NFits : List Str := ["_law_store", "_law_values", "_law_log", "_law_pending", "_law_told", "_law_records", "_law_again"]
abbrev PFits : List Str := ["_law_store", "_law_values", "_law_log", "_law_pending"]
theorem scFits : FnScope NFits PFits (defScope sFits) := ⟨rfl, rfl, rfl, by decide +kernel, rfl, by decide +kernel, by decide +kernel⟩
abbrev sLaw : Stmt := topS 26
abbrev NLaw : List Str := ["_law_script", "_law_pool_here", "_law_names_here", "_law_values", "_law_name", "_law_given", "_law_store", "_law_log", "_law_pending", "_law_k", "_law_event_here"]
abbrev PLaw : List Str := ["_law_script"]
theorem scLaw : FnScope NLaw PLaw (defScope sLaw) := ⟨rfl, rfl, rfl, by decide +kernel, rfl, by decide +kernel, by decide +kernel⟩
/-- a list of texts is no part of the pool -/
theorem strs_ne1 {H : Hp} {p c q : Addr} {lim : V} {n : Nat} {ns : List Str} (h : PoolAt H p c lim n) (hq : H q = some (.lst (ns.map V.str))) : q ≠ p := by
  obtain ⟨i, cs, cn, sd, md, e1, e2, e⟩ := h
  refine ne_of hq e1 (fun z => ?_)
  injection z with z
  cases ns with
  | nil => cases z
  | cons a r => injection z with z _; cases z
theorem strs_ne2 {H : Hp} {p c q : Addr} {lim : V} {n : Nat} {ns : List Str} (h : PoolAt H p c lim n) (hn : ns ≠ []) (hq : H q = some (.lst (ns.map V.str))) : q ≠ c := by
  obtain ⟨i, cs, cn, sd, md, e1, e2, e⟩ := h
  refine ne_of hq e2 (fun z => ?_)
  injection z with z
  cases ns with
  | nil => exact hn rfl
  | cons a r =>
    cases cs with
    | nil => cases z
    | cons b t => injection z with z _; cases z
def evIn (ns : List Str) : Evt → Prop
  | .log n _ => n ∈ ns
  | .write n _ => n ∈ ns
  | _ => True
def spEvent : Sp := fun vs H Q _ => ∃ (p c nl : Addr) (lim : V) (n : Nat) (ns : List Str), vs = [.ref p, .ref nl] ∧ PoolAt H p c lim n ∧ n < 100000000000 ∧ H nl = some (.lst (ns.map V.str)) ∧ ns ≠ [] ∧ ns.length ≤ 1000 ∧
  ∀ (e : Addr) (ev : Evt) (H' : Hp), evIn ns ev → PoolAt H' p c lim (n + 3) → But p c H H' → H e = none → H' e = some (.tup (evV ev)) → Q (.ref e) H'
section
variable {P : Program} {w : World} {K : PySem.W.Frag} {mg : Str → Option Value} {base : Heap} {kw C pp : Addr}
theorem But.free {p c : Addr} {H H' : Hp} (b : But p c H H') {q : Addr} (hq : H' q = none) (h1 : q ≠ p) (h2 : q ≠ c) : H q = none := by
  cases z : H q with
  | none => rfl
  | some o => rw [b q o z h1 h2] at hq; cases hq
theorem But.of_same {p c : Addr} {H H1 H2 : Hp} (a : But p c H H1) (b : Same H1 H2) : But p c H H2 := fun x o e h1 h2 => b x o (a x o e h1 h2)
theorem ok_Event {f : Addr} {fd : FuncData} (F : Fun K "_law_event" "_law_event" sEvent f fd) (T : TxSt K mg kw) (GD : Has P w K mg base CX0 2 "_law_draw" PDraw spDraw) : FnOk P w K mg base CX0 3 f fd PEvent spEvent := by
  refine F.ok scEvent (fun vs H Q E h => ?_) (fun cdv A outer s H vs Q E hr h => ?_)
  · obtain ⟨p, c, nl, lim, n, ns, rfl, _⟩ := h
    rfl
  · obtain ⟨p, c, nl, lim, n, ns, rfl, P0, hn, en, hne, hl, k⟩ := h
    refine ⟨_, (pss_cons (ps_set (i := 2) scEvent.nd rfl (Or.inl rfl) (pe_callH GD hr rfl pass0 (pa_cons (pv 0) (pa_cons pe_int pa_nil))))
  (pss_cons (ps_set (i := 3) scEvent.nd rfl (Or.inl rfl) (pe_ix ix_list (pv 1) (pe_callH GD hr rfl pass0 (pa_cons (pv 0) (pa_cons (pe_callB call_len_seq (by rfl) T.n_len bb_len (pa_cons (pv 1) pa_nil)) pa_nil))) (fun _ _ => rfl)))
  (pss_cons (ps_if (pt_cmpR op_lt (pv 2) pe_int (nomark _))
  (pss_one (ps_ret (pe_tup (pa_cons pe_str (pa_cons (pv 3) (pa_cons (pe_op op_sub (pe_callH GD hr rfl pass0 (pa_cons (pv 0) (pa_cons (pe_op op_pow pe_int pe_int) pa_nil))) (pe_op op_mul pe_int (pe_op op_pow pe_int pe_int))) pa_nil))))))
  pss_nil)
  (pss_cons (ps_if (pt_cmpR op_lt (pv 2) pe_int (nomark _))
  (pss_one (ps_ret (pe_tup (pa_cons pe_str (pa_cons (pv 3) (pa_cons (pe_op op_sub (pe_callH GD hr rfl pass0 (pa_cons (pv 0) (pa_cons (pe_op op_pow pe_int pe_int) pa_nil))) (pe_op op_mul pe_int (pe_op op_pow pe_int pe_int))) pa_nil))))))
  pss_nil)
  (pss_one (ps_ret (pe_ix ix_list (pe_lst (pa_cons (pe_tup (pa_cons pe_str pa_nil)) (pa_cons (pe_tup (pa_cons pe_str pa_nil)) pa_nil))) (pe_op op_sub (pv 2) pe_int) (fun _ _ => rfl)))))))), ?_⟩
    have n1 := strs_ne1 P0 en
    have n2 := strs_ne2 P0 hne en
    have lpos : 0 < ns.length := List.length_pos_iff.mpr hne
    refine ⟨_, rfl, p, c, lim, n, 8, rfl, P0, by omega, by decide, by decide, fun ch H1 c0 c1 P1 b1 => ?_⟩
    have en1 := b1 _ _ en n1 n2
    refine ⟨_, rfl, _, rfl, _, rfl, nl, _, rfl, .inl (SqL.of en1), p, c, lim, n + 1, _, rfl, P1, by omega, by rw [List.length_map]; omega, by rw [List.length_map]; omega, fun ix H2 i0 i1 P2 b2 => ?_⟩
    have en2 := b2 _ _ en1 n1 n2
    obtain ⟨v, hv, mv⟩ := atI_in (xs := ns.map V.str) i0 i1
    obtain ⟨x, hx, rfl⟩ := List.mem_map.mp mv
    refine ⟨nl, _, _, _, rfl, rfl, SqL.of en2, hv, ?_⟩
    refine ⟨_, rfl, _, _, rfl, rfl, _, rfl, ite2 (fun h3 => ?_) (fun h3 => ?_)⟩
    · refine ⟨_, rfl, _, rfl, _, _, rfl, rfl, ⟨by decide, by decide, by decide⟩, p, c, lim, n + 2, _, rfl, P2, by omega, by decide, by decide, fun r H3 r0 r1 P3 b3 => ?_⟩
      refine ⟨_, _, rfl, rfl, ⟨by decide, by decide, by decide⟩, _, _, rfl, rfl, .inl ⟨by decide, by decide⟩, _, _, rfl, rfl, (by show 3 ≤ sizeLine; decide), fun e he => ?_⟩
      have ep := P3.ne1 he
      have ec := P3.ne2 he
      have bb := (b1.trans b2).trans b3
      exact k e (.log x _) _ hx (P3.same (same_new he)) (bb.of_same (same_new he)) (bb.free he ep ec) upd_same
    · refine ⟨_, rfl, _, _, rfl, rfl, _, rfl, ite2 (fun h6 => ?_) (fun h6 => ?_)⟩
      · refine ⟨_, rfl, _, rfl, _, _, rfl, rfl, ⟨by decide, by decide, by decide⟩, p, c, lim, n + 2, _, rfl, P2, by omega, by decide, by decide, fun r H3 r0 r1 P3 b3 => ?_⟩
        refine ⟨_, _, rfl, rfl, ⟨by decide, by decide, by decide⟩, _, _, rfl, rfl, .inl ⟨by decide, by decide⟩, _, _, rfl, rfl, (by show 3 ≤ sizeLine; decide), fun e he => ?_⟩
        have ep := P3.ne1 he
        have ec := P3.ne2 he
        have bb := (b1.trans b2).trans b3
        exact k e (.write x _) _ hx (P3.same (same_new he)) (bb.of_same (same_new he)) (bb.free he ep ec) upd_same
      · have h6 : ¬ ch < 6 := fun z => h6 (decide_eq_true z)
        refine ⟨(by show 1 ≤ sizeLine; decide), fun t1 ht1 => ⟨(by show 1 ≤ sizeLine; decide), fun t2 ht2 => ⟨(by show 2 ≤ sizeLine; decide), fun L hL => ?_⟩⟩⟩
        have s1 := same_new (o := .tup [.str "clear"]) ht1
        have s2 := same_new (o := .tup [.str "flush"]) ht2
        have s3 := same_new (o := .lst [.ref t1, .ref t2]) hL
        have bb := (b1.trans b2).of_same ((s1.trans s2).trans s3)
        have PP := P2.same ((s1.trans s2).trans s3)
        have f1 : H t1 = none := (b1.trans b2).free ht1 (P2.ne1 ht1) (P2.ne2 ht1)
        have f2 : H t2 = none := (b1.trans b2).free (s1.free ht2) (P2.ne1 (s1.free ht2)) (P2.ne2 (s1.free ht2))
        by_cases e6 : ch = 6
        · subst e6
          exact ⟨_, rfl, _, _, rfl, rfl, L, _, _, _, rfl, rfl, SqL.of upd_same, rfl, k t1 .clear _ trivial (PP.mono (by omega)) bb f1 ((s2.trans s3) _ _ upd_same)⟩
        · obtain rfl : ch = 7 := by omega
          exact ⟨_, rfl, _, _, rfl, rfl, L, _, _, _, rfl, rfl, SqL.of upd_same, rfl, k t2 .flush _ trivial (PP.mono (by omega)) bb f2 (s3 _ _ upd_same)⟩
/-! _law_recovered -/
def spLRec : Sp := fun vs H Q _ => ∃ (d gl : Addr) (l g : Recs) (xs : List V), vs = [.ref d, .ref gl] ∧ H d = some (.dK (kvOf l)) ∧ H gl = some (.lst xs) ∧ Paired (RecAt H) xs g ∧ (names l).Nodup ∧ l.length ≤ 900 ∧ g.length ≤ 900 ∧ (∀ p ∈ g, p.1 ∈ names l) ∧
  ∀ (q : Addr) (H' : Hp), Same H H' → H q = none → H' q = some (.dK (kvOf (recov l g))) → Q (.ref q) H'
theorem kvOf_take {l : Recs} {i : Nat} {p : Str × Int} (h : l[i]? = some p) (nd : (names l).Nodup) : putK (kvOf (l.take i)) (Sum.inr p.1) (V.int p.2) = kvOf (l.take (i + 1)) := by
  have no : valV (kvOf (l.take i)) (Sum.inr p.1) = none := by
    cases q : valV (kvOf (l.take i)) (Sum.inr p.1) with
    | none => rfl
    | some v =>
      have m := valV_in q
      unfold kvOf at m
      rw [List.map_map] at m
      obtain ⟨x, hx, e⟩ := List.mem_map.mp m
      have e : x.1 = p.1 := Sum.inr.inj e
      obtain ⟨j, hj, rfl⟩ := List.mem_iff_getElem.mp hx
      rw [List.length_take] at hj
      rw [List.getElem_take] at e
      obtain ⟨hi, rfl⟩ := List.getElem?_eq_some_iff.mp h
      have z := (List.getElem_inj (xs := names l) (i := j) (j := i) (h₀ := by unfold names; rw [List.length_map]; omega) (h₁ := by unfold names; rw [List.length_map]; exact hi) nd).mp (by simp [names, e])
      omega
  rw [putK_new _ no, take_snoc h]
  unfold kvOf
  rw [List.map_append]
  rfl
theorem ok_LRec {f : Addr} {fd : FuncData} (F : Fun K "_law_recovered" "_law_recovered" sLRec f fd) (T : TxSt K mg kw) : FnOk P w K mg base CX0 1 f fd PLRec spLRec := by
  refine F.ok scLRec (fun vs H Q E h => ?_) (fun cdv A outer s H vs Q E hr h => ?_)
  · obtain ⟨d, gl, l, g, xs, rfl, _⟩ := h
    rfl
  · obtain ⟨d, gl, l, g, xs, rfl, ed, eg, pg, nd, ll, lg, mem, k⟩ := h
    have hu := hu_of hr
    have lx : xs.length = g.length := Paired.length pg
    refine ⟨_, (pss_cons (ps_set (i := 2) scLRec.nd rfl (Or.inl rfl) pe_dnewK)
  (pss_cons (ps_lock (ps_for PassesOwn.never rfl (pi_keys (pv 0)) (pg_name (i := 3) scLRec.nd rfl (Or.inl rfl))
  (pss_one (ps_dput hu (pv 2) (pv 3) (pe_dget hu (pv 0) (pv 3) (fun _ _ => rfl)) rfl))))
  (pss_cons (ps_for PassesOwn.never rfl (pi_range1 (by rfl) T.n_range (pa_cons (pe_callB call_len_seq (by rfl) T.n_len bb_len (pa_cons (pv 1) pa_nil)) pa_nil)) (pg_name (i := 4) scLRec.nd rfl (Or.inl rfl))
  (pss_cons (ps_set (i := 5) scLRec.nd rfl (Or.inl rfl) (pe_ix ix_list (pv 1) (pe_op op_sub (pe_op op_sub (pe_callB call_len_seq (by rfl) T.n_len bb_len (pa_cons (pv 1) pa_nil)) pe_int) (pv 4)) (fun _ _ => rfl)))
  (pss_one (ps_dput hu (pv 2) (pe_ix ix_tup (pv 5) pe_int (fun _ _ => rfl)) (pe_ix ix_tup (pv 5) pe_int (fun _ _ => rfl)) rfl))))
  (pss_one (ps_ret (pv 2)))))), ?_⟩
    intro q hq
    have dq := ne_of_none ed hq
    have gq := ne_of_none eg hq
    have s0 := same_new (o := .dK []) hq
    refine ⟨d, _, s0 _ _ ed, trivial, fun od => ?_⟩
    refine ⟨_, rfl, d, od, rfl, .inl ⟨_, upd_same, ?_⟩⟩
    refine for_it walk_keys (fun i σ H' => ∃ x : Option V, σ = [some (.ref d), some (.ref gl), some (.ref q), x, none, none] ∧ H' d = some (.frz od (.dK (kvOf l))) ∧ H' q = some (.dK (kvOf (l.take i))) ∧ ∀ b o, H b = some o → b ≠ d → H' b = some o) ?_ (fun i σ H' _ h' => by obtain ⟨_, _, z, _⟩ := h'; exact z) ?_ ?_
    · exact ⟨none, rfl, upd_same, by rw [upd_ne dq.symm, upd_same]; rfl, fun b o z hb => by rw [upd_ne hb, upd_ne (ne_of_none z hq)]; exact z⟩
    · rintro i v σ H1 H1' hi ⟨x, rfl, e1, e2, e3⟩ ⟨rfl, ky, u, hk, rfl⟩
      have hil : i < l.length := by
        have z : (kvOf l).length = l.length := List.length_map ..
        omega
      obtain ⟨p, hp⟩ : ∃ p, l[i]? = some p := ⟨l[i], by simp [hil]⟩
      have hkv : (kvOf l)[i]? = some (Sum.inr p.1, V.int p.2) := by unfold kvOf; rw [List.getElem?_map, hp]; rfl
      rw [hk] at hkv
      cases hkv
      have hval : valV (kvOf l) (Sum.inr p.1) = some (V.int p.2) := by
        have z : putK (kvOf l) (Sum.inr p.1) (V.int p.2) = kvOf l := by
          have mn : p.1 ∈ names l := List.mem_map.mpr ⟨p, List.mem_of_getElem? hp, rfl⟩
          rw [putK_kvOf p.2 mn]
          congr 1
          unfold setR
          conv => rhs; rw [← List.map_id l]
          refine List.map_congr_left fun y hy => ?_
          by_cases e : y.1 = p.1
          · rw [if_pos e]
            obtain ⟨j, hj, rfl⟩ := List.mem_iff_getElem.mp hy
            obtain ⟨hi', rfl⟩ := List.getElem?_eq_some_iff.mp hp
            have z := (List.getElem_inj (xs := names l) (i := j) (j := i) (h₀ := by unfold names; rw [List.length_map]; omega) (h₁ := by unfold names; rw [List.length_map]; exact hi') nd).mp (by simp [names, e])
            subst z
            rfl
          · rw [if_neg e]
            rfl
        rw [← z, valV_put, if_pos rfl]
      refine ⟨_, rfl, _, rfl, d, _, rfl, .inl ⟨kvOf l, Sum.inr p.1, .inr ⟨od, e1⟩, rfl, hval.symm⟩, _, rfl, _, rfl, q, _, rfl, DPut.k (k := Sum.inr p.1) e2 ?_, ?_⟩
      · unfold kvOf
        rw [List.length_map, List.length_take]
        exact small1000 (by omega)
      · refine ⟨_, rfl, by rw [upd_ne dq]; exact e1, by rw [upd_same, kvOf_take hp nd], fun b o z hb => ?_⟩
        rw [upd_ne (ne_of_none z hq)]
        exact e3 b o z hb
    · rintro σ H1 ⟨x, rfl, e1, e2, e3⟩
      refine ⟨e1, ?_⟩
      have lk : (kvOf l).length = l.length := List.length_map ..
      rw [lk, List.take_length] at e2
      obtain ⟨H2, eH2⟩ : ∃ H2, H2 = upd H1 d (.dK (kvOf l)) := ⟨_, rfl⟩
      rw [← eH2]
      have s2 : Same H H2 := fun b o z => by
        rw [eH2]
        by_cases hb : b = d
        · rw [hb, upd_same, ← ed, ← hb]
          exact z
        · rw [upd_ne hb]
          exact e3 b o z hb
      have q2 : H2 q = some (.dK (kvOf l)) := by rw [eH2, upd_ne dq.symm]; exact e2
      refine ⟨_, rfl, gl, _, rfl, .inl (SqL.of (s2 _ _ eg)), _, rfl, by rw [lx]; omega, by rw [lx]; omega, ?_⟩
      refine for_range (lo := 0) (n := ((xs.length : Int)).toNat) (fun i σ H' => ∃ x y z : Option V, σ = [some (.ref d), some (.ref gl), some (.ref q), x, y, z] ∧ Same H H' ∧ H' q = some (.dK (kvOf (recF l (g.reverse.take i))))) ⟨_, _, _, rfl, s2, q2⟩ ?_ ?_
      · rintro i σ H3 hi ⟨x, y, z, rfl, s3, e⟩
        rw [Int.toNat_natCast] at hi
        obtain ⟨v, hv⟩ : ∃ v, xs[xs.length - 1 - i]? = some v := ⟨xs[xs.length - 1 - i]'(by omega), by simp [show xs.length - 1 - i < xs.length by omega]⟩
        obtain ⟨r, hr', t, rfl, et⟩ := Paired.at pg hv
        have hrev : g.reverse[i]? = some r := by rw [List.getElem?_reverse (by omega), ← hr', lx]
        obtain ⟨j1, j2⟩ := recF_inv l (g.reverse.take i)
        have hn : r.1 ∈ names (recF l (g.reverse.take i)) := by rw [j1]; exact mem r (List.mem_of_getElem? hr')
        refine ⟨_, rfl, _, rfl, gl, _, rfl, .inl (SqL.of (s3 _ _ eg)), _, _, rfl, rfl, _, rfl, _, _, rfl, rfl, gl, _, _, _, rfl, rfl, SqL.of (s3 _ _ eg), at_of (j := xs.length - 1 - i) (by omega) hv, ?_⟩
        refine ⟨_, rfl, t, _, _, _, rfl, rfl, SqT.of (s3 _ _ et), rfl, _, rfl, _, rfl, t, _, _, _, rfl, rfl, SqT.of (s3 _ _ et), rfl, q, _, rfl, DPut.k (k := Sum.inr r.1) e ?_, ?_⟩
        · unfold kvOf
          rw [List.length_map, j2]
          exact small1000 (by omega)
        · refine ⟨_, _, _, rfl, fun b o z => ?_, ?_⟩
          · rw [upd_ne (ne_of_none z hq)]
            exact s3 b o z
          · rw [upd_same, take_snoc hrev, recF_snoc, putK_kvOf r.2 hn]
      · rintro σ H3 ⟨x, y, z, rfl, s3, e⟩
        rw [Int.toNat_natCast, lx, ← List.length_reverse, List.take_length] at e
        exact ⟨_, rfl, k q H3 s3 hq e⟩
/-! _law_fits -/
def dLog (g : Recs) : PyData := .list (g.map fun r => .tuple [.str r.1, .int r.2])
theorem dp_log {H : Hp} {p : Addr} {xs : List V} {g : Recs} (e : H p = some (.lst xs)) (h : Paired (RecAt H) xs g) : Dp K H (.ref p) (dLog g) := by
  refine .lst (SqL.of e) ?_
  clear e
  induction h with
  | nil => exact .nil
  | cons r _ ih =>
    obtain ⟨a, rfl, q⟩ := r
    exact .cons (.tup (SqT.of q) (.cons (.str _) (.cons (.int _) .nil))) ih
theorem lay_log : ∀ {g : Recs}, (∀ p ∈ g, PyData.strOk p.1 = true) → PyData.canLayAll0 (g.map fun r => .tuple [.str r.1, .int r.2]) = true
  | [], _ => by simp [PyData.canLayAll0]
  | p :: r, h => by
    simp only [List.map_cons, PyData.canLayAll0, PyData.canLay0, h p (List.mem_cons_self ..), Bool.true_and, Bool.and_true]
    exact lay_log fun x hx => h x (List.mem_cons_of_mem _ hx)
theorem depth_log : ∀ g : Recs, PyData.depthAll (g.map fun r => .tuple [.str r.1, .int r.2]) ≤ 1
  | [] => by simp [PyData.depthAll]
  | p :: r => by
    have := depth_log r
    simp only [List.map_cons, PyData.depthAll, PyData.depth]
    omega
theorem shaped_log {g : Recs} (h : ∀ p ∈ g, PyData.strOk p.1 = true) : SeqAt.shaped (dLog g) = true := by
  have q := depth_log g
  unfold SeqAt.shaped dLog
  rw [Bool.and_eq_true]
  refine ⟨by simp only [PyData.canLay0]; exact lay_log h, decide_eq_true ?_⟩
  simp only [PyData.depth]
  omega
theorem eqv_log {g : Recs} (h : ∀ p ∈ g, PyData.strOk p.1 = true) : PyData.eqv (dLog g) (dLog g) = true :=
  SeqAt.eqv_refl _ (by simp only [dLog, PyData.canLay0]; exact lay_log h)
theorem eq_dict {l : Recs} (nd : (names l).Nodup) : ∀ p ∈ kvOf l, valV (kvOf l) p.1 = some p.2 ∧ flatB p.2 = true := by
  intro p hp
  unfold kvOf at hp
  obtain ⟨x, hx, rfl⟩ := List.mem_map.mp hp
  refine ⟨?_, rfl⟩
  clear hp
  induction l with
  | nil => cases hx
  | cons y r ih =>
    have nd : (y.1 :: names r).Nodup := nd
    obtain ⟨n1, n2⟩ := List.nodup_cons.mp nd
    show valV ((Sum.inr y.1, V.int y.2) :: kvOf r) _ = _
    rcases List.mem_cons.mp hx with e | e
    · rw [e, valV_pos rfl]
    · rw [valV_neg (fun z => n1 (by rw [show y.1 = x.1 from Sum.inr.inj z]; exact List.mem_map.mpr ⟨x, e, rfl⟩))]
      exact ih n2 e
def spFits (C : Addr) : Sp := fun vs H Q _ => ∃ (av : List Addr) (S wl d gl : Addr) (l g : Recs) (ws : List Evt) (xs : List V), vs = [.ref S, .ref d, .ref gl, .int (ws.length : Int)] ∧ Av av H ∧ StoreAt C av H S wl l g ws ∧ WellS l g ws ∧ l.length ≤ 900 ∧
  H d = some (.dK (kvOf (apps (l, g) ws).1)) ∧ H gl = some (.lst xs) ∧ Paired (RecAt H) xs (apps (l, g) ws).2 ∧ ∀ H', Same H H' → Q (.bl true) H'
theorem ok_Fits {f : Addr} {fd : FuncData} (F : Fun K "_law_fits" "_law_fits" sFits f fd) (T : TxSt K mg kw) (TC : TxC K C) (MC : HasM P w K mg base CX0 3 C "current" PSCur (spCur C)) (ML : HasM P w K mg base CX0 3 C "log" PSLog (spLog C)) (MR : HasM P w K mg base CX0 5 C "recovered" PSRec (spRec C))
    (MP : ∃ (g : Addr) (fd : FuncData), PropOf K C "pending" pp g ∧ FnOk P w K mg base CX0 1 g fd PSPend (spPend C) ∧ Binds K fd PSPend []) (GR : Has P w K mg base CX0 1 "_law_recovered" PLRec spLRec) : FnOk P w K mg base CX0 6 f fd PFits (spFits C) := by
  refine F.ok scFits (fun vs H Q E h => ?_) (fun cdv A outer s H vs Q E hr h => ?_)
  · obtain ⟨av, S, wl, d, gl, l, g, ws, xs, rfl, _⟩ := h
    rfl
  · obtain ⟨av, S, wl, d, gl, l, g, ws, xs, rfl, hav, sa, wf, ll, ed, eg, pg, k⟩ := h
    have hu := hu_of hr
    have hr3 := hr.mono (j := 3) (by decide)
    have hr2 := hr.mono (j := 2) (by decide)
    have hr1 := hr.mono (j := 1) (by decide)
    refine ⟨_, (pss_cons (ps_if (PW.pt (pw_or (pt_cmpR (op_ne_dictA hr.units0) (pe_methH0 (pv 0) TC.cl MC hr3 pass0) (pv 1) (nomark _)) (pw_or (pt_cmpR (op_neD hr.units) (pe_methH0 (pv 0) TC.cl ML hr3 pass0) (pv 2) (nomark _)) (pw_or1 (pt_cmpR op_ne (pe_propH (pv 0) TC.cl MP hr2 pass0) (pv 3) (nomark _))))))
  (pss_one (ps_ret pe_bl))
  pss_nil)
  (pss_cons (ps_set (i := 4) scFits.nd rfl (Or.inl rfl) (pe_methH0 (pv 0) TC.cl MC hr3 pass0))
  (pss_cons (ps_dput hu (pv 4) pe_str pe_int rfl)
  (pss_cons (ps_set (i := 5) scFits.nd rfl (Or.inl rfl) (pe_methH0 (pv 0) TC.cl ML hr3 pass0))
  (pss_cons (ps_expr (pe_bm PySem.F.plainAttrs_list PySem.F.slot_list_append PySem.F.type_list_append mt_append (pv 5) (pa_cons (pe_tup (pa_cons pe_str (pa_cons pe_int pa_nil))) pa_nil)))
  (pss_cons (ps_set (i := 6) scFits.nd rfl (Or.inl rfl) (pe_methH0 (pv 0) TC.cl MR hr pass0))
  (pss_cons (ps_if (PW.pt (pw_or (pt_cmpR (op_ne_dictA hr.units0) (pe_methH0 (pv 6) TC.cl MC hr3 pass0) (pe_callH GR hr1 rfl pass0 (pa_cons (pv 1) (pa_cons (pv 2) pa_nil))) (nomark _)) (pw_or (pt_cmpR (op_neD hr.units) (pe_methH0 (pv 6) TC.cl ML hr3 pass0) (pe_lst pa_nil) (nomark _)) (pw_or1 (pt_cmpR op_ne (pe_propH (pv 6) TC.cl MP hr2 pass0) pe_int (nomark _))))))
  (pss_one (ps_ret pe_bl))
  pss_nil)
  (pss_one (ps_ret (pe_and (pe_cmpR (op_eq_dictA hr.units0) (pe_methH0 (pv 0) TC.cl MC hr3 pass0) (pv 1) (nomark _)) (pe_and (pe_cmpR (op_eqD hr.units) (pe_methH0 (pv 0) TC.cl ML hr3 pass0) (pv 2) (nomark _)) (pe_one (pe_cmpR op_eq (pe_propH (pv 0) TC.cl MP hr2 pass0) (pv 3) (nomark _)))))))))))))), ?_⟩
    obtain ⟨L, G, eq⟩ : ∃ L G, apps (l, g) ws = (L, G) := ⟨_, _, rfl⟩
    have inv := apps_inv (l, g) ws
    have lg := apps_log (st := (l, g)) wf.2.2.1 wf.2.2.2
    rw [eq] at ed pg inv lg
    obtain ⟨i1, i2, i3⟩ := inv
    have gL : GoodR L := wf.1.of_names i1 i2
    have okG : ∀ p ∈ G, PyData.strOk p.1 = true := fun p hp => strOk_name (gL.2.2 _ (lg p hp)).1
    have eqD := eq_dict gL.1
    have shG := shaped_log okG
    have eqG := eqv_log okG
    obtain ⟨dx, a, ys, e1, _⟩ := id sa
    have w2 := wf.2.1
    -- the first three
    refine ⟨_, rfl, S, dx, _, rfl, e1, rfl, av, S, wl, l, g, ws, rfl, hav, sa, wf, fun p1 H1 s1 f1 ep1 => ?_⟩
    rw [eq] at ep1
    refine ⟨_, rfl, p1, d, _, _, rfl, rfl, ep1, s1 _ _ ed, rfl, eqD, _, rfl, ?_⟩
    refine ⟨_, rfl, S, dx, _, rfl, s1 _ _ e1, rfl, av, S, wl, l, g, ws, rfl, hav.same s1, sa.same s1, wf, fun p2 xs2 H2 s2 f2 ep2 pr2 => ?_⟩
    rw [eq] at pr2
    have t2 := s1.trans s2
    refine ⟨_, rfl, _, _, dp_log ep2 pr2, dp_log (t2 _ _ eg) (Paired.mapP pg fun _ _ z => z.same t2), shG, shG, _, rfl, iteE (by rw [eqG]; rfl) ?_⟩
    refine ⟨_, rfl, S, dx, _, rfl, t2 _ _ e1, av, S, wl, l, g, ws, rfl, sa.same t2, _, rfl, rfl, _, rfl, iteE (by simp) ?_⟩
    -- told, records
    refine ⟨_, rfl, S, dx, _, rfl, t2 _ _ e1, rfl, av, S, wl, l, g, ws, rfl, hav.same t2, sa.same t2, wf, fun p3 H3 s3 f3 ep3 => ?_⟩
    have t3 := t2.trans s3
    refine ⟨_, rfl, p3, _, rfl, DPut.k (k := Sum.inr "") ep3 ?_, ?_⟩
    · unfold kvOf
      rw [List.length_map, eq]
      exact small1000 (by simp only at i2 ⊢; omega)
    have f3' : H p3 = none := t2.free f3
    have t4 : Same H (upd H3 p3 (.dK (putK (kvOf (apps (l, g) ws).1) (Sum.inr "") (V.int 1)))) := fun b o z => by
      rw [upd_ne (ne_of_none z f3')]
      exact t3 b o z
    refine ⟨_, rfl, S, dx, _, rfl, t4 _ _ e1, rfl, av, S, wl, l, g, ws, rfl, hav.same t4, sa.same t4, wf, fun p5 xs5 H5 s5 f5 ep5 pr5 => ?_⟩
    have t5 := t4.trans s5
    rw [eq] at pr5
    have l5 : xs5.length = G.length := Paired.length pr5
    refine ⟨_, rfl, .inl ⟨rfl, _, SqL.of ep5⟩, (by show 2 ≤ sizeLine; decide), fun t6 h6 => ?_⟩
    have p56 := ne_of_none ep5 h6
    refine ⟨p5, xs5, _, rfl, rfl, by rw [upd_ne p56]; exact ep5, small1000 (by simp only at i3; omega), ?_⟩
    have f5' : H p5 = none := t4.free f5
    have f6' : H t6 = none := t5.free h6
    have t7 : Same H (upd (upd H5 t6 (.tup [.str "", .int 1])) p5 (.lst (xs5 ++ [.ref t6]))) := fun b o z => by
      rw [upd_ne (ne_of_none z f5'), upd_ne (ne_of_none z f6')]
      exact t5 b o z
    -- again
    refine ⟨_, rfl, S, dx, _, rfl, t7 _ _ e1, rfl, av, S, wl, l, g, ws, rfl, hav.same t7, sa.same t7, wf, fun S8 wl8 H8 s8 f8 f8' st8 => ?_⟩
    rw [eq] at st8
    have t8 := t7.trans s8
    obtain ⟨r1, r2⟩ := recF_inv L G.reverse
    have gR : GoodR (recov L G) := gL.of_names r1 r2
    have wf8 : WellS (recov L G) [] [] := ⟨gR, by decide, (fun _ z => nomatch z), (fun _ z => nomatch z)⟩
    obtain ⟨dx8, a8, ys8, e8, _⟩ := id st8
    refine ⟨_, rfl, S8, dx8, _, rfl, e8, rfl, av, S8, wl8, _, [], [], rfl, hav.same t8, st8, wf8, fun p9 H9 s9 f9 ep9 => ?_⟩
    have t9 := t8.trans s9
    have ep9 : H9 p9 = some (.dK (kvOf (recov L G))) := ep9
    refine ⟨_, rfl, _, rfl, d, gl, L, G, xs, rfl, t9 _ _ ed, t9 _ _ eg, Paired.mapP pg (fun _ _ z => z.same t9), gL.1, by simp only at i2; omega, by simp only at i3; omega, lg, fun q10 H10 s10 f10 ep10 => ?_⟩
    have t10 := t9.trans s10
    refine ⟨p9, q10, _, _, rfl, rfl, s10 _ _ ep9, ep10, rfl, eq_dict gR.1, _, rfl, ?_⟩
    refine ⟨_, rfl, S8, dx8, _, rfl, (s9.trans s10) _ _ e8, rfl, av, S8, wl8, _, [], [], rfl, hav.same t10, st8.same (s9.trans s10), wf8, fun p11 xs11 H11 s11 f11 ep11 pr11 => ?_⟩
    have t11 := t10.trans s11
    refine ⟨(by show 0 ≤ sizeLine; decide), fun p12 h12 => ?_⟩
    have s12 := same_new (o := .lst []) h12
    have nil : ∀ p ∈ ([] : Recs), PyData.strOk p.1 = true := fun _ z => nomatch z
    refine ⟨_, _, dp_log (s12 _ _ ep11) (Paired.mapP pr11 fun _ _ z => z.same s12), dp_log (g := []) upd_same .nil, shaped_log nil, shaped_log nil, _, rfl, iteE (by show (!PyData.eqv (dLog []) (dLog [])) = false; rw [eqv_log nil]; rfl) ?_⟩
    have t12 := t11.trans s12
    refine ⟨_, rfl, S8, dx8, _, rfl, (((s9.trans s10).trans s11).trans s12) _ _ e8, av, S8, wl8, _, [], [], rfl, st8.same (((s9.trans s10).trans s11).trans s12), rfl, _, rfl, iteE (by decide) ?_⟩
    -- the last three
    refine ⟨_, rfl, S, dx, _, rfl, t12 _ _ e1, rfl, av, S, wl, l, g, ws, rfl, hav.same t12, sa.same t12, wf, fun p13 H13 s13 f13 ep13 => ?_⟩
    rw [eq] at ep13
    have t13 := t12.trans s13
    refine ⟨_, rfl, p13, d, _, _, rfl, rfl, ep13, t13 _ _ ed, rfl, eqD, _, rfl, ?_⟩
    refine ⟨_, rfl, S, dx, _, rfl, t13 _ _ e1, rfl, av, S, wl, l, g, ws, rfl, hav.same t13, sa.same t13, wf, fun p14 xs14 H14 s14 f14 ep14 pr14 => ?_⟩
    rw [eq] at pr14
    have t14 := t13.trans s14
    refine ⟨_, rfl, _, _, dp_log ep14 pr14, dp_log (t14 _ _ eg) (Paired.mapP pg fun _ _ z => z.same t14), shG, shG, true, congrArg V.bl eqG, ?_⟩
    refine ⟨_, rfl, S, dx, _, rfl, t14 _ _ e1, av, S, wl, l, g, ws, rfl, sa.same t14, _, rfl, rfl, ?_⟩
    rw [decide_eq_true rfl]
    exact k _ t14
/-! law -/
theorem StoreAt.but {av : List Addr} {H H' : Hp} {S wl : Addr} {l g : Recs} {ws : List Evt} (h : StoreAt C av H S wl l g ws) (m : ∀ b ∈ av, (∃ kv, H b = some (.dK kv)) ∨ ∃ x, H b = some (.lst x)) (k : ∀ b o, H b = some o → b ∉ av → H' b = some o) : StoreAt C av H' S wl l g ws := by
  obtain ⟨dx, a, xs, e1, ⟨dv, dl, ys, u1, u2, u3, u4, u5, u6⟩, e3, e4, e5, e6⟩ := h
  have kk : ∀ {b : Addr} {o : HO}, H b = some o → (∀ kv, o ≠ .dK kv) → (∀ x, o ≠ .lst x) → H' b = some o := fun {b o} z n1 n2 => k b o z fun hb => by
    rcases m b hb with ⟨kv, q⟩ | ⟨x, q⟩
    · rw [z] at q; exact n1 kv (Option.some.inj q)
    · rw [z] at q; exact n2 x (Option.some.inj q)
  have ka := kk u1 (fun _ z => by cases z) (fun _ z => by cases z)
  refine ⟨dx, a, xs, kk e1 (fun _ z => by cases z) (fun _ z => by cases z), ⟨dv, dl, ys, ka, k _ _ u2 u5, k _ _ u3 u6, Paired.mapP u4 (fun v r z => ?_), u5, u6⟩, k _ _ e3 e6, Paired.mapP e4 (fun v r z => ?_), (fun dv' dl' z => ?_), e6⟩
  · obtain ⟨b, rfl, q⟩ := z
    exact ⟨b, rfl, kk q (fun _ z => by cases z) (fun _ z => by cases z)⟩
  · obtain ⟨b, rfl, q⟩ := z
    exact ⟨b, rfl, kk q (fun _ z => by cases z) (fun _ z => by cases z)⟩
  · rw [ka] at z
    cases z
    exact e5 _ _ u1
theorem StoreAt.sub {av av' : List Addr} {H : Hp} {S wl : Addr} {l g : Recs} {ws : List Evt} (h : StoreAt C av H S wl l g ws) (hs : ∀ b ∈ av', b ∈ av) : StoreAt C av' H S wl l g ws := by
  obtain ⟨dx, a, xs, e1, ⟨dv, dl, ys, u1, u2, u3, u4, u5, u6⟩, e3, e4, e5, e6⟩ := h
  exact ⟨dx, a, xs, e1, ⟨dv, dl, ys, u1, u2, u3, u4, fun z => u5 (hs _ z), fun z => u6 (hs _ z)⟩, e3, e4, e5, fun z => e6 (hs _ z)⟩
theorem PoolAt.but {H H' : Hp} {p c : Addr} {lim : V} {n : Nat} (h : PoolAt H p c lim n) (k : ∀ b o, H b = some o → b = p ∨ b = c → H' b = some o) : PoolAt H' p c lim n := by
  obtain ⟨i, cs, cn, sd, md, e1, e2, e⟩ := h
  exact ⟨i, cs, cn, sd, md, k _ _ e1 (.inl rfl), k _ _ e2 (.inr rfl), e⟩
theorem PoolAt.lst {H : Hp} {p c : Addr} {lim : V} {n : Nat} (h : PoolAt H p c lim n) : (∃ x, H p = some (.lst x)) ∧ ∃ x, H c = some (.lst x) := by
  obtain ⟨i, cs, cn, sd, md, e1, e2, e⟩ := h
  exact ⟨⟨_, e1⟩, ⟨_, e2⟩⟩
def LInv (C a p c nl d g0 S : Addr) (ns : List Str) (cnt i : Nat) (σ : L2.St) (H : Hp) : Prop :=
  ∃ (wl gl : Addr) (l g L G : Recs) (ws : List Evt) (xs : List V) (x4 x9 x10 : Option V), σ = [some (.ref a), some (.ref p), some (.ref nl), some (.ref d), x4, some (.ref g0), some (.ref S), some (.ref gl), some (.int (ws.length : Int)), x9, x10] ∧
    PoolAt H p c (.int 30) cnt ∧ H nl = some (.lst (ns.map V.str)) ∧ H d = some (.dK (kvOf L)) ∧ H gl = some (.lst xs) ∧ Paired (RecAt H) xs G ∧ StoreAt C [d, p, c] H S wl l g ws ∧ apps (l, g) ws = (L, G) ∧
    GoodR l ∧ l.length ≤ 10 ∧ names l = ns ∧ g.length + ws.length ≤ i ∧ (∀ r ∈ g, r.1 ∈ names l) ∧ (∀ e ∈ ws, evOk l e) ∧ gl ∉ [d, p, c] ∧ gl ≠ wl ∧ nl ≠ wl ∧ ns ≠ []
theorem av3 {H : Hp} {p c d : Addr} {lim : V} {n : Nat} {kv : List (Key × V)} (h : PoolAt H p c lim n) (hd : H d = some (.dK kv)) : ∀ b ∈ [d, p, c], (∃ kv, H b = some (.dK kv)) ∨ ∃ x, H b = some (.lst x) := by
  obtain ⟨h1, h2⟩ := h.lst
  intro b hb
  simp only [List.mem_cons, List.not_mem_nil, or_false] at hb
  rcases hb with rfl | rfl | rfl
  · exact .inl ⟨_, hd⟩
  · exact .inr h1
  · exact .inr h2
theorem av_of {H : Hp} {av : List Addr} (m : ∀ b ∈ av, (∃ kv, H b = some (.dK kv)) ∨ ∃ x, H b = some (.lst x)) : Av av H := fun b hb => by
  rcases m b hb with ⟨_, q⟩ | ⟨_, q⟩
  · exact ⟨_, q⟩
  · exact ⟨_, q⟩
def spLaw (K : PySem.W.Frag) : Sp := fun vs H Q _ => ∃ (a : Addr) (ns : List Int), vs = [.ref a] ∧ SqL K H a (ns.map V.int) ∧ ns.length ≤ 63 ∧ ∀ H', Q (.bl true) H'
theorem cut_strs {ns : List Str} {k : Nat} : cutV (ns.map V.str) none (some (k : Int)) = (ns.take k).map V.str := by
  unfold cutV
  rw [HT.sIx_none, HT.sIx_nat, List.length_map, List.drop_zero, ← List.map_take]
  congr 1
  rw [Nat.sub_zero, List.take_eq_take_iff]
  omega
theorem putK_more {l : Recs} {n : Str} (v : Int) (h : n ∉ names l) : putK (kvOf l) (Sum.inr n) (V.int v) = kvOf (l ++ [(n, v)]) := by
  have no : valV (kvOf l) (Sum.inr n) = none := by
    cases q : valV (kvOf l) (Sum.inr n) with
    | none => rfl
    | some z =>
      have m := valV_in q
      unfold kvOf at m
      rw [List.map_map] at m
      obtain ⟨x, hx, e⟩ := List.mem_map.mp m
      exact absurd (List.mem_map.mpr ⟨x, hx, Sum.inr.inj e⟩) h
  rw [putK_new _ no]
  unfold kvOf
  rw [List.map_append]
  rfl
theorem not_take {l : List Str} (nd : l.Nodup) {i : Nat} {x : Str} (h : l[i]? = some x) : x ∉ l.take i := fun m => by
  obtain ⟨j, hj, e⟩ := List.mem_iff_getElem.mp m
  rw [List.length_take] at hj
  rw [List.getElem_take] at e
  obtain ⟨hi, e2⟩ := List.getElem?_eq_some_iff.mp h
  have z := (List.getElem_inj (h₀ := by omega) (h₁ := hi) nd).mp (e.trans e2.symm)
  omega
theorem perf_apps (l g : Recs) (ws : List Evt) (ev : Evt) : apps ((perf l g ws ev).1, (perf l g ws ev).2.1) (perf l g ws ev).2.2 = app (apps (l, g) ws) ev := by
  cases ev with
  | flush => rfl
  | log n v => exact apps_snoc ..
  | write n v => exact apps_snoc ..
  | clear => exact apps_snoc ..
theorem perf_well {l g : Recs} {ws : List Evt} {ev : Evt} (wf : WellS l g ws) (ok : evOk l ev) : names (perf l g ws ev).1 = names l ∧ (perf l g ws ev).1.length = l.length ∧ (perf l g ws ev).2.1.length + (perf l g ws ev).2.2.length ≤ g.length + ws.length + 1 ∧
    (∀ r ∈ (perf l g ws ev).2.1, r.1 ∈ names (perf l g ws ev).1) ∧ ∀ e ∈ (perf l g ws ev).2.2, evOk (perf l g ws ev).1 e := by
  have more : ∀ e, evOk l e → ∀ x ∈ ws ++ [e], evOk l x := fun e he x hx => by
    rcases List.mem_append.mp hx with q | q
    · exact wf.2.2.2 x q
    · rw [List.mem_singleton.mp q]; exact he
  have len : ∀ e : Evt, g.length + (ws ++ [e]).length ≤ g.length + ws.length + 1 := fun e => by
    rw [List.length_append]
    exact Nat.le_refl _
  cases ev with
  | flush =>
    obtain ⟨i1, i2, i3⟩ := apps_inv (l, g) ws
    have lg := apps_log (st := (l, g)) wf.2.2.1 wf.2.2.2
    exact ⟨i1, i2, by show (apps (l, g) ws).2.length + 0 ≤ _; simp only at i3; omega, lg, (fun _ z => nomatch z)⟩
  | log n v => exact ⟨rfl, rfl, len _, wf.2.2.1, more _ ok⟩
  | write n v => exact ⟨rfl, rfl, len _, wf.2.2.1, more _ ok⟩
  | clear => exact ⟨rfl, rfl, len _, wf.2.2.1, more _ ok⟩
theorem perf_pend (l g : Recs) (ws : List Evt) (ev : Evt) (h : ev ≠ .flush) : (((perf l g ws ev).2.2.length : Nat) : Int) = (ws.length : Int) + 1 := by
  have q : ∀ e : Evt, (((ws ++ [e]).length : Nat) : Int) = (ws.length : Int) + 1 := fun e => by rw [List.length_append]; rfl
  cases ev with
  | flush => exact absurd rfl h
  | log n v => exact q _
  | write n v => exact q _
  | clear => exact q _
theorem LInv.mono {a p c nl d g0 S : Addr} {ns : List Str} {m n i : Nat} {σ : L2.St} {H : Hp} (h : LInv C a p c nl d g0 S ns m i σ H) (hm : m ≤ n) : LInv C a p c nl d g0 S ns n i σ H := by
  obtain ⟨wl, gl, l, g, L, G, ws, xs, x4, x9, x10, e, P20, r⟩ := h
  exact ⟨wl, gl, l, g, L, G, ws, xs, x4, x9, x10, e, P20.mono hm, r⟩
theorem LInv.same {a p c nl d g0 S : Addr} {ns : List Str} {n i : Nat} {σ : L2.St} {H H' : Hp} (h : LInv C a p c nl d g0 S ns n i σ H) (s : Same H H') : LInv C a p c nl d g0 S ns n i σ H' := by
  obtain ⟨wl, gl, l, g, L, G, ws, xs, x4, x9, x10, e, P20, n20, d20, g20, r20, st20, r⟩ := h
  exact ⟨wl, gl, l, g, L, G, ws, xs, x4, x9, x10, e, P20.same s, s _ _ n20, s _ _ d20, s _ _ g20, Paired.mapP r20 (fun _ _ z => z.same s), st20.same s, r⟩
/-- behind a draw -/
theorem LInv.draw {a p c nl d g0 S : Addr} {ns : List Str} {n m i : Nat} {σ : L2.St} {H H' : Hp} (h : LInv C a p c nl d g0 S ns n i σ H) (b : But p c H H') (Pn : PoolAt H' p c (.int 30) m) : LInv C a p c nl d g0 S ns m i σ H' := by
  obtain ⟨wl, gl, l, g, L, G, ws, xs, x4, x9, x10, e, P20, n20, d20, g20, r20, st20, r1, r2, r3, r4, r5, r6, r7, glA, glw, nlw, nne⟩ := h
  obtain ⟨⟨yp, hyp⟩, ⟨yc, hyc⟩⟩ := P20.lst
  refine ⟨wl, gl, l, g, L, G, ws, xs, x4, x9, x10, e, Pn, b _ _ n20 (strs_ne1 P20 n20) (strs_ne2 P20 nne n20), b _ _ d20 (ne_of d20 hyp fun z => by cases z) (ne_of d20 hyc fun z => by cases z), b _ _ g20 (fun z => glA (by rw [z]; simp)) (fun z => glA (by rw [z]; simp)), Paired.mapP r20 (fun v r z => ?_), st20.but (av3 P20 d20) (fun x o z hb => b x o z (fun y => hb (by rw [y]; simp)) (fun y => hb (by rw [y]; simp))), r1, r2, r3, r4, r5, r6, r7, glA, glw, nlw, nne⟩
  obtain ⟨x, rfl, q⟩ := z
  exact ⟨x, rfl, b _ _ q (ne_of q hyp fun z => by cases z) (ne_of q hyc fun z => by cases z)⟩
theorem tail_ok {a p c nl d g0 S : Addr} {ns : List Str} {i : Nat} {σ : L2.St} {H : Hp} {D : Ends} (h : LInv C a p c nl d g0 S ns (100 + 10 * i + 3) (i + 1) σ H) (hi : i < 41) (hn : ∀ σ' H', LInv C a p c nl d g0 S ns (100 + 10 * (i + 1)) (i + 1) σ' H' → D.nx σ' H') :
    tIfS (tAnd (tTest (tOp (rI0 fun i j => V.bl (decide (j < i))) (tCall spDraw [] E0 (tCons (tVar 1) (tCons (tC (.int 3)) tNil))) (tC (.int 0)))) (tNot (tB (tCall (spFits C) [] E0 (tCons (tVar 6) (tCons (tVar 3) (tCons (tVar 7) (tCons (tVar 8) tNil)))))))) (tRet (tC (.bl false))) tNext D σ H := by
  obtain ⟨wl, gl, l, g, L, G, ws, xs, x4, x9, x10, rfl, P20, _⟩ := id h
  refine ⟨_, rfl, p, c, _, _, 3, rfl, P20, by omega, by decide, by decide, fun r H1 r0 r1 P1 b1 => ?_⟩
  have h1 := h.draw b1 P1
  refine ⟨_, _, rfl, rfl, _, rfl, ite2 (fun _ => ?_) (fun _ => ?_)⟩
  · obtain ⟨wl, gl, l, g, L, G, ws, xs, y4, y9, y10, eσ, P21, n21, d21, g21, r21, st21, ap, glR, ll, nml, bnd, rn, we, glA, glw, nlw, nne⟩ := id h1
    have wf : WellS l g ws := ⟨glR, by omega, rn, we⟩
    injection eσ with _ eσ; injection eσ with _ eσ; injection eσ with _ eσ; injection eσ with _ eσ; injection eσ with e4 eσ; injection eσ with _ eσ; injection eσ with _ eσ; injection eσ with e7 eσ; injection eσ with e8 eσ
    cases e7
    refine ⟨_, rfl, _, rfl, _, rfl, _, rfl, [d, p, c], S, wl, d, gl, l, g, ws, xs, ?_, av_of (av3 P21 d21), st21, wf, by omega, by rw [ap]; exact d21, g21, by rw [ap]; exact r21, fun H2 s2 => ⟨true, rfl, ?_⟩⟩
    · injection e8 with e8
      rw [e8]
      rfl
    · exact hn _ _ ((h1.same s2).mono (by omega))
  · exact hn _ _ (h1.mono (by omega))
theorem ok_Law {f : Addr} {fd : FuncData} (F : Fun K "law" "law" sLaw f fd) (T : TxSt K mg kw) (TC : TxC K C) (GP : Has P w K mg base CX0 1 "_law_pool" PPool (spPool K)) (GD : Has P w K mg base CX0 2 "_law_draw" PDraw spDraw) (GN : Has P w K mg base CX0 3 "_law_names" PNames spNames)
    (GV : Has P w K mg base CX0 3 "_law_event" PEvent spEvent) (GR : Has P w K mg base CX0 1 "_law_recovered" PLRec spLRec) (GF : Has P w K mg base CX0 6 "_law_fits" PFits (spFits C)) (HC : HasC P w K mg base CX0 3 "Store" C PSInit (spSInit C)) (MF : HasM P w K mg base CX0 3 C "perform" PSPerf (spPerf C)) :
    FnOk P w K mg base CX0 7 f fd PLaw (spLaw K) := by
  refine F.ok scLaw (fun vs H Q E h => ?_) (fun cdv A outer s H vs Q E hr h => ?_)
  · obtain ⟨a, ns, rfl, _⟩ := h
    rfl
  · obtain ⟨a, ns0, rfl, hS, hlen, k⟩ := h
    have hu := hu_of hr
    have hr4 := hr.mono (j := 4) (by decide)
    have hr3 := hr.mono (j := 3) (by decide)
    have hr2 := hr.mono (j := 2) (by decide)
    have hr1 := hr.mono (j := 1) (by decide)
    refine ⟨_, (pss_cons (ps_set (i := 1) scLaw.nd rfl (Or.inl rfl) (pe_callH GP hr1 rfl pass0 (pa_cons (pv 0) pa_nil)))
  (pss_cons (ps_set (i := 2) scLaw.nd rfl (Or.inl rfl) (pe_slice sl_list (pe_callH GN hr3 rfl pass0 (pa_cons (pv 1) pa_nil)) po_none (po_some (pe_op op_add pe_int (pe_callH GD hr2 rfl pass0 (pa_cons (pv 1) (pa_cons pe_int pa_nil)))))))
  (pss_cons (ps_set (i := 3) scLaw.nd rfl (Or.inl rfl) pe_dnewK)
  (pss_cons (ps_for PassesOwn.never rfl (pi_list (pv 2)) (pg_name (i := 4) scLaw.nd rfl (Or.inl rfl))
  (pss_one (ps_dput hu (pv 3) (pv 4) (pe_op op_sub (pe_callH GD hr2 rfl pass0 (pa_cons (pv 1) (pa_cons (pe_op op_pow pe_int pe_int) pa_nil))) (pe_op op_mul pe_int (pe_op op_pow pe_int pe_int))) rfl)))
  (pss_cons (ps_set (i := 5) scLaw.nd rfl (Or.inl rfl) (pe_callH GR hr1 rfl pass0 (pa_cons (pv 3) (pa_cons (pe_lst pa_nil) pa_nil))))
  (pss_cons (ps_set (i := 6) scLaw.nd rfl (Or.inl rfl) (pe_makeH HC hr4 rfl pass0 (pa_cons (pv 5) pa_nil)))
  (pss_cons (ps_dput hu (pv 5) (pe_ix ix_list (pv 2) pe_int (fun _ _ => rfl)) (pe_op op_pow pe_int pe_int) rfl)
  (pss_cons (ps_set (i := 7) scLaw.nd rfl (Or.inl rfl) (pe_lst pa_nil))
  (pss_cons (ps_set (i := 8) scLaw.nd rfl (Or.inl rfl) pe_int)
  (pss_cons (ps_if (pt_not (pt_val (pe_callH GF hr rfl pass0 (pa_cons (pv 6) (pa_cons (pv 3) (pa_cons (pv 7) (pa_cons (pv 8) pa_nil)))))))
  (pss_one (ps_ret pe_bl))
  pss_nil)
  (pss_cons (ps_for PassesOwn.never rfl (pi_range1 (by rfl) T.n_range (pa_cons (pe_callH GD hr2 rfl pass0 (pa_cons (pv 1) (pa_cons pe_int pa_nil))) pa_nil)) (pg_name (i := 9) scLaw.nd rfl (Or.inl rfl))
  (pss_cons (ps_set (i := 10) scLaw.nd rfl (Or.inl rfl) (pe_callH GV hr3 rfl pass0 (pa_cons (pv 1) (pa_cons (pv 2) pa_nil))))
  (pss_cons (ps_if (pt_cmpR op_notN (pe_methH (pv 6) TC.cl MF hr3 pass0 (pa_cons (pv 10) pa_nil)) pe_non (nomark _))
  (pss_one (ps_ret pe_bl))
  pss_nil)
  (pss_cons (ps_set (i := 8) scLaw.nd rfl (Or.inl rfl) (pe_ifExp (pt_cmpR op_eq (pe_ix ix_tup (pv 10) pe_int (fun _ _ => rfl)) pe_str (nomark _)) pe_int (pe_op op_add (pv 8) pe_int)))
  (pss_cons (ps_if (pt_cmpR op_eq (pe_ix ix_tup (pv 10) pe_int (fun _ _ => rfl)) pe_str (nomark _))
  (pss_one (ps_set (i := 7) scLaw.nd rfl (Or.inl rfl) (pe_op op_cat (pv 7) (pe_lst (pa_cons (pe_slice sl_tup (pv 10) (po_some pe_int) po_none) pa_nil)))))
  pss_nil)
  (pss_cons (ps_if (pt_cmpR op_eq (pe_ix ix_tup (pv 10) pe_int (fun _ _ => rfl)) pe_str (nomark _))
  (pss_one (ps_set (i := 7) scLaw.nd rfl (Or.inl rfl) (pe_lst pa_nil)))
  pss_nil)
  (pss_cons (ps_if (pt_cmpR op_eq (pe_ix ix_tup (pv 10) pe_int (fun _ _ => rfl)) pe_str (nomark _))
  (pss_one (ps_dput hu (pv 3) (pe_ix ix_tup (pv 10) pe_int (fun _ _ => rfl)) (pe_ix ix_tup (pv 10) pe_int (fun _ _ => rfl)) rfl))
  pss_nil)
  (pss_one (ps_if (PW.pt (pw_and (pt_cmpR op_gt (pe_callH GD hr2 rfl pass0 (pa_cons (pv 1) (pa_cons pe_int pa_nil))) pe_int (nomark _)) (pw_and1 (pt_not (pt_val (pe_callH GF hr rfl pass0 (pa_cons (pv 6) (pa_cons (pv 3) (pa_cons (pv 7) (pa_cons (pv 8) pa_nil))))))))))
  (pss_one (ps_ret pe_bl))
  pss_nil)))))))))
  (pss_one (ps_ret (pe_callH GF hr rfl pass0 (pa_cons (pv 6) (pa_cons (pv 3) (pa_cons (pv 7) (pa_cons (pv 8) pa_nil)))))))))))))))))), ?_⟩
    refine ⟨_, rfl, a, ns0, rfl, hS, hlen, fun p c H1 s1 hp0 hc0 P1 => ?_⟩
    -- the names
    refine ⟨_, rfl, p, c, _, 0, rfl, P1, by decide, fun q all H2 okA lA P2 b2 hq e2 => ?_⟩
    refine ⟨_, rfl, p, c, _, _, 4, rfl, P2, by decide, by decide, by decide, fun r H3 r0 r1 P3 b3 => ?_⟩
    have q1 := strs_ne1 P2 e2
    have q2 := strs_ne2 P2 (by intro z; rw [z] at lA; cases lA) e2
    have e3 := b3 _ _ e2 q1 q2
    refine ⟨_, _, rfl, rfl, _, rfl, q, _, rfl, SqL.of e3, fun nl hnl => ?_⟩
    obtain ⟨m, hm⟩ : ∃ m : Nat, 1 + r = (m : Int) := ⟨(1 + r).toNat, by omega⟩
    rw [hm, cut_strs]
    obtain ⟨ns, ens⟩ : ∃ ns, ns = all.take m := ⟨_, rfl⟩
    rw [← ens]
    have okN : NamesOk ns := by
      rw [ens]
      exact ⟨okA.nd.sublist (List.take_sublist ..), fun x hx => okA.name x (List.mem_of_mem_take hx), fun x hx => okA.len x (List.mem_of_mem_take hx)⟩
    have lns : ns.length = m := by rw [ens, List.length_take, lA]; omega
    have nne : ns ≠ [] := fun z => by rw [z] at lns; simp at lns; omega
    have P4 := P3.same (same_new (o := .lst (ns.map V.str)) hnl)
    have n1 := P3.ne1 hnl
    have n2 := P3.ne2 hnl
    -- the values
    intro d hd
    have P5 := P4.same (same_new (o := .dK []) hd)
    have d1 := P4.ne1 hd
    have d2 := P4.ne2 hd
    have dnl := ne_of_none upd_same hd
    refine ⟨_, rfl, nl, rfl, ⟨_, SqL.of (by rw [upd_ne dnl]; exact upd_same)⟩, ?_⟩
    refine for_list (K := K) (a := nl) (xs := ns.map V.str) (fun i σ H' => ∃ (x : Option V) (l : Recs), σ = [some (.ref a), some (.ref p), some (.ref nl), some (.ref d), x, none, none, none, none, none, none] ∧ PoolAt H' p c (.int 30) (3 + i) ∧ H' nl = some (.lst (ns.map V.str)) ∧ H' d = some (.dK (kvOf l)) ∧ names l = ns.take i) ?_ (fun i σ H' _ h' => by obtain ⟨_, _, _, _, z, _⟩ := h'; exact SqL.of z) ?_ ?_
    · exact ⟨none, [], rfl, P5, by rw [upd_ne dnl, upd_same], upd_same, rfl⟩
    · rintro i v σ H6 hv ⟨x, l, rfl, P6, e6, d6, nl6⟩
      have hi : i < ns.length := by
        have z := (List.getElem?_eq_some_iff.mp hv).1
        rw [List.length_map] at z
        exact z
      rw [List.getElem?_map] at hv
      obtain ⟨z, hz⟩ : ∃ z, ns[i]? = some z := ⟨ns[i], by simp [hi]⟩
      rw [hz] at hv
      cases hv
      refine ⟨_, rfl, _, _, rfl, rfl, ⟨by decide, by decide, by decide⟩, p, c, _, _, _, rfl, P6, by omega, by decide, by decide, fun r6 H7 r60 r61 P7 b7 => ?_⟩
      refine ⟨_, _, rfl, rfl, ⟨by decide, by decide, by decide⟩, _, _, rfl, rfl, .inl ⟨by decide, by decide⟩, _, _, rfl, rfl, _, rfl, _, rfl, d, _, rfl, DPut.k (k := Sum.inr z) (b7 _ _ d6 d1 d2) ?_, ?_⟩
      · unfold kvOf
        rw [List.length_map]
        have q : l.length = (names l).length := (List.length_map ..).symm
        rw [nl6, List.length_take] at q
        exact small1000 (by omega)
      · have nz : z ∉ names l := by rw [nl6]; exact not_take okN.nd hz
        refine ⟨_, l ++ [(z, _)], rfl, (P7.upd d1 d2).mono (by omega), by rw [upd_ne dnl]; exact b7 _ _ e6 n1 n2, by rw [upd_same, putK_more _ nz], ?_⟩
        unfold names
        rw [List.map_append]
        show names l ++ [z] = _
        rw [nl6, take_snoc hz]
    · rintro σ H6 ⟨x, l, rfl, P6, e6, d6, nl6⟩
      rw [List.length_map, List.take_length] at nl6
      have ll : l.length = ns.length := by rw [← nl6]; exact (List.length_map ..).symm
      have l4 : l.length ≤ 4 := by omega
      have gl0 : GoodR l := ⟨by rw [nl6]; exact okN.nd, by omega, fun n hn => by rw [nl6] at hn; exact ⟨okN.name n hn, Nat.le_trans (okN.len n hn) (by decide)⟩⟩
      rw [List.length_map] at P6
      -- given
      refine ⟨_, rfl, (by show 0 ≤ sizeLine; decide), fun q7 hq7 => ?_⟩
      have s7 := same_new (o := .lst []) hq7
      refine ⟨d, q7, l, [], [], rfl, s7 _ _ d6, upd_same, .nil, gl0.1, by omega, by decide, (fun _ z => nomatch z), fun g0 H8 s8 f8 e8 => ?_⟩
      have e8 : H8 g0 = some (.dK (kvOf l)) := e8
      have t8 := s7.trans s8
      have P8 := P6.same t8
      have f8' : H6 g0 = none := s7.free f8
      -- Store(given)
      refine ⟨_, rfl, fun S dS hS' hdS ne => ?_⟩
      have s9 : Same H8 (upd (upd H8 dS (.own S)) S (.ins C dS [])) := fun b o z => by
        rw [upd_ne (ne_of_none z hS'), upd_ne (ne_of_none z hdS)]
        exact z
      have P9 := P8.same s9
      have m4 : ∀ b ∈ [d, p, c, g0], ∀ {Hx : Hp}, Same H8 Hx → (∃ kv, Hx b = some (.dK kv)) ∨ ∃ x, Hx b = some (.lst x) := by
        intro b hb Hx sx
        obtain ⟨⟨x1, h1⟩, ⟨x2, h2⟩⟩ := P8.lst
        simp only [List.mem_cons, List.not_mem_nil, or_false] at hb
        rcases hb with rfl | rfl | rfl | rfl
        · exact .inl ⟨_, sx _ _ (t8 _ _ d6)⟩
        · exact .inr ⟨_, sx _ _ h1⟩
        · exact .inr ⟨_, sx _ _ h2⟩
        · exact .inl ⟨_, sx _ _ e8⟩
      refine ⟨[d, p, c, g0], S, g0, dS, l, rfl, av_of fun b hb => m4 b hb s9, upd_same, s9 _ _ e8, gl0, fun wl H10 hw st10 kp => ⟨rfl, ?_⟩⟩
      have s10 : Same H8 H10 := fun b o z => kp b o (s9 b o z) (ne_of_none z hS')
      have t10 := t8.trans s10
      have P10 := P8.same s10
      have nlw : nl ≠ wl := ne_of_none (s9 _ _ (t8 _ _ e6)) hw
      -- given[names[0]] = ..
      obtain ⟨z0, hz0⟩ : ∃ z, ns[0]? = some z := by
        cases e : ns with
        | nil => exact absurd e nne
        | cons z r => exact ⟨z, rfl⟩
      refine ⟨_, _, rfl, rfl, ⟨by decide, by decide, by decide⟩, _, rfl, _, rfl, nl, _, _, _, rfl, rfl, SqL.of (t10 _ _ e6), atI_nat (j := 0) (by rw [List.getElem?_map, hz0]; rfl), g0, _, rfl, DPut.k (k := Sum.inr z0) (s10 _ _ e8) ?_, ?_⟩
      · unfold kvOf
        rw [List.length_map]
        exact small1000 (by omega)
      have p0 : p ≠ g0 := by
        obtain ⟨⟨x1, h1⟩, _⟩ := P6.lst
        exact ne_of_none h1 f8'
      have c0 : c ≠ g0 := by
        obtain ⟨_, ⟨x1, h1⟩⟩ := P6.lst
        exact ne_of_none h1 f8'
      have d0 : d ≠ g0 := ne_of_none d6 f8'
      have nl0 : nl ≠ g0 := ne_of_none e6 f8'
      obtain ⟨H11, e11⟩ : ∃ H11, H11 = upd H10 g0 (.dK (putK (kvOf l) (Sum.inr z0) (V.int (10 ^ Int.toNat 13)))) := ⟨_, rfl⟩
      have st11 : StoreAt C [d, p, c] H11 S wl l [] [] := by
        refine (st10.but (H' := H11) (fun b hb => m4 b hb s10) fun b o z hb => ?_).sub fun b hb => ?_
        · rw [e11, upd_ne (fun y => hb (by rw [y]; simp))]
          exact z
        · simp only [List.mem_cons, List.not_mem_nil, or_false] at hb ⊢
          rcases hb with q | q | q
          · exact .inl q
          · exact .inr (.inl q)
          · exact .inr (.inr (.inl q))
      have P11 : PoolAt H11 p c (.int 30) (3 + ns.length) := by rw [e11]; exact P10.upd p0.symm c0.symm
      have d11 : H11 d = some (.dK (kvOf l)) := by rw [e11, upd_ne d0]; exact t10 _ _ d6
      have n11 : H11 nl = some (.lst (ns.map V.str)) := by rw [e11, upd_ne nl0]; exact t10 _ _ e6
      rw [← e11]
      -- log = []; pending = 0; fits
      refine ⟨(by show 0 ≤ sizeLine; decide), fun gl hgl => ?_⟩
      have s12 := same_new (o := .lst []) hgl
      have glA : gl ∉ [d, p, c] := (av_of (av3 P11 d11)).new hgl
      have glw : gl ≠ wl := by
        obtain ⟨_, _, _, _, _, q, _⟩ := st11
        exact (ne_of_none q hgl).symm
      have wf0 : WellS l [] [] := ⟨gl0, by decide, (fun _ z => nomatch z), (fun _ z => nomatch z)⟩
      refine ⟨_, rfl, _, rfl, _, rfl, _, rfl, [d, p, c], S, wl, d, gl, l, [], [], [], rfl, (av_of (av3 P11 d11)).same s12, st11.same s12, wf0, by omega, s12 _ _ d11, upd_same, .nil, fun H13 s13 => ⟨true, rfl, ?_⟩⟩
      have t13 := s12.trans s13
      -- the loop
      refine ⟨_, rfl, p, c, _, _, 41, rfl, P11.same t13, by omega, by decide, by decide, fun r14 H14 r140 r141 P14 b14 => ?_⟩
      refine ⟨r14, rfl, by omega, by omega, ?_⟩
      have glp : gl ≠ p := fun z => glA (by rw [z]; simp)
      have glc : gl ≠ c := fun z => glA (by rw [z]; simp)
      have st13 := st11.same t13
      have st14 : StoreAt C [d, p, c] H14 S wl l [] [] := st13.but (av3 (P11.same t13) (t13 _ _ d11)) fun b o z hb => b14 b o z (fun y => hb (by rw [y]; simp)) (fun y => hb (by rw [y]; simp))
      refine for_range (lo := 0) (n := r14.toNat) (fun i σ H' => LInv C a p c nl d g0 S ns (100 + 10 * i) i σ H') ?_ ?_ ?_
      · exact ⟨wl, gl, l, [], l, [], [], [], _, _, _, rfl, P14.mono (by omega), b14 _ _ (t13 _ _ n11) n1 n2, b14 _ _ (t13 _ _ d11) d1 d2, b14 _ _ (s13 _ _ upd_same) glp glc, .nil, st14, rfl, gl0, by omega, nl6, by decide, (fun _ z => nomatch z), (fun _ z => nomatch z), glA, glw, nlw, nne⟩
      · rintro i σ H20 hi ⟨wl, gl, l, g, L, G, ws, xs, x4, x9, x10, rfl, P20, n20, d20, g20, r20, st20, ap, glR, ll10, nml, bnd, rn, we, glA, glw, nlw, nne⟩
        have i41 : i < 41 := by omega
        have n1' := strs_ne1 P20 n20
        have n2' := strs_ne2 P20 nne n20
        have d1' : d ≠ p := by
          obtain ⟨⟨_, q⟩, _⟩ := P20.lst
          exact ne_of d20 q (fun z => by cases z)
        have d2' : d ≠ c := by
          obtain ⟨_, ⟨_, q⟩⟩ := P20.lst
          exact ne_of d20 q (fun z => by cases z)
        have glp : gl ≠ p := fun z => glA (by rw [z]; simp)
        have glc : gl ≠ c := fun z => glA (by rw [z]; simp)
        have gld : gl ≠ d := fun z => glA (by rw [z]; simp)
        have lns4 : ns.length ≤ 1000 := by rw [← nml]; unfold names; rw [List.length_map]; omega
        refine ⟨_, rfl, _, rfl, p, c, nl, _, _, ns, rfl, P20, by omega, n20, nne, lns4, fun e ev H21 ein P21 b21 fe ee => ?_⟩
        have bb : ∀ b o, H20 b = some o → b ∉ [d, p, c] → H21 b = some o := fun b o z hb => b21 b o z (fun y => hb (by rw [y]; simp)) (fun y => hb (by rw [y]; simp))
        have st21 := st20.but (av3 P20 d20) bb
        have d21 := b21 _ _ d20 d1' d2'
        have n21 := b21 _ _ n20 n1' n2'
        have g21 := b21 _ _ g20 glp glc
        have rr : ∀ {Ha Hb : Hp}, But p c Ha Hb → PoolAt Ha p c (.int 30) (100 + 10 * i) → ∀ {v : V} {r : Str × Int}, RecAt Ha v r → RecAt Hb v r := fun {Ha Hb} bt Pa {v r} z => by
          obtain ⟨b, rfl, q⟩ := z
          obtain ⟨⟨_, y1⟩, ⟨_, y2⟩⟩ := Pa.lst
          exact ⟨b, rfl, bt b _ q (ne_of q y1 fun z => by cases z) (ne_of q y2 fun z => by cases z)⟩
        have r21 := Paired.mapP r20 fun _ _ z => rr b21 P20 z
        have wf : WellS l g ws := ⟨glR, by omega, rn, we⟩
        have eok : evOk l ev := by
          cases ev with
          | log n v => show n ∈ names l; rw [nml]; exact ein
          | write n v => show n ∈ names l; rw [nml]; exact ein
          | _ => trivial
        have enl : e ≠ nl := (ne_of_none n20 fe).symm
        obtain ⟨dx, sa, ys, x1, x2, x3, x4', x5, x6⟩ := id st21
        refine ⟨_, rfl, S, dx, _, rfl, x1, rfl, _, rfl, [d, p, c], S, wl, e, l, g, ws, ev, rfl, av_of (av3 P21 d21), st21, wf, ee, eok, fun wl' H22 hw b22 st22 => ?_⟩
        refine ⟨rfl, _, rfl, ?_⟩
        have notS : ∀ {b : Addr} {o : HO}, H21 b = some o → (∀ c d x, o ≠ .ins c d x) → b ≠ S := fun {b o} z no => ne_of z x1 (no _ _ _)
        have notW : ∀ {b : Addr} {o : HO}, H21 b = some o → (∀ x, o ≠ .lst x) → b ≠ wl := fun {b o} z no => ne_of z x3 (no _)
        obtain ⟨⟨yp, hyp⟩, ⟨yc, hyc⟩⟩ := P21.lst
        have pw : p ≠ wl := fun z => x6 (by rw [← z]; simp)
        have cw : c ≠ wl := fun z => x6 (by rw [← z]; simp)
        have dw : d ≠ wl := fun z => x6 (by rw [← z]; simp)
        have P22 : PoolAt H22 p c (.int 30) (100 + 10 * i + 3) := P21.but fun b o z hb => by
          rcases hb with rfl | rfl
          · exact b22 _ _ z (notS hyp fun _ _ _ q => by cases q) pw
          · exact b22 _ _ z (notS hyc fun _ _ _ q => by cases q) cw
        have d22 := b22 _ _ d21 (notS d21 fun _ _ _ q => by cases q) dw
        have n22 := b22 _ _ n21 (notS n21 fun _ _ _ q => by cases q) nlw
        have g22 := b22 _ _ g21 (notS g21 fun _ _ _ q => by cases q) glw
        have e22 := b22 _ _ ee (notS ee fun _ _ _ q => by cases q) (notW ee fun _ q => by cases q)
        have r22 : Paired (RecAt H22) xs G := Paired.mapP r21 fun v r z => by
          obtain ⟨b, rfl, q⟩ := z
          exact ⟨b, rfl, b22 _ _ q (notS q fun _ _ _ q => by cases q) (notW q fun _ q => by cases q)⟩
        have nlw' : nl ≠ wl' := by
          rcases hw with q | q
          · rw [q]; exact nlw
          · exact ne_of_none n21 q
        have glw' : gl ≠ wl' := by
          rcases hw with q | q
          · rw [q]; exact glw
          · exact ne_of_none g21 q
        obtain ⟨w1, w2, w3, w4, w5⟩ := perf_well wf eok
        have ap2 := perf_apps l g ws ev
        have pend := perf_pend l g ws ev
        rw [ap] at ap2
        obtain ⟨l2, g2, ws2, e2⟩ : ∃ l2 g2 ws2, perf l g ws ev = (l2, g2, ws2) := ⟨_, _, _, rfl⟩
        rw [e2] at st22 w1 w2 w3 w4 w5 ap2 pend
        simp only at st22 w1 w2 w3 w4 w5 ap2 pend
        have glR2 : GoodR l2 := glR.of_names w1 w2
        have nmL : names L = ns := by
          have q := (apps_inv (l, g) ws).1
          rw [ap] at q
          exact q.trans nml
        have nm2 : names l2 = ns := w1.trans nml
        obtain ⟨x0, xr, exs⟩ := evV_ne ev
        have a0 : atI (evV ev) 0 = some (.str x0) := by rw [exs]; exact atI_nat (j := 0) rfl
        refine ⟨_, rfl, e, _, _, _, rfl, rfl, SqT.of e22, a0, rfl, _, rfl, ?_⟩
        cases ev with
        | flush =>
          cases exs
          refine iteS (by decide +kernel) ?_
          have q0 : ws2 = [] := by
            have z := congrArg (fun x => x.2.2) e2
            exact z.symm
          subst q0
          refine ⟨_, rfl, e, _, _, _, rfl, rfl, SqT.of e22, a0, rfl, _, rfl, iteE (by decide +kernel) ?_⟩
          refine ⟨_, rfl, e, _, _, _, rfl, rfl, SqT.of e22, a0, rfl, _, rfl, iteE (by decide +kernel) ?_⟩
          refine ⟨_, rfl, e, _, _, _, rfl, rfl, SqT.of e22, a0, rfl, _, rfl, iteE (by decide +kernel) ?_⟩
          exact tail_ok ⟨wl', gl, l2, g2, L, G, [], xs, _, _, _, rfl, P22, n22, d22, g22, r22, st22, ap2, glR2, by omega, nm2, by omega, w4, w5, glA, glw', nlw', nne⟩ i41 fun _ _ q => q
        | log n v =>
          cases exs
          refine iteE (by decide +kernel) ?_
          have pd := pend (by intro z; cases z)
          refine ⟨_, rfl, _, _, rfl, rfl, ?_⟩
          refine ⟨_, rfl, e, _, _, _, rfl, rfl, SqT.of e22, a0, rfl, _, rfl, iteS (by decide +kernel) ?_⟩
          refine ⟨_, rfl, _, rfl, _, rfl, e, _, rfl, SqT.of e22, (fun z => absurd z.1 (show ¬ HT.sIx 3 0 (some 1) = 0 by decide)), fun t1 ht1 => ?_⟩
          have ecut : cutV (evV (.log n v)) (some 1) none = [.str n, .int v] := rfl
          rw [ecut]
          refine ⟨(by show 1 ≤ sizeLine; decide), fun t2 ht2 => ?_⟩
          have s1 := same_new (o := .tup [.str n, .int v]) ht1
          have s2 := same_new (o := .lst [.ref t1]) ht2
          have lx : xs.length = G.length := Paired.length r22
          have lG : G.length ≤ i := by
            have q := (apps_inv (l, g) ws).2.2
            rw [ap] at q
            simp only at q
            omega
          refine ⟨gl, t2, _, _, rfl, rfl, (s1.trans s2) _ _ g22, upd_same, Nat.le_of_lt (small1000 (by show xs.length + 1 ≤ 1000; omega)), fun t3 ht3 => ?_⟩
          have s3 := same_new (o := .lst (xs ++ [.ref t1])) ht3
          have s4 := (s1.trans s2).trans s3
          refine ⟨_, rfl, e, _, _, _, rfl, rfl, SqT.of (s4 _ _ e22), a0, rfl, _, rfl, iteE (by decide +kernel) ?_⟩
          refine ⟨_, rfl, e, _, _, _, rfl, rfl, SqT.of (s4 _ _ e22), a0, rfl, _, rfl, iteE (by decide +kernel) ?_⟩
          have f3 : H22 t3 = none := (s1.trans s2).free ht3
          have et1 : RecAt (upd (upd (upd H22 t1 (.tup [.str n, .int v])) t2 (.lst [.ref t1])) t3 (.lst (xs ++ [.ref t1]))) (.ref t1) (n, v) := ⟨t1, rfl, (s2.trans s3) _ _ upd_same⟩
          have wl3 : t3 ≠ wl' := by
            obtain ⟨_, _, _, _, _, q, _⟩ := st22
            exact (ne_of_none q f3).symm
          exact tail_ok ⟨wl', t3, l2, g2, L, G ++ [(n, v)], ws2, xs ++ [.ref t1], _, _, _, by rw [pd]; rfl, P22.same s4, s4 _ _ n22, s4 _ _ d22, upd_same, Paired.snoc (Paired.mapP r22 fun _ _ z => z.same s4) et1, st22.same s4, ap2, glR2, by omega, nm2, by omega, w4, w5, (av_of (av3 P22 d22)).new f3, wl3, nlw', nne⟩ i41 fun _ _ q => q
        | write n v =>
          cases exs
          refine iteE (by decide +kernel) ?_
          have pd := pend (by intro z; cases z)
          refine ⟨_, rfl, _, _, rfl, rfl, ?_⟩
          refine ⟨_, rfl, e, _, _, _, rfl, rfl, SqT.of e22, a0, rfl, _, rfl, iteE (by decide +kernel) ?_⟩
          refine ⟨_, rfl, e, _, _, _, rfl, rfl, SqT.of e22, a0, rfl, _, rfl, iteE (by decide +kernel) ?_⟩
          refine ⟨_, rfl, e, _, _, _, rfl, rfl, SqT.of e22, a0, rfl, _, rfl, iteS (by decide +kernel) ?_⟩
          have nL : n ∈ names L := by rw [nmL]; exact ein
          refine ⟨_, rfl, e, _, _, _, rfl, rfl, SqT.of e22, rfl, _, rfl, _, rfl, e, _, _, _, rfl, rfl, SqT.of e22, rfl, d, _, rfl, DPut.k (k := Sum.inr n) d22 ?_, ?_⟩
          · unfold kvOf
            rw [List.length_map]
            have q := (apps_inv (l, g) ws).2.1
            rw [ap] at q
            simp only at q
            exact small1000 (by omega)
          rw [putK_kvOf v nL]
          have nd : ∀ {b : Addr} {o : HO}, H22 b = some o → b ≠ d → upd H22 d (.dK (kvOf (setR L n v))) b = some o := fun z hb => by rw [upd_ne hb]; exact z
          exact tail_ok ⟨wl', gl, l2, g2, setR L n v, G, ws2, xs, _, _, _, by rw [pd]; rfl, P22.upd d1' d2', nd n22 (ne_of n22 d22 fun z => by cases z), upd_same, nd g22 gld, Paired.mapP r22 (fun v r z => let ⟨b, e, q⟩ := z; ⟨b, e, nd q (ne_of q d22 fun z => by cases z)⟩), st22.but (av3 P22 d22) (fun b o z hb => nd z fun y => hb (by rw [y]; simp)), ap2, glR2, by omega, nm2, by omega, w4, w5, glA, glw', nlw', nne⟩ i41 fun _ _ q => q
        | clear =>
          cases exs
          refine iteE (by decide +kernel) ?_
          have pd := pend (by intro z; cases z)
          refine ⟨_, rfl, _, _, rfl, rfl, ?_⟩
          refine ⟨_, rfl, e, _, _, _, rfl, rfl, SqT.of e22, a0, rfl, _, rfl, iteE (by decide +kernel) ?_⟩
          refine ⟨_, rfl, e, _, _, _, rfl, rfl, SqT.of e22, a0, rfl, _, rfl, iteS (by decide +kernel) ?_⟩
          refine ⟨(by show 0 ≤ sizeLine; decide), fun t3 f3 => ?_⟩
          have s4 := same_new (o := .lst []) f3
          refine ⟨_, rfl, e, _, _, _, rfl, rfl, SqT.of (s4 _ _ e22), a0, rfl, _, rfl, iteE (by decide +kernel) ?_⟩
          have wl3 : t3 ≠ wl' := by
            obtain ⟨_, _, _, _, _, q, _⟩ := st22
            exact (ne_of_none q f3).symm
          exact tail_ok ⟨wl', t3, l2, g2, L, [], ws2, [], _, _, _, by rw [pd]; rfl, P22.same s4, s4 _ _ n22, s4 _ _ d22, upd_same, .nil, st22.same s4, ap2, glR2, by omega, nm2, by omega, w4, w5, (av_of (av3 P22 d22)).new f3, wl3, nlw', nne⟩ i41 fun _ _ q => q
      · rintro σ H20 ⟨wl, gl, l, g, L, G, ws, xs, x4, x9, x10, rfl, P20, n20, d20, g20, r20, st20, ap, glR, ll10, nml, bnd, rn, we, glA, glw, nlw, nne⟩
        have wf : WellS l g ws := ⟨glR, by omega, rn, we⟩
        exact ⟨_, rfl, _, rfl, _, rfl, _, rfl, [d, p, c], S, wl, d, gl, l, g, ws, xs, rfl, av_of (av3 P20 d20), st20, wf, by omega, by rw [ap]; exact d20, g20, by rw [ap]; exact r20, fun H21 s21 => k H21⟩
end

theorem all_mk {l : PySem.W.OpenLaw} {w : World} {K : PySem.W.Frag} {h : Heap} {mg : Str → Option Value} {fa fMixed fDraw fPool fIsName fIsInt fIsVals fIsEvt fApp fNames fEvent fLRec fFits fLaw a_KEYWORDS CStore fSInit fSPerf fSSeen fSCur fSLog fSRec fSPend ppSPend : Addr} (X : K.In h) (G : h.Ns mainGlobals mg) (hfa : mg "law" = some (.ref fa))
    {odMixed anMixed : Option Addr} {slMixed : Array (Option Value)} {ocMixed kVMixed dcMixed pmMixed cdMixed ctMixed : Value}
    (aMixed : PySem.W.nsIn K mainGlobals "_law_mixed" = some (some (.ref fMixed))) (lMixed : K.lookup fMixed = some ⟨ocMixed, odMixed, .func (PySem.W.fnOf "_law_mixed" "_law_mixed" (defArgs sMixed) (defBody sMixed) (defScope sMixed) .none kVMixed dcMixed pmMixed anMixed cdMixed ctMixed), slMixed⟩) (cMixed : PySem.W.codeIn K cdMixed "_law_mixed" = true) (kMixed : PySem.W.keepIn K (.ref fMixed) = true)
    {odDraw anDraw : Option Addr} {slDraw : Array (Option Value)} {ocDraw kVDraw dcDraw pmDraw cdDraw ctDraw : Value}
    (aDraw : PySem.W.nsIn K mainGlobals "_law_draw" = some (some (.ref fDraw))) (lDraw : K.lookup fDraw = some ⟨ocDraw, odDraw, .func (PySem.W.fnOf "_law_draw" "_law_draw" (defArgs sDraw) (defBody sDraw) (defScope sDraw) .none kVDraw dcDraw pmDraw anDraw cdDraw ctDraw), slDraw⟩) (cDraw : PySem.W.codeIn K cdDraw "_law_draw" = true) (kDraw : PySem.W.keepIn K (.ref fDraw) = true)
    {odPool anPool : Option Addr} {slPool : Array (Option Value)} {ocPool kVPool dcPool pmPool cdPool ctPool : Value}
    (aPool : PySem.W.nsIn K mainGlobals "_law_pool" = some (some (.ref fPool))) (lPool : K.lookup fPool = some ⟨ocPool, odPool, .func (PySem.W.fnOf "_law_pool" "_law_pool" (defArgs sPool) (defBody sPool) (defScope sPool) .none kVPool dcPool pmPool anPool cdPool ctPool), slPool⟩) (cPool : PySem.W.codeIn K cdPool "_law_pool" = true) (kPool : PySem.W.keepIn K (.ref fPool) = true)
    {odIsName anIsName : Option Addr} {slIsName : Array (Option Value)} {ocIsName kVIsName dcIsName pmIsName cdIsName ctIsName : Value}
    (aIsName : PySem.W.nsIn K mainGlobals "is_name" = some (some (.ref fIsName))) (lIsName : K.lookup fIsName = some ⟨ocIsName, odIsName, .func (PySem.W.fnOf "is_name" "is_name" (defArgs sIsName) (defBody sIsName) (defScope sIsName) .none kVIsName dcIsName pmIsName anIsName cdIsName ctIsName), slIsName⟩) (cIsName : PySem.W.codeIn K cdIsName "is_name" = true) (kIsName : PySem.W.keepIn K (.ref fIsName) = true)
    {odIsInt anIsInt : Option Addr} {slIsInt : Array (Option Value)} {ocIsInt kVIsInt dcIsInt pmIsInt cdIsInt ctIsInt : Value}
    (aIsInt : PySem.W.nsIn K mainGlobals "is_integer" = some (some (.ref fIsInt))) (lIsInt : K.lookup fIsInt = some ⟨ocIsInt, odIsInt, .func (PySem.W.fnOf "is_integer" "is_integer" (defArgs sIsInt) (defBody sIsInt) (defScope sIsInt) .none kVIsInt dcIsInt pmIsInt anIsInt cdIsInt ctIsInt), slIsInt⟩) (cIsInt : PySem.W.codeIn K cdIsInt "is_integer" = true) (kIsInt : PySem.W.keepIn K (.ref fIsInt) = true)
    {odIsVals anIsVals : Option Addr} {slIsVals : Array (Option Value)} {ocIsVals kVIsVals dcIsVals pmIsVals cdIsVals ctIsVals : Value}
    (aIsVals : PySem.W.nsIn K mainGlobals "is_values" = some (some (.ref fIsVals))) (lIsVals : K.lookup fIsVals = some ⟨ocIsVals, odIsVals, .func (PySem.W.fnOf "is_values" "is_values" (defArgs sIsVals) (defBody sIsVals) (defScope sIsVals) .none kVIsVals dcIsVals pmIsVals anIsVals cdIsVals ctIsVals), slIsVals⟩) (cIsVals : PySem.W.codeIn K cdIsVals "is_values" = true) (kIsVals : PySem.W.keepIn K (.ref fIsVals) = true)
    {odIsEvt anIsEvt : Option Addr} {slIsEvt : Array (Option Value)} {ocIsEvt kVIsEvt dcIsEvt pmIsEvt cdIsEvt ctIsEvt : Value}
    (aIsEvt : PySem.W.nsIn K mainGlobals "is_event" = some (some (.ref fIsEvt))) (lIsEvt : K.lookup fIsEvt = some ⟨ocIsEvt, odIsEvt, .func (PySem.W.fnOf "is_event" "is_event" (defArgs sIsEvt) (defBody sIsEvt) (defScope sIsEvt) .none kVIsEvt dcIsEvt pmIsEvt anIsEvt cdIsEvt ctIsEvt), slIsEvt⟩) (cIsEvt : PySem.W.codeIn K cdIsEvt "is_event" = true) (kIsEvt : PySem.W.keepIn K (.ref fIsEvt) = true)
    {odApp anApp : Option Addr} {slApp : Array (Option Value)} {ocApp kVApp dcApp pmApp cdApp ctApp : Value}
    (aApp : PySem.W.nsIn K mainGlobals "applied" = some (some (.ref fApp))) (lApp : K.lookup fApp = some ⟨ocApp, odApp, .func (PySem.W.fnOf "applied" "applied" (defArgs sApp) (defBody sApp) (defScope sApp) .none kVApp dcApp pmApp anApp cdApp ctApp), slApp⟩) (cApp : PySem.W.codeIn K cdApp "applied" = true) (kApp : PySem.W.keepIn K (.ref fApp) = true)
    {odNames anNames : Option Addr} {slNames : Array (Option Value)} {ocNames kVNames dcNames pmNames cdNames ctNames : Value}
    (aNames : PySem.W.nsIn K mainGlobals "_law_names" = some (some (.ref fNames))) (lNames : K.lookup fNames = some ⟨ocNames, odNames, .func (PySem.W.fnOf "_law_names" "_law_names" (defArgs sNames) (defBody sNames) (defScope sNames) .none kVNames dcNames pmNames anNames cdNames ctNames), slNames⟩) (cNames : PySem.W.codeIn K cdNames "_law_names" = true) (kNames : PySem.W.keepIn K (.ref fNames) = true)
    {odEvent anEvent : Option Addr} {slEvent : Array (Option Value)} {ocEvent kVEvent dcEvent pmEvent cdEvent ctEvent : Value}
    (aEvent : PySem.W.nsIn K mainGlobals "_law_event" = some (some (.ref fEvent))) (lEvent : K.lookup fEvent = some ⟨ocEvent, odEvent, .func (PySem.W.fnOf "_law_event" "_law_event" (defArgs sEvent) (defBody sEvent) (defScope sEvent) .none kVEvent dcEvent pmEvent anEvent cdEvent ctEvent), slEvent⟩) (cEvent : PySem.W.codeIn K cdEvent "_law_event" = true) (kEvent : PySem.W.keepIn K (.ref fEvent) = true)
    {odLRec anLRec : Option Addr} {slLRec : Array (Option Value)} {ocLRec kVLRec dcLRec pmLRec cdLRec ctLRec : Value}
    (aLRec : PySem.W.nsIn K mainGlobals "_law_recovered" = some (some (.ref fLRec))) (lLRec : K.lookup fLRec = some ⟨ocLRec, odLRec, .func (PySem.W.fnOf "_law_recovered" "_law_recovered" (defArgs sLRec) (defBody sLRec) (defScope sLRec) .none kVLRec dcLRec pmLRec anLRec cdLRec ctLRec), slLRec⟩) (cLRec : PySem.W.codeIn K cdLRec "_law_recovered" = true) (kLRec : PySem.W.keepIn K (.ref fLRec) = true)
    {odFits anFits : Option Addr} {slFits : Array (Option Value)} {ocFits kVFits dcFits pmFits cdFits ctFits : Value}
    (aFits : PySem.W.nsIn K mainGlobals "_law_fits" = some (some (.ref fFits))) (lFits : K.lookup fFits = some ⟨ocFits, odFits, .func (PySem.W.fnOf "_law_fits" "_law_fits" (defArgs sFits) (defBody sFits) (defScope sFits) .none kVFits dcFits pmFits anFits cdFits ctFits), slFits⟩) (cFits : PySem.W.codeIn K cdFits "_law_fits" = true) (kFits : PySem.W.keepIn K (.ref fFits) = true)
    {odLaw anLaw : Option Addr} {slLaw : Array (Option Value)} {ocLaw kVLaw dcLaw pmLaw cdLaw ctLaw : Value}
    (aLaw : PySem.W.nsIn K mainGlobals "law" = some (some (.ref fLaw))) (lLaw : K.lookup fLaw = some ⟨ocLaw, odLaw, .func (PySem.W.fnOf "law" "law" (defArgs sLaw) (defBody sLaw) (defScope sLaw) .none kVLaw dcLaw pmLaw anLaw cdLaw ctLaw), slLaw⟩) (cLaw : PySem.W.codeIn K cdLaw "law" = true) (kLaw : PySem.W.keepIn K (.ref fLaw) = true)
    (aStore : PySem.W.nsIn K mainGlobals "Store" = some (some (.ref CStore)))
    (pgStore : PySem.W.plainGet K CStore Str.empty = true) (hdStore : PySem.W.hasDictIn K CStore = true) (poStore : PySem.W.plainOver K CStore = true) (saStore : PySem.W.findIn K (.ref CStore) "__setattr__" = some (some (.builtin "object.__setattr__"))) (mkStore : PySem.W.makesIn K CStore = true) (kcStore : PySem.W.keepIn K (.ref CStore) = true)
    (noStore_state : PySem.W.findIn K (.ref CStore) "state" = some none)
    (noStore_waiting : PySem.W.findIn K (.ref CStore) "waiting" = some none)
    {odSInit anSInit : Option Addr} {slSInit : Array (Option Value)} {ocSInit kVSInit dcSInit pmSInit cdSInit ctSInit : Value}
    (aSInit : PySem.W.findIn K (.ref CStore) "__init__" = some (some (.ref fSInit))) (iSInit : PySem.W.isFn K (.ref fSInit) = true)
    (lSInit : K.lookup fSInit = some ⟨ocSInit, odSInit, .func (PySem.W.fnOf "__init__" "Store.__init__" (defArgs sSInit) (defBody sSInit) (defScope sSInit) .none kVSInit dcSInit pmSInit anSInit cdSInit ctSInit), slSInit⟩) (cSInit : PySem.W.codeIn K cdSInit "Store.__init__" = true) (kSInit : PySem.W.keepIn K (.ref fSInit) = true)
    {odSPerf anSPerf : Option Addr} {slSPerf : Array (Option Value)} {ocSPerf kVSPerf dcSPerf pmSPerf cdSPerf ctSPerf : Value}
    (aSPerf : PySem.W.findIn K (.ref CStore) "perform" = some (some (.ref fSPerf))) (iSPerf : PySem.W.isFn K (.ref fSPerf) = true)
    (lSPerf : K.lookup fSPerf = some ⟨ocSPerf, odSPerf, .func (PySem.W.fnOf "perform" "Store.perform" (defArgs sSPerf) (defBody sSPerf) (defScope sSPerf) .none kVSPerf dcSPerf pmSPerf anSPerf cdSPerf ctSPerf), slSPerf⟩) (cSPerf : PySem.W.codeIn K cdSPerf "Store.perform" = true) (kSPerf : PySem.W.keepIn K (.ref fSPerf) = true)
    {odSSeen anSSeen : Option Addr} {slSSeen : Array (Option Value)} {ocSSeen kVSSeen dcSSeen pmSSeen cdSSeen ctSSeen : Value}
    (aSSeen : PySem.W.findIn K (.ref CStore) "seen" = some (some (.ref fSSeen))) (iSSeen : PySem.W.isFn K (.ref fSSeen) = true)
    (lSSeen : K.lookup fSSeen = some ⟨ocSSeen, odSSeen, .func (PySem.W.fnOf "seen" "Store.seen" (defArgs sSSeen) (defBody sSSeen) (defScope sSSeen) .none kVSSeen dcSSeen pmSSeen anSSeen cdSSeen ctSSeen), slSSeen⟩) (cSSeen : PySem.W.codeIn K cdSSeen "Store.seen" = true) (kSSeen : PySem.W.keepIn K (.ref fSSeen) = true)
    {odSCur anSCur : Option Addr} {slSCur : Array (Option Value)} {ocSCur kVSCur dcSCur pmSCur cdSCur ctSCur : Value}
    (aSCur : PySem.W.findIn K (.ref CStore) "current" = some (some (.ref fSCur))) (iSCur : PySem.W.isFn K (.ref fSCur) = true)
    (lSCur : K.lookup fSCur = some ⟨ocSCur, odSCur, .func (PySem.W.fnOf "current" "Store.current" (defArgs sSCur) (defBody sSCur) (defScope sSCur) .none kVSCur dcSCur pmSCur anSCur cdSCur ctSCur), slSCur⟩) (cSCur : PySem.W.codeIn K cdSCur "Store.current" = true) (kSCur : PySem.W.keepIn K (.ref fSCur) = true)
    {odSLog anSLog : Option Addr} {slSLog : Array (Option Value)} {ocSLog kVSLog dcSLog pmSLog cdSLog ctSLog : Value}
    (aSLog : PySem.W.findIn K (.ref CStore) "log" = some (some (.ref fSLog))) (iSLog : PySem.W.isFn K (.ref fSLog) = true)
    (lSLog : K.lookup fSLog = some ⟨ocSLog, odSLog, .func (PySem.W.fnOf "log" "Store.log" (defArgs sSLog) (defBody sSLog) (defScope sSLog) .none kVSLog dcSLog pmSLog anSLog cdSLog ctSLog), slSLog⟩) (cSLog : PySem.W.codeIn K cdSLog "Store.log" = true) (kSLog : PySem.W.keepIn K (.ref fSLog) = true)
    {odSRec anSRec : Option Addr} {slSRec : Array (Option Value)} {ocSRec kVSRec dcSRec pmSRec cdSRec ctSRec : Value}
    (aSRec : PySem.W.findIn K (.ref CStore) "recovered" = some (some (.ref fSRec))) (iSRec : PySem.W.isFn K (.ref fSRec) = true)
    (lSRec : K.lookup fSRec = some ⟨ocSRec, odSRec, .func (PySem.W.fnOf "recovered" "Store.recovered" (defArgs sSRec) (defBody sSRec) (defScope sSRec) .none kVSRec dcSRec pmSRec anSRec cdSRec ctSRec), slSRec⟩) (cSRec : PySem.W.codeIn K cdSRec "Store.recovered" = true) (kSRec : PySem.W.keepIn K (.ref fSRec) = true)
    {odSPend anSPend : Option Addr} {slSPend : Array (Option Value)} {ocSPend kVSPend dcSPend pmSPend cdSPend ctSPend : Value}
    {restSPend : List Value} (aSPend : PySem.W.findIn K (.ref CStore) "pending" = some (some (.ref ppSPend))) (iSPend : PySem.W.specialIn K (.ref ppSPend) "__get__" = some (some (.builtin "property.__get__"))) (tSPend : PySem.W.takesIn K (.ref ppSPend) = some true) (rSPend : PySem.W.recIn K ppSPend "property" = some (.ref fSPend :: restSPend))
    (lSPend : K.lookup fSPend = some ⟨ocSPend, odSPend, .func (PySem.W.fnOf "pending" "Store.pending" (defArgs sSPend) (defBody sSPend) (defScope sSPend) .none kVSPend dcSPend pmSPend anSPend cdSPend ctSPend), slSPend⟩) (cSPend : PySem.W.codeIn K cdSPend "Store.pending" = true) (kSPend : PySem.W.keepIn K (.ref fSPend) = true)
    (n_int : PySem.W.nsIn K mainGlobals "int" = some none)
    (n_len : PySem.W.nsIn K mainGlobals "len" = some none)
    (n_isinstance : PySem.W.nsIn K mainGlobals "isinstance" = some none)
    (n_str : PySem.W.nsIn K mainGlobals "str" = some none)
    (n_all : PySem.W.nsIn K mainGlobals "all" = some none)
    (n_range : PySem.W.nsIn K mainGlobals "range" = some none)
    (n_bool : PySem.W.nsIn K mainGlobals "bool" = some none)
    (n_dict : PySem.W.nsIn K mainGlobals "dict" = some none)
    (n_tuple : PySem.W.nsIn K mainGlobals "tuple" = some none)
    (n_list : PySem.W.nsIn K mainGlobals "list" = some none)
    (n_reversed : PySem.W.nsIn K mainGlobals "reversed" = some none)
    {t_LETTERS : Tok} (c_LETTERS : PySem.W.nsIn K mainGlobals "LETTERS" = some (some (.str LET t_LETTERS)))
    {t_DIGITS : Tok} (c_DIGITS : PySem.W.nsIn K mainGlobals "DIGITS" = some (some (.str DIG t_DIGITS)))
    {t_KEYWORDS0 t_KEYWORDS1 t_KEYWORDS2 t_KEYWORDS3 t_KEYWORDS4 t_KEYWORDS5 t_KEYWORDS6 t_KEYWORDS7 t_KEYWORDS8 t_KEYWORDS9 t_KEYWORDS10 t_KEYWORDS11 t_KEYWORDS12 t_KEYWORDS13 t_KEYWORDS14 t_KEYWORDS15 : Tok} {od_KEYWORDS : Option Addr} {z_KEYWORDS : Nat} {sl_KEYWORDS : Array (Option Value)} (c_KEYWORDS : PySem.W.nsIn K mainGlobals "KEYWORDS" = some (some (.ref a_KEYWORDS))) (l_KEYWORDS : K.lookup a_KEYWORDS = some ⟨.type "tuple", od_KEYWORDS, .seq #[.str "globals" t_KEYWORDS0, .str "kinds" t_KEYWORDS1, .str "keep" t_KEYWORDS2, .str "def" t_KEYWORDS3, .str "if" t_KEYWORDS4, .str "else" t_KEYWORDS5, .str "while" t_KEYWORDS6, .str "risk" t_KEYWORDS7, .str "raise" t_KEYWORDS8, .str "try" t_KEYWORDS9, .str "except" t_KEYWORDS10, .str "finally" t_KEYWORDS11, .str "undo" t_KEYWORDS12, .str "with" t_KEYWORDS13, .str "swallow" t_KEYWORDS14, .str "return" t_KEYWORDS15] z_KEYWORDS, sl_KEYWORDS⟩)
    : ∃ fd : FuncData, (∀ (s : Shared) (v : Value), BindsTo s fd ⟨[v], []⟩ [("_law_script", v)]) ∧ ∀ base : Heap, K.In base → base.Ns mainGlobals mg → FnOk l.prog w K mg base CX0 7 fa fd PLaw (spLaw K) := by
  have e := hfa.symm.trans (PySem.W.mg_of X G aLaw)
  cases e
  have FMixed := fun_mk (st := sMixed) lMixed cMixed kMixed
  have bMixed := FMixed.binds (ps := PMixed) fun _ _ _ _ _ _ us hl => match us, hl with | [_, _, _], _ => rfl
  have gMixed := PySem.W.mg_of X G aMixed
  have FDraw := fun_mk (st := sDraw) lDraw cDraw kDraw
  have bDraw := FDraw.binds (ps := PDraw) fun _ _ _ _ _ _ us hl => match us, hl with | [_, _], _ => rfl
  have gDraw := PySem.W.mg_of X G aDraw
  have FPool := fun_mk (st := sPool) lPool cPool kPool
  have bPool := FPool.binds (ps := PPool) fun _ _ _ _ _ _ us hl => match us, hl with | [_], _ => rfl
  have gPool := PySem.W.mg_of X G aPool
  have FIsName := fun_mk (st := sIsName) lIsName cIsName kIsName
  have bIsName := FIsName.binds (ps := PIsName) fun _ _ _ _ _ _ us hl => match us, hl with | [_], _ => rfl
  have gIsName := PySem.W.mg_of X G aIsName
  have FIsInt := fun_mk (st := sIsInt) lIsInt cIsInt kIsInt
  have bIsInt := FIsInt.binds (ps := PIsInt) fun _ _ _ _ _ _ us hl => match us, hl with | [_], _ => rfl
  have gIsInt := PySem.W.mg_of X G aIsInt
  have FIsVals := fun_mk (st := sIsVals) lIsVals cIsVals kIsVals
  have bIsVals := FIsVals.binds (ps := PIsVals) fun _ _ _ _ _ _ us hl => match us, hl with | [_], _ => rfl
  have gIsVals := PySem.W.mg_of X G aIsVals
  have FIsEvt := fun_mk (st := sIsEvt) lIsEvt cIsEvt kIsEvt
  have bIsEvt := FIsEvt.binds (ps := PIsEvt) fun _ _ _ _ _ _ us hl => match us, hl with | [_, _], _ => rfl
  have gIsEvt := PySem.W.mg_of X G aIsEvt
  have FApp := fun_mk (st := sApp) lApp cApp kApp
  have bApp := FApp.binds (ps := PApp) fun _ _ _ _ _ _ us hl => match us, hl with | [_, _], _ => rfl
  have gApp := PySem.W.mg_of X G aApp
  have FNames := fun_mk (st := sNames) lNames cNames kNames
  have bNames := FNames.binds (ps := PNames) fun _ _ _ _ _ _ us hl => match us, hl with | [_], _ => rfl
  have gNames := PySem.W.mg_of X G aNames
  have FEvent := fun_mk (st := sEvent) lEvent cEvent kEvent
  have bEvent := FEvent.binds (ps := PEvent) fun _ _ _ _ _ _ us hl => match us, hl with | [_, _], _ => rfl
  have gEvent := PySem.W.mg_of X G aEvent
  have FLRec := fun_mk (st := sLRec) lLRec cLRec kLRec
  have bLRec := FLRec.binds (ps := PLRec) fun _ _ _ _ _ _ us hl => match us, hl with | [_, _], _ => rfl
  have gLRec := PySem.W.mg_of X G aLRec
  have FFits := fun_mk (st := sFits) lFits cFits kFits
  have bFits := FFits.binds (ps := PFits) fun _ _ _ _ _ _ us hl => match us, hl with | [_, _, _, _], _ => rfl
  have gFits := PySem.W.mg_of X G aFits
  have FLaw := fun_mk (st := sLaw) lLaw cLaw kLaw
  have bLaw := FLaw.binds (ps := PLaw) fun _ _ _ _ _ _ us hl => match us, hl with | [_], _ => rfl
  have gLaw := PySem.W.mg_of X G aLaw
  have gStore := PySem.W.mg_of X G aStore
  have clStore : Cls K CStore := ⟨pgStore, hdStore, poStore, saStore⟩
  have meSInit : Meth K CStore "__init__" fSInit := ⟨aSInit, iSInit, kSInit⟩
  have FSInit := fun_mk (st := sSInit) lSInit cSInit kSInit
  have bSInit := FSInit.binds (ps := PSInit) fun _ _ _ _ _ _ us hl => match us, hl with | [_, _], _ => rfl
  have meSPerf : Meth K CStore "perform" fSPerf := ⟨aSPerf, iSPerf, kSPerf⟩
  have FSPerf := fun_mk (st := sSPerf) lSPerf cSPerf kSPerf
  have bSPerf := FSPerf.binds (ps := PSPerf) fun _ _ _ _ _ _ us hl => match us, hl with | [_, _], _ => rfl
  have meSSeen : Meth K CStore "seen" fSSeen := ⟨aSSeen, iSSeen, kSSeen⟩
  have FSSeen := fun_mk (st := sSSeen) lSSeen cSSeen kSSeen
  have bSSeen := FSSeen.binds (ps := PSSeen) fun _ _ _ _ _ _ us hl => match us, hl with | [_], _ => rfl
  have meSCur : Meth K CStore "current" fSCur := ⟨aSCur, iSCur, kSCur⟩
  have FSCur := fun_mk (st := sSCur) lSCur cSCur kSCur
  have bSCur := FSCur.binds (ps := PSCur) fun _ _ _ _ _ _ us hl => match us, hl with | [_], _ => rfl
  have meSLog : Meth K CStore "log" fSLog := ⟨aSLog, iSLog, kSLog⟩
  have FSLog := fun_mk (st := sSLog) lSLog cSLog kSLog
  have bSLog := FSLog.binds (ps := PSLog) fun _ _ _ _ _ _ us hl => match us, hl with | [_], _ => rfl
  have meSRec : Meth K CStore "recovered" fSRec := ⟨aSRec, iSRec, kSRec⟩
  have FSRec := fun_mk (st := sSRec) lSRec cSRec kSRec
  have bSRec := FSRec.binds (ps := PSRec) fun _ _ _ _ _ _ us hl => match us, hl with | [_], _ => rfl
  have prSPend : PropOf K CStore "pending" ppSPend fSPend := ⟨aSPend, iSPend, tSPend, ⟨_, rSPend⟩⟩
  have FSPend := fun_mk (st := sSPend) lSPend cSPend kSPend
  have bSPend := FSPend.binds (ps := PSPend) fun _ _ _ _ _ _ us hl => match us, hl with | [_], _ => rfl
  have m_int := PySem.W.mg_none_of X G n_int
  have m_len := PySem.W.mg_none_of X G n_len
  have m_isinstance := PySem.W.mg_none_of X G n_isinstance
  have m_str := PySem.W.mg_none_of X G n_str
  have m_all := PySem.W.mg_none_of X G n_all
  have m_range := PySem.W.mg_none_of X G n_range
  have m_bool := PySem.W.mg_none_of X G n_bool
  have m_dict := PySem.W.mg_none_of X G n_dict
  have m_tuple := PySem.W.mg_none_of X G n_tuple
  have m_list := PySem.W.mg_none_of X G n_list
  have m_reversed := PySem.W.mg_none_of X G n_reversed
  have m_LETTERS := PySem.W.mg_of X G c_LETTERS
  have m_DIGITS := PySem.W.mg_of X G c_DIGITS
  have m_KEYWORDS := PySem.W.mg_of X G c_KEYWORDS

  have T0 : TxPool mg := ⟨m_int, m_len⟩
  have TN : TxName K mg a_KEYWORDS := { n_isinstance := m_isinstance, n_str := m_str, c_LETTERS := ⟨_, m_LETTERS, _, rfl⟩, c_DIGITS := ⟨_, m_DIGITS, _, rfl⟩, c_KEYWORDS := ⟨_, m_KEYWORDS, rfl⟩, kws := sq_kws (its := _) l_KEYWORDS (by repeat (first | exact Paired.nil | refine Paired.cons ⟨_, rfl⟩ ?_)) }
  have T : TxSt K mg a_KEYWORDS := { toTxPool := T0, toTxName := TN, n_bool := m_bool, n_dict := m_dict, n_tuple := m_tuple, n_list := m_list, n_all := m_all, n_range := m_range, n_reversed := m_reversed }
  have TC : TxC K CStore := ⟨clStore, noStore_state, noStore_waiting⟩
  refine ⟨PySem.W.fnOf "law" "law" (defArgs sLaw) (defBody sLaw) (defScope sLaw) .none kVLaw dcLaw pmLaw anLaw cdLaw ctLaw, fun s v => .of_eq rfl, fun base kB gB => ?_⟩
  have GM : Has l.prog w K mg base CX0 1 "_law_mixed" PMixed spMixed := ⟨_, _, ok_Mixed FMixed T0, gMixed, kMixed, bMixed⟩
  have GD : Has l.prog w K mg base CX0 2 "_law_draw" PDraw spDraw := ⟨_, _, ok_Draw FDraw T0 GM, gDraw, kDraw, bDraw⟩
  have GP : Has l.prog w K mg base CX0 1 "_law_pool" PPool (spPool K) := ⟨_, _, ok_Pool FPool T0, gPool, kPool, bPool⟩
  have GI : Has l.prog w K mg base CX0 1 "is_integer" PIsInt (spIsInt K) := ⟨_, _, ok_IsInt FIsInt T, gIsInt, kIsInt, bIsInt⟩
  have GN : Has l.prog w K mg base CX0 1 "is_name" PIsName (spName K) := ⟨_, _, ok_IsName FIsName TN, gIsName, kIsName, bIsName⟩
  have GV : Has l.prog w K mg base CX0 2 "is_values" PIsVals spVals := ⟨_, _, ok_IsVals FIsVals T GN GI, gIsVals, kIsVals, bIsVals⟩
  have GE : Has l.prog w K mg base CX0 2 "is_event" PIsEvt (spEvt K) := ⟨_, _, ok_IsEvt FIsEvt T GI, gIsEvt, kIsEvt, bIsEvt⟩
  have GA : Has l.prog w K mg base CX0 1 "applied" PApp spApp := ⟨_, _, ok_App FApp, gApp, kApp, bApp⟩
  have HC : HasC l.prog w K mg base CX0 3 "Store" CStore PSInit (spSInit CStore) := ⟨_, _, ⟨mkStore, aSInit, iSInit, kcStore⟩, ok_SInit FSInit T TC GV, gStore, bSInit⟩
  have MS : HasM l.prog w K mg base CX0 2 CStore "seen" PSSeen (spSeen CStore) := ⟨_, _, meSSeen, ok_SSeen FSSeen TC GA, bSSeen⟩
  have MC : HasM l.prog w K mg base CX0 3 CStore "current" PSCur (spCur CStore) := ⟨_, _, meSCur, ok_SCur FSCur T TC MS, bSCur⟩
  have ML : HasM l.prog w K mg base CX0 3 CStore "log" PSLog (spLog CStore) := ⟨_, _, meSLog, ok_SLog FSLog T TC MS, bSLog⟩
  have MF : HasM l.prog w K mg base CX0 3 CStore "perform" PSPerf (spPerf CStore) := ⟨_, _, meSPerf, ok_SPerf FSPerf T TC GE MS, bSPerf⟩
  have MR : HasM l.prog w K mg base CX0 5 CStore "recovered" PSRec (spRec CStore) := ⟨_, _, meSRec, ok_SRec FSRec T TC MS HC, bSRec⟩
  have GL : Has l.prog w K mg base CX0 3 "_law_names" PNames spNames := ⟨_, _, ok_Names FNames ⟨m_str, m_range⟩ GD, gNames, kNames, bNames⟩
  have GEv : Has l.prog w K mg base CX0 3 "_law_event" PEvent spEvent := ⟨_, _, ok_Event FEvent T GD, gEvent, kEvent, bEvent⟩
  have GR : Has l.prog w K mg base CX0 1 "_law_recovered" PLRec spLRec := ⟨_, _, ok_LRec FLRec T, gLRec, kLRec, bLRec⟩
  have GF : Has l.prog w K mg base CX0 6 "_law_fits" PFits (spFits CStore) := ⟨_, _, ok_Fits FFits T TC MC ML MR ⟨_, _, prSPend, ok_SPend FSPend T TC, bSPend⟩ GR, gFits, kFits, bFits⟩
  exact ok_Law FLaw T TC GP GD GL GEv GR GF HC MF
theorem walk {l : PySem.W.OpenLaw} {q : Program} {loose : List Str} {XP : (Str → Option Value) → Heap → Prop} {YP : World → Heap → Prop} {d : DefRec} {K : Params → PySem.W.Frag} (hn : l.most = some 63) (hdf : d.params.defaults = [])
    (hY : ∀ (w : World) (h : Heap), YP w h → (K w.params).In h)
    (F : ∀ (w : World) (mg : Str → Option Value) (fa : Addr) (h : Heap), (K w.params).In h → h.Ns mainGlobals mg → mg d.name = some (.ref fa) →
      ∃ fd : FuncData, (∀ (s : Shared) (u : Value), BindsTo s fd ⟨[u], []⟩ [("_law_script", u)]) ∧ ∀ base : Heap, (K w.params).In base → base.Ns mainGlobals mg → FnOk l.prog w (K w.params) mg base CX0 7 fa fd PLaw (spLaw (K w.params))) :
    PySem.W.WalkO q loose XP YP l.row.toRowW d [] (fun f vs => PySem.call f vs) :=
  L2.walk_of (n := 63) (k := 7) (x := "_law_script") (CX := fun _ => CX0) (sp := fun w => spLaw (K w.params)) hn (by decide) hdf ⟨rfl, by decide, by decide⟩ hY F (fun _ _ a ns hl _ hS => ⟨a, ns, rfl, hS, hl, fun _ => rfl⟩) fun _ _ _ _ _ z => z
end Aon
open PySem PySem.W PyProof.Rows
set_option maxRecDepth 100000 in
set_option maxHeartbeats 0 in
theorem PySem.Challenge.cw_allornothing_k26_stores_holds : PySem.Challenge.rw_allornothing_k26_stores.Holds := by
  w_on; o_law; k_head; (case hw => w_witness2)
  k_fill
  refine Aon.walk (l := PySem.Challenge.rw_allornothing_k26_stores) rfl rfl (fun w h Y => PySem.W.kIn_of Y) ?F
  case F =>
    intro w mg fa h KX G hmg
    refine' Aon.all_mk KX G hmg ?aMixed ?lMixed ?cMixed ?kMixed ?aDraw ?lDraw ?cDraw ?kDraw ?aPool ?lPool ?cPool ?kPool ?aIsName ?lIsName ?cIsName ?kIsName ?aIsInt ?lIsInt ?cIsInt ?kIsInt ?aIsVals ?lIsVals ?cIsVals ?kIsVals ?aIsEvt ?lIsEvt ?cIsEvt ?kIsEvt ?aApp ?lApp ?cApp ?kApp ?aNames ?lNames ?cNames ?kNames ?aEvent ?lEvent ?cEvent ?kEvent ?aLRec ?lLRec ?cLRec ?kLRec ?aFits ?lFits ?cFits ?kFits ?aLaw ?lLaw ?cLaw ?kLaw ?aStore ?pgStore ?hdStore ?poStore ?saStore ?mkStore ?kcStore ?noStore_state ?noStore_waiting ?aSInit ?iSInit ?lSInit ?cSInit ?kSInit ?aSPerf ?iSPerf ?lSPerf ?cSPerf ?kSPerf ?aSSeen ?iSSeen ?lSSeen ?cSSeen ?kSSeen ?aSCur ?iSCur ?lSCur ?cSCur ?kSCur ?aSLog ?iSLog ?lSLog ?cSLog ?kSLog ?aSRec ?iSRec ?lSRec ?cSRec ?kSRec ?aSPend ?iSPend ?tSPend ?rSPend ?lSPend ?cSPend ?kSPend ?n_int ?n_len ?n_isinstance ?n_str ?n_all ?n_range ?n_bool ?n_dict ?n_tuple ?n_list ?n_reversed ?c_LETTERS ?c_DIGITS ?c_KEYWORDS ?l_KEYWORDS
    (case aMixed => k_is)
    (case lMixed => k_is)
    (case cMixed => k_is)
    (case kMixed => k_is)
    (case aDraw => k_is)
    (case lDraw => k_is)
    (case cDraw => k_is)
    (case kDraw => k_is)
    (case aPool => k_is)
    (case lPool => k_is)
    (case cPool => k_is)
    (case kPool => k_is)
    (case aIsName => k_is)
    (case lIsName => k_is)
    (case cIsName => k_is)
    (case kIsName => k_is)
    (case aIsInt => k_is)
    (case lIsInt => k_is)
    (case cIsInt => k_is)
    (case kIsInt => k_is)
    (case aIsVals => k_is)
    (case lIsVals => k_is)
    (case cIsVals => k_is)
    (case kIsVals => k_is)
    (case aIsEvt => k_is)
    (case lIsEvt => k_is)
    (case cIsEvt => k_is)
    (case kIsEvt => k_is)
    (case aApp => k_is)
    (case lApp => k_is)
    (case cApp => k_is)
    (case kApp => k_is)
    (case aNames => k_is)
    (case lNames => k_is)
    (case cNames => k_is)
    (case kNames => k_is)
    (case aEvent => k_is)
    (case lEvent => k_is)
    (case cEvent => k_is)
    (case kEvent => k_is)
    (case aLRec => k_is)
    (case lLRec => k_is)
    (case cLRec => k_is)
    (case kLRec => k_is)
    (case aFits => k_is)
    (case lFits => k_is)
    (case cFits => k_is)
    (case kFits => k_is)
    (case aLaw => k_is)
    (case lLaw => k_is)
    (case cLaw => k_is)
    (case kLaw => k_is)
    (case aStore => k_is)
    (case pgStore => k_is)
    (case hdStore => k_is)
    (case poStore => k_is)
    (case saStore => k_is)
    (case mkStore => k_is)
    (case kcStore => k_is)
    (case noStore_state => k_is)
    (case noStore_waiting => k_is)
    (case aSInit => k_is)
    (case iSInit => k_is)
    (case lSInit => k_is)
    (case cSInit => k_is)
    (case kSInit => k_is)
    (case aSPerf => k_is)
    (case iSPerf => k_is)
    (case lSPerf => k_is)
    (case cSPerf => k_is)
    (case kSPerf => k_is)
    (case aSSeen => k_is)
    (case iSSeen => k_is)
    (case lSSeen => k_is)
    (case cSSeen => k_is)
    (case kSSeen => k_is)
    (case aSCur => k_is)
    (case iSCur => k_is)
    (case lSCur => k_is)
    (case cSCur => k_is)
    (case kSCur => k_is)
    (case aSLog => k_is)
    (case iSLog => k_is)
    (case lSLog => k_is)
    (case cSLog => k_is)
    (case kSLog => k_is)
    (case aSRec => k_is)
    (case iSRec => k_is)
    (case lSRec => k_is)
    (case cSRec => k_is)
    (case kSRec => k_is)
    (case aSPend => k_is)
    (case iSPend => k_is)
    (case tSPend => k_is)
    (case rSPend => k_is)
    (case lSPend => k_is)
    (case cSPend => k_is)
    (case kSPend => k_is)
    (case n_int => k_is)
    (case n_len => k_is)
    (case n_isinstance => k_is)
    (case n_str => k_is)
    (case n_all => k_is)
    (case n_range => k_is)
    (case n_bool => k_is)
    (case n_dict => k_is)
    (case n_tuple => k_is)
    (case n_list => k_is)
    (case n_reversed => k_is)
    (case c_LETTERS => k_is)
    (case c_DIGITS => k_is)
    (case c_KEYWORDS => k_is)
    (case l_KEYWORDS => k_is)
#print axioms PySem.Challenge.cw_allornothing_k26_stores_holds

