import PyProof.Rows.All
import Wide.All
import OpenK.AllK
import Wide.FinOn
import HandS.ForMost
import HandS.Star
import PyProof.DictUpdate
import HandS.Style
import HandS.IsInst
import HandS.TupAny
import HandS.TupMul
import HandS.Flow
import HandS.Wide
import HandS.WideBits
import HandS.Zip
import HandS.Conv
import HandS.Deep
import HandS.RaiseMore
import PyProof.ReprRoads
import KE.DataMinMax
import HandS.SortKw
import HandS.DictComp
import HandS.ClsMeth
import KE.DataCmp
import PySem.Challenge.RW_laterknown_k01_values_of_any_value
set_option Elab.async false
set_option linter.all false
section
set_option maxRecDepth 100000
set_option maxHeartbeats 1000000
namespace Kw
open PySem
section
variable {prog : Program} {w : World} {κ : Type} [DecidableEq κ] {knd : KeyKind prog w κ} {A : Around} {E : Value → Shared → Prop} {s : Shared}
theorem put_pairs {d : Addr} {kvs : List (κ × Value)} {k : κ} {key v : Value} {Q : Unit → Shared → Prop} (hk0 : knd.is k key = true) (hm : s.heap.DictOf knd d kvs) (hz : kvs.length ≤ sizeLine)
    (q : ∀ h', h'.DictOf knd d (stored kvs k v) → Heap.SameBut d s.heap h' → Q () { s with heap := h' }) : wpAny (model prog w) A (dictPut d (knd.hash k) key v) Q E s := by
  obtain ⟨o, es, ep, ho, ed, dat, ko, pr, nd⟩ := hm
  have same : (es.findIdx? fun x => knd.is k x.key) = es.toList.findIdx? fun x => knd.is k x.key := by obtain ⟨l⟩ := es; simp
  have size : es.size ≤ sizeLine := by
    have z := pr.length
    rw [Array.length_toList] at z
    omega
  have atl := pr.findIdx k
  unfold dictPut
  refine wpAny_bind (wpAny_dictFind_of hk0 ho dat ko ?_)
  rw [same]
  cases f : es.toList.findIdx? fun x => knd.is k x.key with
  | none =>
    rw [f] at atl
    have out := not_mem_of_findIdx_none atl.symm
    have st : stored kvs k v = kvs ++ [(k, v)] := by
      refine if_neg fun z => out ?_
      obtain ⟨x, hx, hd⟩ := List.any_eq_true.mp z
      exact List.mem_map.mpr ⟨x, hx, of_decide_eq_true hd⟩
    refine wpAny_updateDictKeys (hz := size) ho dat (q _ ?_ (Heap.SameBut.update ..))
    refine ⟨_, _, ep + 1, Heap.get?_update_self _ ho (Obj.isFreed_of_dict (Obj.data_mapDictKeys dat _)), ed.mapDictKeys _, Obj.data_mapDictKeys dat _, ko.push hk0 _, ?_, ?_⟩
    · rw [st, Array.toList_push]
      exact pr.append hk0 (knd.hash k) v
    · rw [st, List.map_append]
      refine List.nodup_append.mpr ⟨nd, by simp, fun x hx y hy e => out ?_⟩
      have : y = k := by simpa using hy
      rw [← this, ← e]; exact hx
  | some i =>
    rw [f] at atl
    have st : stored kvs k v = kvs.map fun kv => if kv.1 = k then (kv.1, v) else kv := if_pos (any_of_findIdx_some atl.symm)
    refine wpAny_updateDict ho dat (q _ ?_ (Heap.SameBut.update ..))
    refine ⟨_, _, ep, Heap.get?_update_self _ ho (Obj.isFreed_of_dict (Obj.data_mapDict dat _)), ed.mapDict _, Obj.data_mapDict dat _, ko.modify _ _, ?_, ?_⟩
    · rw [st, Array.toList_modify]
      exact pr.modify nd f v
    · rw [st, keys_map_store]
      exact nd
theorem keys_stored {kvs : List (κ × Value)} {k j : κ} {v : Value} (h : j ∈ (stored kvs k v).map (·.1)) : j ∈ kvs.map (·.1) ∨ j = k := by
  unfold stored at h
  split at h
  · rw [keys_map_store] at h
    exact .inl h
  · rw [List.map_append, List.mem_append] at h
    exact h.imp id fun z => by simpa using z
theorem keys_merged {j : κ} : ∀ {more kvs : List (κ × Value)}, j ∈ (merged kvs more).map (·.1) → j ∈ kvs.map (·.1) ∨ j ∈ more.map (·.1)
  | [], _, h => .inl h
  | kv :: r, kvs, h => by
    have h : j ∈ (merged (stored kvs kv.1 kv.2) r).map (·.1) := h
    rcases keys_merged h with h | h
    · rcases keys_stored h with h | h
      · exact .inl h
      · exact .inr (by rw [h]; exact List.mem_cons_self)
    · exact .inr (List.mem_cons_of_mem _ h)
theorem merge_pairs {d a : Addr} {kvs more : List (κ × Value)} {u : Bool} {Q : Unit → Shared → Prop} (hda : d ≠ a) (hS : (a == sysModules) = false) (hd : s.heap.DictOf knd d kvs) (ha : s.heap.DictOf knd a more) (hz : kvs.length + more.length ≤ sizeLine)
    (hu : u = true → ∀ kv ∈ more, kv.1 ∉ kvs.map (·.1))
    (q : ∀ h', h'.DictOf knd d (merged kvs more) → Heap.SameBut d s.heap h' → Q () { s with heap := h' }) : wpAny (model prog w) A (mergeMapping d (.ref a) u) Q E s := by
  obtain ⟨od, esd, epd, hod, hcd, hdd, hkd, hpd, hnd⟩ := id hd
  obtain ⟨oa, esa, epa, hoa, hca, hda', hka, hpa, hna⟩ := id ha
  unfold mergeMapping
  refine wpAny_bind (wpAny_isInstance ha.typeIs isSubtype_dict_dict ?_)
  rw [if_pos rfl]
  refine wpAny_bind (wpAny_specialOf ha.typeIs F.slot_dict_iter.lookup (wpAny_bind (wpAny_pure ?_)))
  simp only [beq_self_eq_true]
  rw [if_neg (by rw [hS]; decide)]
  have lena : more.length = esa.size := by rw [← hpa.length]; simp
  have loop : wpAny (model prog w) A (do
      let l0 ← dictEntries a
      let epoch ← dictEpoch a
      forIn (List.range l0.size) PUnit.unit fun i (_ : PUnit) => (do
        let l1 ← dictEntries a
        match l1[i]? with
          | some e => do
            holding [e.key, e.val]
                (if u = true then do
                  let fnd ← dictFind d e.key e.hash
                  if fnd.isSome = true then do
                      rule "dict.merge.duplicate-key"
                      let x ← newExc (Value.type "KeyError") [e.key]
                      let _ ← (raiseNew x : Sem Unit)
                      dictPut d e.hash e.key e.val
                    else dictPut d e.hash e.key e.val
                else dictPut d e.hash e.key e.val)
            let ep1 ← dictEpoch a
            if (ep1 != epoch) = true then do
                (unsupported "dict.changed-during-merge" : Sem PUnit)
                pure (ForInStep.yield PUnit.unit)
              else pure (ForInStep.yield PUnit.unit)
          | _ => do
            (unsupported "dict.changed-during-merge" : Sem PUnit)
            pure (ForInStep.yield PUnit.unit) : Sem (ForInStep PUnit))
      pure ()) Q E s := by
    refine wpAny_bind (wpAny_dictEntries hoa hda' (wpAny_bind (wpAny_dictEpoch hoa hda' (wpAny_bind ?_))))
    refine wpAny_forIn_list _
      (fun rest _ s' => ∃ hp i, s' = { s with heap := hp } ∧ rest = List.range' i (esa.size - i) ∧ i ≤ esa.size ∧ hp.DictOf knd d (merged kvs (more.take i)) ∧ hp.get? a = some oa ∧ Heap.SameBut d s.heap hp)
      _ ?step ?fin _ _ ⟨s.heap, 0, rfl, by rw [List.range_eq_range', Nat.sub_zero], Nat.zero_le _, by simpa [merged] using hd, hoa, Heap.SameBut.refl _ _⟩
    case step =>
      rintro x rest b s' ⟨hp, i, rfl, hr, hi, hdi, hai, hsb⟩
      have lt : i < esa.size := by
        rcases Nat.lt_or_ge i esa.size with z | z
        · exact z
        · rw [Nat.sub_eq_zero_of_le z] at hr; cases hr
      have split : esa.size - i = (esa.size - (i + 1)) + 1 := by omega
      rw [split, List.range'_succ] at hr
      injection hr with h1 h2
      subst h1
      refine wpAny_bind (wpAny_dictEntries hai hda' ?_)
      rw [Array.getElem?_eq_getElem lt]
      have lt2 : x < more.length := by omega
      have hkv : more[x]? = some (more[x].1, more[x].2) := List.getElem?_eq_getElem lt2
      obtain ⟨hk1, hv1⟩ := hpa.get? (e := esa[x]) (by simp [lt]) hkv
      obtain ⟨k2, hk2, hash⟩ := hka esa[x] (Array.getElem_mem lt)
      have ek : k2 = more[x].1 := knd.inj _ _ _ hk2 hk1
      subst ek
      have tk : merged kvs (more.take (x + 1)) = stored (merged kvs (more.take x)) more[x].1 more[x].2 := merged_take_succ kvs more x _ hkv
      have put : wpAny (model prog w) A (dictPut d esa[x].hash esa[x].key esa[x].val) (fun _ s2 => ∃ hp2, s2 = { s with heap := hp2 } ∧ hp2.DictOf knd d (merged kvs (more.take (x + 1))) ∧ hp2.get? a = some oa ∧ Heap.SameBut d s.heap hp2) E { s with heap := hp } := by
        rw [hash, hv1]
        refine put_pairs hk1 hdi ?_ fun h' hd' hs' => ⟨h', rfl, by rw [tk]; exact hd', ?_, hsb.trans hs'⟩
        · have := merged_length_le kvs (more.take x)
          rw [List.length_take] at this
          omega
        · rw [hs'.2 a (Ne.symm hda)]; exact hai
      refine wpAny_bind (wpAny_holding ?_)
      have after : ∀ (s2 : Shared), (∃ hp2, s2 = { s with heap := hp2 } ∧ hp2.DictOf knd d (merged kvs (more.take (x + 1))) ∧ hp2.get? a = some oa ∧ Heap.SameBut d s.heap hp2) →
          wpAny (model prog w) A (do
            let ep1 ← dictEpoch a
            if (ep1 != epa) = true then do
                (unsupported "dict.changed-during-merge" : Sem PUnit)
                pure (ForInStep.yield PUnit.unit)
              else pure (ForInStep.yield PUnit.unit)) (fun r s' => ∃ b', r = ForInStep.yield b' ∧ ∃ hp i, s' = { s with heap := hp } ∧ rest = List.range' i (esa.size - i) ∧ i ≤ esa.size ∧ hp.DictOf knd d (merged kvs (more.take i)) ∧ hp.get? a = some oa ∧ Heap.SameBut d s.heap hp) E s2 := by
        rintro s2 ⟨hp2, rfl, g1, g2, g3⟩
        refine wpAny_bind (wpAny_dictEpoch g2 hda' ?_)
        rw [if_neg (by simp)]
        exact wpAny_pure ⟨_, rfl, hp2, x + 1, rfl, h2, lt, g1, g2, g3⟩
      cases u with
      | false =>
        rw [if_neg (by decide)]
        refine wpAny_mono put (fun r s2 z => wpAny_mono (after s2 z) (fun r s3 y => ?_) fun _ _ y => y) fun _ _ y => y
        obtain ⟨b', rfl, y⟩ := y
        exact y
      | true =>
        rw [if_pos rfl]
        obtain ⟨o2, es2, ep2, g1, g2, g3, g4, g5, g6⟩ := id hdi
        rw [hash]
        refine wpAny_bind (wpAny_dictFind_of (s := { s with heap := hp }) hk1 g1 g3 g4 ?_)
        have none : (es2.findIdx? fun z => knd.is more[x].1 z.key) = none := by
          have e1 : (es2.findIdx? fun z => knd.is more[x].1 z.key) = es2.toList.findIdx? fun z => knd.is more[x].1 z.key := by obtain ⟨l⟩ := es2; simp
          rw [e1, g5.findIdx]
          refine List.findIdx?_eq_none_iff.mpr fun y hy => ?_
          refine decide_eq_false fun ey => ?_
          have hm : more[x].1 ∈ (merged kvs (more.take x)).map (·.1) := List.mem_map.mpr ⟨y, hy, ey⟩
          rcases keys_merged hm with z | z
          · exact hu rfl _ (List.getElem_mem lt2) z
          · have nd := hna
            rw [← List.take_append_drop x more, List.map_append] at nd
            have := (List.nodup_append.mp nd).2.2 _ z more[x].1 (List.mem_map.mpr ⟨more[x], by rw [List.drop_eq_getElem_cons lt2]; exact List.mem_cons_self, rfl⟩)
            exact this rfl
        rw [none]
        rw [if_neg (by decide), ← hash]
        refine wpAny_mono put (fun r s2 z => wpAny_mono (after s2 z) (fun r s3 y => ?_) fun _ _ y => y) fun _ _ y => y
        obtain ⟨b', rfl, y⟩ := y
        exact y
    case fin =>
      rintro b s' ⟨hp, i, rfl, hr, hi, hdi, hai, hsb⟩
      have e : i = esa.size := by
        rcases Nat.lt_or_ge i esa.size with z | z
        · have split : esa.size - i = (esa.size - (i + 1)) + 1 := by omega
          rw [split, List.range'_succ] at hr; cases hr
        · omega
      subst e
      refine wpAny_pure (q hp ?_ hsb)
      rw [← lena, List.take_length] at hdi
      exact hdi
  refine wpAny_bind (wpAny_dictEntries hod hdd ?_)
  have walk : ∀ (f : DictEntry → PUnit → Sem (ForInStep PUnit)) (Qq : PUnit → Shared → Prop), (∀ x ∈ esa, f x PUnit.unit = pure (ForInStep.yield PUnit.unit)) → Qq PUnit.unit s → wpAny (model prog w) A (forIn esa PUnit.unit f) Qq E s := by
    intro f Qq hf hq
    rw [← Array.forIn_toList]
    refine wpAny_forIn_list _ (fun rest _ s' => s' = s ∧ ∀ x ∈ rest, x ∈ esa) _ ?_ ?_ _ _ ⟨rfl, fun x hx => Array.mem_toList_iff.mp hx⟩
    · rintro x rest b s' ⟨rfl, hr⟩
      rw [hf x (hr x List.mem_cons_self)]
      exact wpAny_pure ⟨rfl, fun y hy => hr y (List.mem_cons_of_mem _ hy)⟩
    · rintro b s' ⟨rfl, _⟩
      exact hq
  split
  · refine wpAny_bind (wpAny_dictEntries hoa hda' (wpAny_bind (walk _ _ (fun x hx => ?_) loop)))
    obtain ⟨k, hk, _⟩ := hka x hx
    have := knd.byValue k _ hk
    cases hkey : x.key with
    | ref b => rw [hkey] at this; cases this
    | _ => rfl
  · exact loop
end
end Kw
end
section
set_option maxRecDepth 100000
set_option maxHeartbeats 1000000
namespace Mi
open PySem PySem.Spec PyProof.Rows L2 StX
/-- room, and nothing is being shown around -/
structure RoomG (k : Nat) (A : Around) : Prop where
  room : Room k A
  gd : A.guards = some []
theorem RoomG.mono {j k : Nat} {A : Around} (r : RoomG k A) (h : j ≤ k) : RoomG j A := ⟨r.room.mono h, r.gd⟩
theorem RoomG.deeper {k : Nat} {A : Around} (r : RoomG (k + 1) A) (env : PySem.Env) : RoomG k (A.deeper env) := ⟨r.room.deeper env, r.gd⟩
theorem RoomG.un {k : Nat} {A : Around} (r : RoomG k A) : A.units + 16 * k + 200 < cLine := r.room.un
theorem RoomG.units {k : Nat} {A : Around} (r : RoomG k A) : A.units + 64 < cLine := by have := r.un; omega
theorem RoomG.make {k : Nat} {A : Around} (r : RoomG (k + 1) A) (C : Addr) (us : List Value) (kw : List (Str × Value)) : RoomG k (A.under (.builtin "type.__call__" ⟨.ref C :: us, kw⟩)) :=
  ⟨r.room.make C us kw, by have h := r.gd; obtain ⟨hd, d, fr, gs, u⟩ := A; simp only at h; subst h; rfl⟩
structure FnG (P : Program) (w : World) (K : PySem.W.Frag) (mg : Str → Option Value) (base : Heap) (CX : CXT) (k : Nat) (f : Addr) (fd : FuncData) (ps : List Str) (sp : Sp) : Prop where
  len : ∀ vs H Q E, sp vs H Q E → vs.length = ps.length
  run : ∀ (A : Around) (outer : List PySem.Env) (s : Shared) (H : Hp) (args : Args) (us : List Value) (vs : List V) (Q : VK) (E : XK), RoomG k A → Env0 P w K mg base A outer s H → BindsTo s fd args (ps.zip us) → Vals vs us → sp vs H Q E →
    codeAny (model P w) A (.call (.ref f) args) (CR CX outer P w H s Q E) s
section
variable {P : Program} {w : World} {K : PySem.W.Frag} {mg : Str → Option Value} {base : Heap} {CX : CXT} {j k : Nat} {f : Addr} {fd : FuncData} {ps : List Str} {sp sp' : Sp}
theorem FnG.mono (F : FnG P w K mg base CX j f fd ps sp) (h : j ≤ k) : FnG P w K mg base CX k f fd ps sp := ⟨F.len, fun A outer s H args us vs Q E hr => F.run A outer s H args us vs Q E (hr.mono h)⟩
theorem FnG.imp (F : FnG P w K mg base CX k f fd ps sp) (h : ∀ vs H Q E, sp' vs H Q E → sp vs H Q E) : FnG P w K mg base CX k f fd ps sp' :=
  ⟨fun vs H Q E q => F.len vs H Q E (h _ _ _ _ q), fun A outer s H args us vs Q E hr e0 hb r q => F.run A outer s H args us vs Q E hr e0 hb r (h _ _ _ _ q)⟩
theorem fn_ofG {name qual : Str} {params : Arguments} {body : List Stmt} {scope : Scope} {dV kV doc pm cdv ct oc : Value} {an od : Option Addr} {osl : Array (Option Value)} {N : List Str} (lk : K.lookup f = some ⟨oc, od, .func (PySem.W.fnOf name qual params body scope dV kV doc pm an cdv ct), osl⟩)
    (hcd : PySem.W.codeIn K cdv qual = true) (S : FnScope N ps scope) (len : ∀ vs H Q E, sp vs H Q E → vs.length = ps.length)
    (hbody : ∀ (A : Around) (outer : List PySem.Env) (s : Shared) (H : Hp) (vs : List V) (Q : VK) (E : XK), RoomG k (A.deeper (envOfC qual scope s.heap.objs.size f cdv)) → sp vs H Q E →
      ∃ t, PSs (cxOf CX P w K mg base N qual scope f cdv A outer s H E) body t ∧ t { nx := fun _ H' => Q .non H', rt := Q } (start N vs) H) :
    FnG P w K mg base CX (k + 1) f (PySem.W.fnOf name qual params body scope dV kV doc pm an cdv ct) ps sp := by
  refine ⟨len, fun A outer s H args us vs Q E hr e0 hb r hsp => ?_⟩
  refine run_bnd lk hcd S hr.room e0 (G := fun xs H2 => xs = vs ∧ H2 = H) (fun A' Ex Q' h => ?_) fun s2 H2 xs ⟨ex, eH⟩ hr' => ?_
  · exact hb _ _ _ _ (h s H vs us e0 (Un.refl ..) rfl (fun _ _ z => z) r (len _ _ _ _ hsp) ⟨rfl, rfl⟩)
  · subst ex eH
    exact hbody A outer s2 _ _ Q E ⟨hr', hr.gd⟩ hsp
theorem fun_okG {x qual : Str} {st : Stmt} {N : List Str} (F : Fun K x qual st f fd) (S : FnScope N ps (defScope st)) (len : ∀ vs H Q E, sp vs H Q E → vs.length = ps.length)
    (hbody : ∀ (cdv : Value) (A : Around) (outer : List PySem.Env) (s : Shared) (H : Hp) (vs : List V) (Q : VK) (E : XK), RoomG k (A.deeper (envOfC qual (defScope st) s.heap.objs.size f cdv)) → sp vs H Q E →
      ∃ t, PSs (cxOf CX0 P w K mg base N qual (defScope st) f cdv A outer s H E).nox (defBody st) t ∧ t { nx := fun _ H' => Q .non H', rt := Q } (start N vs) H) : FnG P w K mg base CX0 (k + 1) f fd ps sp := by
  obtain ⟨oc, od, kV, doc, pm, an, cdv, ct, osl, rfl, lk, hcd⟩ := F.ex
  exact fn_ofG lk hcd S len fun A outer s H vs Q E hr hsp => (hbody cdv A outer s H vs Q E hr hsp).imp fun t h => ⟨h.1.nox, h.2⟩
end
section
variable {X : Cx} {CX : CXT} {k : Nat} {f : Addr} {fd : FuncData} {ps : List Str} {ds : List Value} {dvs : List V} {sp : Sp} {E : XK} {x : Str} {p pos : Pos} {e : Expr} {es : List Expr} {t : TA}
theorem run_fnG {pins : List (Addr × Obj)} {σ : L2.St} {H : Hp} {s : Shared} {Q : VK} {us : List Value} {vs : List V} (F : FnG X.prog X.w X.K X.mg X.base CX k f fd ps sp) (hr : RoomG k X.A) (hb : Binds X.K fd ps ds) (hd : Vals dvs ds) (hx : Passes CX X E)
    (I : Inv X pins σ H s) (r : Vals vs us) (h : sp (vs ++ dvs) H Q E) : wpAny (model X.prog X.w) X.A (call (.ref f) us) (EP X pins σ Q) X.xe s := by
  have rr : Vals (vs ++ dvs) (us ++ ds) := r.append hd
  have hl : (us ++ ds).length = ps.length := rr.length.symm.trans (F.len _ _ _ _ h)
  refine wpAny_call (codeAny_mono (F.run X.A X.stack s H ⟨us, []⟩ _ _ Q E hr I.env0 (hb s us I.kIn hl) rr h) fun res s2 y => ?_)
  cases res with
  | error x => exact hx pins σ H s x s2 I y
  | ok fl =>
    cases fl with
    | ret u => exact I.after y
    | next => exact y.elim
    | brk => exact y.elim
    | cont => exact y.elim
theorem pe_callG (F : FnG X.prog X.w X.K X.mg X.base CX k f fd ps sp) (hr : RoomG k X.A) (hg : Gl X x) (hm : X.mg x = some (.ref f)) (hk : PySem.W.keepIn X.K (.ref f) = true) (hb : Binds X.K fd ps ds) (hd : Vals dvs ds) (hx : Passes CX X E)
    (ha : PA X (e :: es) t) (hdb : (x == ("__debug__" : Str)) = false := by decide) (he : starEach (e :: es) X.env = (false, eval e X.env) :: starEach es X.env := by rfl) (hpl : (backTo pos (starEach es X.env)).any (·.1) = false := by rfl) :
    PE X (.Call (.Name x p) (e :: es) [] pos) (tCall sp dvs E t) := ⟨fun pins s σ H Q I h => wpAny_Call_Name_kw (ld_glob I hg hm (PySem.W.callWith_K (h₀ := X.base) I.ok.mod.kin hk
      (thn (ha.run pos pins s σ H _ I h) fun us s1 ⟨vs, H1, I1, r, q⟩ => ⟨I1.kIn, run_fnG F hr hb hd hx I1 r q⟩) he hpl) hdb)⟩
theorem pe_call0G (F : FnG X.prog X.w X.K X.mg X.base CX k f fd ps sp) (hr : RoomG k X.A) (hg : Gl X x) (hm : X.mg x = some (.ref f)) (hk : PySem.W.keepIn X.K (.ref f) = true) (hb : Binds X.K fd ps ds) (hd : Vals dvs ds) (hx : Passes CX X E)
    (hdb : (x == ("__debug__" : Str)) = false := by decide) : PE X (.Call (.Name x p) [] [] pos) (tCall sp dvs E tNil) :=
  ⟨fun pins s σ H Q I h => wpAny_Call_Name_kw (ld_glob I hg hm (PySem.W.callWith_K0 I.kIn hk (run_fnG (us := []) F hr hb hd hx I .nil h)) hdb)⟩
end
end Mi
end
section
set_option maxRecDepth 100000
set_option maxHeartbeats 1000000
namespace Kw
open PySem L2
section
variable {prog : Program} {w : World} {A : Around} {E : Value → Shared → Prop} {s : Shared}
theorem ns_put {d : Addr} {kvs : List (Key × Value)} {x : Str} {v : Value} {Q : Unit → Shared → Prop} (hm : s.heap.DictOf (mixKind prog w) d kvs)
    (q : ∀ h', h'.DictOf (mixKind prog w) d (stored kvs (.inr x) v) → Heap.SameBut d s.heap h' → Q () { s with heap := h', toks := s.toks + 1 }) : wpAny (model prog w) A (nsSet d x v) Q E s := by
  intro Γ p hΓ
  obtain ⟨o, es, ep, ho, ed, dat, ko, pr, nd⟩ := hm
  have kb : ∀ t : Nat, (mixKind prog w).is (.inr x) (.str x t) = true := fun t => kV_is (k := .inr x) ⟨t, rfl⟩
  have kis : ∀ u : Value, (mixKind prog w).is (.inr x) u = u.isStr x := fun u => (mixKind prog w).strs _ x 0 u (kb 0)
  have noRef : es.any (·.refKey) = false := by
    rw [Array.any_eq_false']
    intro e he
    obtain ⟨k, hk, _⟩ := ko e he
    have bv := (mixKind prog w).byValue k _ hk
    cases hkey : e.key with
    | ref b => rw [hkey] at bv; cases bv
    | _ => simp [DictEntry.refKey, hkey]
  simp only [nsSet, strHash, Sem.wp_bind', Sem.wp_cmd_ask, Sem.wp_pure', Sem.wp_cmd_mkText]
  rw [Sem.wp_loadPart_of _ _ _ _ { s with toks := s.toks + 1 } (o := o) _ ho]
  have hsh : (if x.cps.isEmpty = true then 0 else reduceHash ((model prog w).w.params.strHash x.cps)) = (mixKind prog w).hash (.inr x) := rfl
  rw [hsh]
  simp only [dat, aRefKeyMayBeTheName_eq, aRefKeyMayBeTheNameByArray, noRef, Bool.and_false, Bool.false_eq_true, if_false, Sem.wp_cmd_updatePart]
  refine ⟨by rw [ho]; rfl, q _ ?_ (Heap.SameBut.update ..)⟩
  have same : (es.findIdx? (·.key.isStr x)) = es.toList.findIdx? fun z => (mixKind prog w).is (.inr x) z.key := by
    have : (fun z : DictEntry => (mixKind prog w).is (.inr x) z.key) = fun z => z.key.isStr x := by funext z; exact kis z.key
    rw [this]
    obtain ⟨l⟩ := es
    simp
  have atl := pr.findIdx (.inr x)
  obtain ⟨cl, di, da, sl⟩ := o
  have dat' : da = .dict es ep := dat
  subst dat'
  cases f : es.toList.findIdx? fun z => (mixKind prog w).is (.inr x) z.key with
  | none =>
    rw [f] at atl same
    have out := not_mem_of_findIdx_none atl.symm
    have st : stored kvs (.inr x) v = kvs ++ [(.inr x, v)] := by
      refine if_neg fun z => out ?_
      obtain ⟨y, hy, hd⟩ := List.any_eq_true.mp z
      exact List.mem_map.mpr ⟨y, hy, of_decide_eq_true hd⟩
    have e1 : Obj.putName x ((mixKind prog w).hash (.inr x)) (Value.str x s.toks) v ⟨cl, di, .dict es ep, sl⟩ = ⟨cl, di, .dict (es.push ⟨(mixKind prog w).hash (.inr x), .str x s.toks, v⟩) (ep + 1), sl⟩ := by
      simp only [Obj.putName_eq, Obj.putNameByArray, same]
    refine ⟨_, _, ep + 1, Heap.get?_update_self _ ho (by rw [e1]; rfl), ?_, by rw [e1], ko.push (kb s.toks) v, ?_, ?_⟩
    · rw [e1]; exact ed
    · rw [st, Array.toList_push]
      exact pr.append (kb s.toks) _ v
    · rw [st, List.map_append]
      refine List.nodup_append.mpr ⟨nd, by simp, fun a ha b hb e => out ?_⟩
      have : b = .inr x := by simpa using hb
      rw [← this, ← e]; exact ha
  | some i =>
    rw [f] at atl same
    have st : stored kvs (.inr x) v = kvs.map fun kv => if kv.1 = .inr x then (kv.1, v) else kv := if_pos (any_of_findIdx_some atl.symm)
    have e1 : Obj.putName x ((mixKind prog w).hash (.inr x)) (Value.str x s.toks) v ⟨cl, di, .dict es ep, sl⟩ = ⟨cl, di, .dict (es.modify i fun e => { e with val := v }) ep, sl⟩ := by
      simp only [Obj.putName_eq, Obj.putNameByArray, same]
    refine ⟨_, _, ep, Heap.get?_update_self _ ho (by rw [e1]; rfl), ?_, by rw [e1], ko.modify _ _, ?_, ?_⟩
    · rw [e1]; exact ed
    · rw [st, Array.toList_modify]
      exact pr.modify nd f v
    · rw [st, keys_map_store]
      exact nd
end
end Kw
end
section
set_option maxRecDepth 100000
set_option maxHeartbeats 1000000
namespace Kw
open PySem L2
section
variable {prog : Program} {w : World} {A : Around} {E : Value → Shared → Prop} {s : Shared}
def tabOf (kws : List (Str × Value)) : List (Key × Value) := kws.map fun kv => (.inr kv.1, kv.2)
theorem stored_tab {kws : List (Str × Value)} {k : Str} {v : Value} (h : k ∉ kws.map (·.1)) : stored (tabOf kws) (.inr k) v = tabOf (kws ++ [(k, v)]) := by
  have e : tabOf (kws ++ [(k, v)]) = tabOf kws ++ [(.inr k, v)] := by simp [tabOf]
  rw [e]
  refine if_neg fun z => h ?_
  obtain ⟨y, hy, hd⟩ := List.any_eq_true.mp z
  obtain ⟨kv, hkv, rfl⟩ := List.mem_map.mp hy
  have : (Sum.inr kv.1 : Key) = Sum.inr k := of_decide_eq_true hd
  injection this with this
  exact List.mem_map.mpr ⟨kv, hkv, this⟩
theorem ns_puts {d : Addr} : ∀ {kws acc : List (Str × Value)} {s : Shared} {Q : PUnit → Shared → Prop}, s.heap.DictOf (mixKind prog w) d (tabOf acc) → ((acc ++ kws).map (·.1)).Nodup →
    (∀ h' t', h'.DictOf (mixKind prog w) d (tabOf (acc ++ kws)) → Heap.SameBut d s.heap h' → Q PUnit.unit { s with heap := h', toks := t' }) →
    wpAny (model prog w) A (forIn kws PUnit.unit fun (kv : Str × Value) (_ : PUnit) => do nsSet d kv.1 kv.2; pure (ForInStep.yield PUnit.unit)) Q E s
  | [], acc, s, Q, hd, nd, q => by
    rw [List.forIn_nil]
    exact wpAny_pure (q s.heap s.toks (by simpa using hd) (Heap.SameBut.refl _ _))
  | kv :: r, acc, s, Q, hd, nd, q => by
    rw [List.forIn_cons]
    have out : kv.1 ∉ acc.map (·.1) := fun z => by
      rw [List.map_append, List.map_cons] at nd
      exact (List.nodup_append.mp nd).2.2 _ z _ List.mem_cons_self rfl
    refine wpAny_bind (wpAny_bind (ns_put hd fun h1 g1 g2 => wpAny_pure ?_))
    rw [stored_tab out] at g1
    refine ns_puts (acc := acc ++ [(kv.1, kv.2)]) g1 (by simpa using nd) fun h2 t2 g3 g4 => q h2 t2 (by simpa using g3) (g2.trans g4)
theorem bind_kw1 {name qual : Str} {pa pk : Arg} {params : Arguments} {body : List Stmt} {scope : Scope} {kV doc pm cdv ct : Value} {an : Option Addr} {u : Value} {kws : List (Str × Value)} {Q : List (Str × Value) → Shared → Prop}
    (hp : params = { posonlyargs := [], args := [pa], vararg := none, kwonlyargs := [], kw_defaults := [], kwarg := some pk, defaults := [] })
    (hk : ∀ kv ∈ kws, kv.1 ≠ pa.arg) (nd : (kws.map (·.1)).Nodup) (hz : kws.length ≤ sizeLine)
    (q : ∀ h' t', h'.DictOf (mixKind prog w) s.heap.objs.size (tabOf kws) → Heap.SameBut s.heap.objs.size (s.heap.push { cls := .type "dict", data := .dict #[] }) h' → Q [(pa.arg, u), (pk.arg, .ref s.heap.objs.size)] { s with heap := h', toks := t' }) :
    wpAny (model prog w) A (bindArgs (PySem.W.fnOf name qual params body scope .none kV doc pm an cdv ct) ⟨[u], kws⟩) Q E s := by
  subst hp
  unfold bindArgs
  refine wpAny_bind ?_
  refine wpAny_forIn_list _ (fun rest b s' => s' = s ∧ ∃ done, kws = done ++ rest ∧ b = ([(pa.arg, u)], done)) _ ?step ?fin _ _ ⟨rfl, [], rfl, rfl⟩
  case step =>
    rintro ⟨k, v⟩ rest b s' ⟨rfl, done, e, rfl⟩
    have ne : k ≠ pa.arg := hk (k, v) (by rw [e]; simp)
    have c : ([pa.arg].contains k || ([] : List Str).contains k) = false := by simp [ne]
    show wpAny (model prog w) A (if ([pa.arg].contains k || ([] : List Str).contains k) = true then _ else pure (ForInStep.yield ([(pa.arg, u)], done ++ [(k, v)]))) _ E s'
    rw [c, if_neg (by decide)]
    exact wpAny_pure ⟨rfl, done ++ [(k, v)], by rw [e]; simp, rfl⟩
  case fin =>
    rintro b s' ⟨rfl, done, e, rfl⟩
    rw [List.append_nil] at e
    subst e
    have lk : List.lookup pa.arg [(pa.arg, u)] = some u := by simp
    refine wpAny_bind (wpAny_pure ?_)
    simp only [PySem.W.fnOf, List.map_cons, List.map_nil, List.nil_append, List.length_cons, List.length_nil, Option.getD_none, List.drop_nil, List.take_succ_cons, List.take_nil, Nat.sub_zero, List.take_zero, List.filter_cons, List.filter_nil, lk, Option.isNone_some, Bool.false_eq_true, if_false, List.isEmpty_nil, Bool.not_true, List.zip_nil_right, List.forIn_nil, List.append_nil, List.filterMap_cons, List.filterMap_nil, Option.map_some]
    rw [if_neg (by decide)]
    refine wpAny_bind (wpAny_pure (wpAny_bind (wpAny_pure ?_)))
    rw [if_neg (by simp), if_neg (by omega)]
    refine wpAny_bind (wpAny_alloc (wpAny_bind (ns_puts (acc := []) (Heap.DictOf.new _) (by simpa using nd) fun h' t' g1 g2 => wpAny_pure ?_)))
    simp only [lk, Option.map_some]
    exact q h' t' g1 g2
end
end Kw
end
section
set_option maxRecDepth 100000
set_option maxHeartbeats 1000000
namespace Kw
open PySem PySem.Spec PyProof.Rows L2 StX Mi
abbrev SpK := List V → List (Str × V) → Hp → VK → XK → Prop
def KwV (kvs : List (Str × V)) (kus : List (Str × Value)) : Prop := Paired (fun (p : Str × V) (q : Str × Value) => p.1 = q.1 ∧ RelV p.2 q.2) kvs kus
theorem KwV.keys : ∀ {kvs : List (Str × V)} {kus : List (Str × Value)}, KwV kvs kus → kvs.map (·.1) = kus.map (·.1)
  | _, _, .nil => rfl
  | _, _, .cons r t => by rw [List.map_cons, List.map_cons, r.1, KwV.keys t]
theorem KwV.tab : ∀ {kvs : List (Str × V)} {kus : List (Str × Value)}, KwV kvs kus → KV (kvs.map fun kv => ((.inr kv.1 : Key), kv.2)) (tabOf kus)
  | _, _, .nil => .nil
  | _, _, .cons r t => .cons ⟨congrArg Sum.inr r.1, r.2⟩ (KwV.tab t)
/-- a def called with values and keywords -/
def FnK (P : Program) (w : World) (K : PySem.W.Frag) (mg : Str → Option Value) (base : Heap) (CX : CXT) (k : Nat) (f : Addr) (sp : SpK) : Prop :=
  ∀ (A : Around) (outer : List Env) (s : Shared) (H : Hp) (us : List Value) (vs : List V) (kus : List (Str × Value)) (kvs : List (Str × V)) (Q : VK) (E : XK), RoomG k A → Env0 P w K mg base A outer s H → Vals vs us → KwV kvs kus → sp vs kvs H Q E →
    codeAny (model P w) A (.call (.ref f) ⟨us, kus⟩) (CR CX outer P w H s Q E) s
def keyed (kvs : List (Str × V)) : List (Key × V) := kvs.map fun kv => (.inr kv.1, kv.2)
section
variable {CX : CXT} {P : Program} {w : World} {K : PySem.W.Frag} {mg : Str → Option Value} {base : Heap} {k : Nat} {f : Addr} {name qual : Str} {params : Arguments} {body : List Stmt} {scope : Scope} {kV doc pm cdv ct oc : Value} {an od : Option Addr}
  {osl : Array (Option Value)} {N : List Str} {sp : Sp}
theorem env0_new {A : Around} {outer : List Env} {s : Shared} {H : Hp} {h' : Heap} {t' : Nat} {u : HO} (e0 : Env0 P w K mg base A outer s H) (kp : ∀ b o, s.heap.get? b = some o → h'.get? b = some o) (sz : s.heap.objs.size ≤ h'.objs.size)
    (new : ObjOk P w (upd H s.heap.objs.size u) h' s.heap.objs.size u) : Env0 P w K mg base A outer { s with heap := h', toks := t' } (upd H s.heap.objs.size u) where
  frames := e0.frames
  mod := e0.mod
  bs := fun b o e => by
    have z := e0.bs b o e
    refine ⟨kp b o z.1, ?_⟩
    rw [upd_ne (Nat.ne_of_lt (Heap.lt_size z.1))]
    exact z.2
  bsz := Nat.le_trans e0.bsz sz
  funs := Heap.FunFrames.of_keeps (fun b o e _ => ⟨o, kp b o e, rfl⟩) e0.funs
  frf := fun b hb => by
    obtain ⟨_, o, ho, _⟩ := e0.funs.mem hb
    rw [upd_ne (Nat.ne_of_lt (Heap.lt_size ho))]
    exact e0.frf b hb
  hok := e0.hok.laid kp (Nat.le_refl _) new
  bare := e0.bare
/-- def f(a, **d) -/
theorem fn_kw1 {pa pk : Arg} (lk : K.lookup f = some ⟨oc, od, .func (PySem.W.fnOf name qual params body scope .none kV doc pm an cdv ct), osl⟩) (hcd : PySem.W.codeIn K cdv qual = true) (S : FnScope N [pa.arg, pk.arg] scope) (hCX : CXUp CX)
    (hp : params = { posonlyargs := [], args := [pa], vararg := none, kwonlyargs := [], kw_defaults := [], kwarg := some pk, defaults := [] })
    (hbody : ∀ (A : Around) (outer : List Env) (s : Shared) (H : Hp) (vs : List V) (Q : VK) (E : XK), RoomG k (A.deeper (envOfC qual scope s.heap.objs.size f cdv)) → sp vs H Q E →
      ∃ t, PSs (cxOf CX P w K mg base N qual scope f cdv A outer s H E) body t ∧ t { nx := fun _ H' => Q .non H', rt := Q } (start N vs) H) :
    FnK P w K mg base CX (k + 1) f (fun vs kvs H Q E => ∃ v, vs = [v] ∧ (∀ kv ∈ kvs, kv.1 ≠ pa.arg) ∧ (kvs.map (·.1)).Nodup ∧ kvs.length ≤ sizeLine ∧ ∀ d, H d = none → sp [v, .ref d] (upd H d (.dK (keyed kvs))) Q E) := by
  intro A outer s H us vs kus kvs Q E hr e0 r rk hsp
  obtain ⟨v, rfl, hne, nd, hz, hq⟩ := hsp
  obtain ⟨u, rfl, ru⟩ := Vals.one r
  have hn : H s.heap.objs.size = none := e0.hok.fresh (Nat.le_refl _)
  have lk2 : kvs.length = kus.length := Paired.length rk
  have hne2 : ∀ kv ∈ kus, kv.1 ≠ pa.arg := fun kv hkv z => by
    have : kv.1 ∈ kvs.map (·.1) := by rw [rk.keys]; exact List.mem_map.mpr ⟨kv, hkv, rfl⟩
    obtain ⟨y, hy, e⟩ := List.mem_map.mp this
    exact hne y hy (e.trans z)
  refine run_bnd lk hcd S hr.room e0 (G := fun xs H2 => ∃ d, H d = none ∧ xs = [v, .ref d] ∧ H2 = upd H d (.dK (keyed kvs))) (fun A' Ex Q' h => ?_) fun s2 H2 xs ⟨d, hd, ex, eH⟩ hr' => ?_
  · refine bind_kw1 (prog := P) (w := w) hp hne2 (by rw [← rk.keys]; exact nd) (by omega) fun h' t' g1 g2 => ?_
    have kp : ∀ b o, s.heap.get? b = some o → h'.get? b = some o := fun b o e => by
      rw [g2.2 b (Nat.ne_of_lt (Heap.lt_size e))]
      exact Heap.get?_push_of_some _ e
    have sz : s.heap.objs.size ≤ h'.objs.size := by
      have : s.heap.objs.size < h'.objs.size := by
        obtain ⟨o, _, _, ho, _⟩ := g1
        exact Heap.lt_size ho
      omega
    have new : ObjOk P w (upd H s.heap.objs.size (.dK (keyed kvs))) h' s.heap.objs.size (.dK (keyed kvs)) :=
      dk_new (by rw [keyed, List.length_map]; exact hz) (by
        have := env0_big e0
        exact beq_eq_false_iff_ne.mpr (Nat.ne_of_gt this)) rk.tab g1
    have un : Un (frs outer) [] H (upd H s.heap.objs.size (.dK (keyed kvs))) s.heap h' := Un.laid kp (Nat.le_refl _) hn
    exact h _ _ [v, .ref s.heap.objs.size] [u, .ref s.heap.objs.size] (env0_new e0 kp sz new) un rfl (fun e s' => hCX outer s H _ _ E e s' un kp rfl) (.cons ru (.cons rfl .nil)) rfl ⟨_, hn, rfl, rfl⟩
  · subst ex eH
    exact hbody A outer s2 _ _ Q E ⟨hr', hr.gd⟩ (hq d hd)
end
end Kw
end
section
set_option maxRecDepth 100000
set_option maxHeartbeats 1000000
namespace Kw
open PySem PySem.Spec PyProof.Rows L2 StX
section
variable {prog : Program} {w : World} {A : Around} {E : Value → Shared → Prop} {s : Shared}
theorem kws_in {f : Value} {d : Addr} {kus : List (Str × Value)} {Q : List (Str × Value) → Shared → Prop} (hd : s.heap.DictOf (mixKind prog w) d (tabOf kus)) (q : Q kus s) : wpAny (model prog w) A (keywordsIn f d) Q E s := by
  obtain ⟨o, es, ep, ho, ed, dat, ko, pr, nd⟩ := hd
  unfold keywordsIn
  refine wpAny_bind (wpAny_dictEntries ho dat (wpAny_bind ?_))
  rw [← Array.forIn_toList]
  refine wpAny_forIn_list _ (fun rest b s' => s' = s ∧ ∃ left, Pairs (mixKind prog w) rest (tabOf left) ∧ kus = b ++ left) _ ?step ?fin _ _ ⟨rfl, kus, pr, rfl⟩
  case step =>
    rintro x rest b s' ⟨rfl, left, p, e⟩
    cases left with
    | nil => cases p
    | cons kv left =>
      cases p with
      | cons h1 h2 h3 =>
        obtain ⟨i, t, e1, _⟩ | ⟨y, t, e1, e2⟩ := keyIs_shape (k := .inr kv.1) (v := x.key) h1
        · cases e1
        · have e1 : (Sum.inr kv.1 : Key) = Sum.inr y := e1
          injection e1 with e1
          rw [e2]
          refine wpAny_pure ⟨rfl, left, h3, ?_⟩
          rw [e, ← e1]
          have h2 : x.val = kv.2 := h2
          rw [h2, List.append_assoc]
          rfl
  case fin =>
    rintro b s' ⟨rfl, left, p, e⟩
    cases left with
    | cons kv left => cases p
    | nil =>
      rw [List.append_nil] at e
      subst e
      exact wpAny_pure q
end
def tDD (te : TE) (σ : L2.St) (H : Hp) (Q : List (Str × V) → Hp → Prop) : Prop := ∀ p, H p = none → te σ (upd H p (.dK [])) fun x H1 => H1 p = some (.dK []) ∧ ∃ a kvs, x = .ref a ∧ a ≠ p ∧ Rd H1 a (.dK (keyed kvs)) ∧ ((kvs.map (·.1)).Nodup → Q kvs (upd H1 p (.dK (keyed kvs))))
theorem nodup_keyed {kvs : List (Str × V)} (h : ((keyed kvs).map (·.1)).Nodup) : (kvs.map (·.1)).Nodup := by
  have e : (keyed kvs).map (·.1) = (kvs.map (·.1)).map Sum.inr := by simp [keyed]
  rw [e] at h
  exact List.Pairwise.of_map Sum.inr (fun a b h e => h (by rw [e])) h
theorem kv_tab : ∀ {kvs : List (Str × V)} {vs : List (Key × Value)}, KV (keyed kvs) vs → ∃ kus, vs = tabOf kus ∧ KwV kvs kus
  | [], _, .nil => ⟨[], rfl, .nil⟩
  | kv :: r, _, .cons (b := b) h t => by
    obtain ⟨kus, e, rk⟩ := kv_tab (kvs := r) t
    obtain ⟨b1, b2⟩ := b
    have e1 : (Sum.inr kv.1 : Key) = b1 := h.1
    subst e1
    exact ⟨(kv.1, b2) :: kus, by rw [e]; rfl, .cons ⟨rfl, h.2⟩ rk⟩
section
variable {X : Cx} {pins : List (Addr × Obj)} {σ : L2.St} {H : Hp} {s : Shared} {e : Expr} {te : TE} {pos : Pos} {f : Value}
theorem args_dd {Q : List (Str × V) → Hp → Prop} (he : PE X e te) (I : Inv X pins σ H s) (h : tDD te σ H Q) :
    wpAny (model X.prog X.w) X.A (evalArgs f true [] [(none, (do let v ← eval e X.env; standAt pos; pure v))]) (fun a s' => ∃ kvs H', Inv X pins σ H' s' ∧ a.pos = [] ∧ KwV kvs a.kw ∧ Q kvs H') X.xe s := by
  unfold evalArgs
  refine wpAny_bind (wpAny_of_eq (show spliced [] = pure [] from rfl) (wpAny_bind (wpAny_pure (wpAny_holding ?_))))
  rw [if_neg (by simp)]
  refine wpAny_bind ?_
  unfold mergedKeywords
  refine wpAny_bind (wpAny_alloc (wpAny_bind (wpAny_holding ?_)))
  have hn := I.hok.fresh (Nat.le_refl s.heap.objs.size)
  have I1 := I.laid (a := s.heap.objs.size) (o := .dK []) (h' := s.heap.push { cls := .type "dict", data := .dict #[] }) (t' := s.toks) (fun _ _ q => Heap.get?_push_of_some _ q) (Nat.le_refl _) (dk_empty s.heap I.big)
  refine wpAny_bind ?_
  rw [List.forIn_cons]
  refine wpAny_bind ?_
  refine wpAny_bind (wpAny_pure ?_)
  refine wpAny_bind (wpAny_bind (thn (he.run pins _ σ _ _ I1 (h _ hn)) fun v s2 z => ?_))
  obtain ⟨y, H1, I2, ry, ep, a, kvs, ey, hap, hrd, q⟩ := z
  subst ey
  obtain rfl : v = Value.ref a := ry
  refine wpAny_bind (wpAny_standAt (wpAny_pure ?_))
  obtain ⟨z1, hS1, vs0, r0, dd0⟩ := dk_of I2.hok ep
  cases r0
  obtain ⟨z2, hS2, vs, r2, dd2⟩ := dk_rd I2.hok hrd
  obtain ⟨kus, evs, rk⟩ := kv_tab r2
  subst evs
  have nd2 : ((tabOf kus).map (·.1)).Nodup := by
    obtain ⟨_, _, _, _, _, _, _, _, n⟩ := dd2
    exact n
  have nd : (kvs.map (·.1)).Nodup := nodup_keyed (by rw [KV.keys r2]; exact nd2)
  have lk : (tabOf kus).length ≤ sizeLine := by rw [← KV.length r2]; exact z2
  refine wpAny_bind (wpAny_onRaise (wpAny_holding (wpAny_tryCatch (wpAny_onRaise (merge_pairs (Ne.symm hap) hS2 dd0 dd2 (by simpa using lk) (by simp) fun h' g1 g2 => ?_)))))
  rw [merged_nil_of_nodup _ nd2] at g1
  have I3 : L2.Inv X pins σ (upd H1 s.heap.objs.size (.dK (keyed kvs))) { s2 with heap := h', toks := s2.toks } :=
    d_write I2 (by rw [ep]; exact True.intro) g2 (let ⟨o, _, _, ho, _⟩ := g1; ⟨o, ho⟩) (dk_new z2 hS1 r2 g1)
  refine wpAny_pure ?_
  refine wpAny_of_eq (show _ = pure ([] : List (Str × Sem Value)) from rfl) ?_
  refine wpAny_pure (wpAny_pure (wpAny_bind (wpAny_pure (wpAny_bind (wpAny_holding (kws_in g1 (wpAny_pure ?_)))))))
  exact ⟨kvs, _, I3, rfl, rk, q nd⟩
end
end Kw
end
section
set_option maxRecDepth 100000
set_option maxHeartbeats 1000000
namespace Kw
open PySem PySem.Spec PyProof.Rows L2 StX Mi
section
variable {M : Model} {A : Around} {E : Value → Shared → Prop} {s : Shared}
theorem call_dd {K : PySem.W.Frag} {f : Value} {pos : Pos} {Q : Value → Shared → Prop} {t : Sem Value} (hk : PySem.W.keepIn K f = true)
    (h : wpAny M A (evalArgs f true [] [(none, t)]) (fun a s1 => K.In s1.heap ∧ wpAny M A (call f a.pos a.kw) Q E s1) E s) : wpAny M A (callWith pos f [] [] [(none, t)]) Q E s := by
  unfold callWith
  refine wpAny_bind (wpAny_holding (wpAny_mono h (fun a s1 h1 => wpAny_bind (wpAny_standAt ?_)) fun _ _ z => z))
  obtain ⟨kp, hkp, L⟩ := PySem.W.keeps_K (M := M) hk _ h1.1
  refine wpAny_bind (L.here ?_)
  have back : ∀ {c : Sem Value}, wpAny M A c Q E s1 → wpAny M A (c >>= fun r => holding [r] point >>= fun _ => pure r) Q E s1 := fun hc =>
    wpAny_bind (wpAny_mono hc (fun r s2 hr => wpAny_bind (wpAny_holding (wpAny_point (wpAny_pure hr)))) fun _ _ z => z)
  have mk : ∀ m : Value, wpAny M A (callMarked m f a.pos a.kw) Q E s1 := fun m => by unfold callMarked; exact Calls.wpAny_keep h1.2
  rcases hkp with rfl | rfl | rfl
  · exact back (mk _)
  · exact back (wpAny_operating h1.2)
  · exact back (wpAny_operating h1.2)
end
section
variable {X : Cx} {CX : CXT} {k : Nat} {f C : Addr} {sp : SpK} {E : XK} {x : Str} {p pos kp : Pos} {e fe : Expr} {te tf : TE}
theorem run_makeK {pins : List (Addr × Obj)} {σ : L2.St} {H : Hp} {s : Shared} {Q : VK} {us : List Value} {vs : List V} {kus : List (Str × Value)} {kvs : List (Str × V)} (M : Mk X.K C f) (F : FnK X.prog X.w X.K X.mg X.base CX k f sp) (hr : RoomG (k + 1) X.A)
    (hx : Passes CX X E) (I : L2.Inv X pins σ H s) (r : Vals vs us) (rk : KwV kvs kus)
    (h : ∀ x dx, H x = none → H dx = none → dx ≠ x → sp (.ref x :: vs) kvs (upd (upd H dx (.own x)) x (.ins C dx [])) (fun v H2 => v = .non ∧ Q (.ref x) H2) E) :
    wpAny (model X.prog X.w) X.A (call (.ref C) us kus) (EP X pins σ Q) X.xe s := by
  have I2 := Inv.made (C := C) I
  have z := h (s.heap.objs.size + 1) s.heap.objs.size (I.hok.fresh (Nat.le_succ _)) (I.hok.fresh (Nat.le_refl _)) (Nat.ne_of_lt (Nat.lt_succ_self _))
  have rr : Vals (V.ref (s.heap.objs.size + 1) :: vs) (Value.ref (s.heap.objs.size + 1) :: us) := .cons rfl r
  refine wpAny_call (make_map (f := f) I.kIn M.makes M.init (beq_iff_eq.mp M.fn) (codeAny_mono (F _ X.stack _ _ _ _ kus kvs _ E (hr.make C us kus) (I2.env0.make C us kus) rr rk z) fun res s' y => ?_))
  cases res with
  | error x => exact hx pins σ _ _ x s' I2 y
  | ok fl =>
    cases fl with
    | ret u =>
      obtain ⟨v, H3, I3, rv, ev, q3⟩ := I2.after y
      subst ev
      exact ⟨rv, ⟨V.ref (s.heap.objs.size + 1), H3, I3, rfl, q3⟩⟩
    | next => exact y.elim
    | brk => exact y.elim
    | cont => exact y.elim
/-- C(), by the promise of __init__ with keywords -/
def tMakeK0 (C : Addr) (sp : SpK) (E : XK) : TE := fun σ H Q => ∀ x dx, H x = none → H dx = none → dx ≠ x → sp [.ref x] [] (upd (upd H dx (.own x)) x (.ins C dx [])) (fun v H2 => v = .non ∧ Q (.ref x) H2) E
theorem pe_makeK0 (M : Mk X.K C f) (F : FnK X.prog X.w X.K X.mg X.base CX k f sp) (hr : RoomG (k + 1) X.A) (hg : Gl X x) (hm : X.mg x = some (.ref C)) (hx : Passes CX X E) (hdb : (x == ("__debug__" : Str)) = false := by decide) :
    PE X (.Call (.Name x p) [] [] pos) (tMakeK0 C sp E) := by
  refine ⟨fun pins s σ H Q I h => ?_⟩
  refine wpAny_Call_Name_kw (ld_glob I hg hm ?_ hdb)
  exact PySem.W.callWith_K0 I.kIn M.kp (run_makeK (us := []) (kus := []) M F hr hx I .nil .nil h)
/-- c(**d), c an expression that gives the class C -/
def tMakeDD (C : Addr) (sp : SpK) (E : XK) (tf te : TE) : TE := fun σ H Q => tf σ H fun y H1 => y = .ref C ∧ tDD te σ H1 fun kvs H2 => ∀ x dx, H2 x = none → H2 dx = none → dx ≠ x → sp [.ref x] kvs (upd (upd H2 dx (.own x)) x (.ins C dx [])) (fun v H3 => v = .non ∧ Q (.ref x) H3) E
theorem pe_makeDD (hf : PE X fe tf) (M : Mk X.K C f) (F : FnK X.prog X.w X.K X.mg X.base CX k f sp) (hr : RoomG (k + 1) X.A) (hx : Passes CX X E) (he : PE X e te)
    (ht : eval (.Call fe [] [⟨none, e, kp⟩] pos) X.env = (do callWith pos (← eval fe X.env) [] (backTo pos (starEach [] X.env)) (backToKw pos (keywordEach [⟨none, e, kp⟩] X.env))) := by rfl) :
    PE X (.Call fe [] [⟨none, e, kp⟩] pos) (tMakeDD C sp E tf te) := by
  refine ⟨fun pins s σ H Q I h => ?_⟩
  rw [ht]
  refine wpAny_bind (thn (hf.run pins s σ H _ I h) fun u s1 ⟨y, H1, I1, ry, ey, q⟩ => ?_)
  subst ey
  obtain rfl : u = Value.ref C := ry
  show wpAny _ _ (callWith pos (.ref C) [] [] [(none, (do let v ← eval e X.env; standAt pos; pure v))]) _ _ _
  refine call_dd M.kp (wpAny_mono (args_dd he I1 q) (fun a s2 z => ?_) fun _ _ z => z)
  obtain ⟨kvs, H2, I2, ep, rk, q2⟩ := z
  obtain ⟨ap, ak⟩ := a
  have ep : ap = [] := ep
  subst ep
  exact ⟨I2.kIn, run_makeK (us := []) M F hr hx I2 .nil rk q2⟩
end
end Kw
end
section
set_option maxRecDepth 100000
set_option maxHeartbeats 1000000
namespace Mi
open PySem PySem.Spec PyProof.Rows L2 StX
section
variable {P : Program} {w : World} {K : PySem.W.Frag} {mg mb : Str → Option Value} {k : Nat} {fa a : Addr} {fd : FuncData} {x : Str} {sp : Sp} {t : Shared} {us : List Value} {ns : List Int}
theorem endG (Z : Hp) (hZ : Only Z) (hS : SqL K Z a (ns.map V.int)) (ok : HOk P w Z t.heap) (one : ∀ b, Z b ≠ none → b = a) (out : Z a ≠ none → K.lookup a = none)
    (KX : K.In t.heap) (hns : t.heap.Ns mainGlobals mg) (hb : t.heap.Ns builtinsNs mb) (hbb : ∀ x : Str, x ≠ "__name__" → mb x = bootBuiltins x) (hlim : t.heap.NoLimit) (hg : t.gens = #[]) (ha : t.heap.get? a = some { cls := .type "list", data := .seq us.toArray }) (hr : RoomG k callerA)
    (F : ∀ base : Heap, K.In base → base.Ns mainGlobals mg → FnG P w K mg base CX0 k fa fd [x] sp) (hbind : ∀ (s : Shared) (u : Value), BindsTo s fd ⟨[u], []⟩ [(x, u)])
    (hsp : sp [.ref a] Z (fun v _ => v = .bl true) fun _ _ _ => False) :
    codeAny (model P w) callerA (.call (.ref fa) ⟨[.ref a], []⟩) (fun r s' => r = .ok (.ret (.bool true)) ∧ OldK t.heap s'.heap ∧ s'.os = t.os ∧ AllBare s'.gens) t := by
  have dn : ∀ {b : Addr} {o : Obj} {es : Array DictEntry} {ep : Nat}, t.heap.get? b = some o → o.data = .dict es ep → Z b = none := fun {b o es ep} e d => by
    cases z : Z b with
    | none => rfl
    | some u =>
      have := one b (by rw [z]; simp)
      subst this
      rw [ha] at e
      cases e
      cases d
  have nsB : ∀ {b : Addr} {m : Str → Option Value}, t.heap.Ns b m → (hidT t.heap Z).Ns b m := fun {b m} h => by
    obtain ⟨o, es, ep, e, d, r⟩ := h
    exact ⟨o, es, ep, hidT_get e (dn e d), d, r⟩
  have inB : K.In (hidT t.heap Z) := fun b o e => hidT_get (KX b o e) (by
    cases z : Z b with
    | none => rfl
    | some u =>
      have := one b (by rw [z]; simp)
      subst this
      rw [out (by rw [z]; simp)] at e
      cases e)
  have limB : (hidT t.heap Z).NoLimit := by
    obtain ⟨mc, h1, h2⟩ := hlim
    exact ⟨mc, nsB h1, h2⟩
  have e0 : Env0 P w K mg (hidT t.heap Z) callerA [] t Z :=
    { frames := rfl, mod := ⟨inB, nsB hns, ⟨mb, nsB hb, hbb⟩, limB⟩, bs := fun b o e => of_hidT e, bsz := Nat.le_of_eq (hidT_size _ _), funs := trivial
      frf := fun b h => by cases h
      hok := ok, bare := .of_eq hg }
  refine codeAny_mono ((F _ inB (nsB hns)).run callerA [] t Z ⟨[.ref a], []⟩ [.ref a] [.ref a] _ _ hr e0 (hbind t (.ref a)) (.cons rfl .nil) hsp) fun res s2 y => ?_
  cases res with
  | error e => exact y.elim
  | ok fl =>
    cases fl with
    | next => exact y.elim
    | brk => exact y.elim
    | cont => exact y.elim
    | ret u =>
      obtain ⟨v, Z2, eos, bare, un, ok2, rv, qv⟩ := y
      have qv : v = .bl true := qv
      subst qv
      obtain rfl : u = Value.bool true := rv
      refine ⟨rfl, OldK.of_keep fun b o e => ?_, eos, bare⟩
      cases z : Z b with
      | none => exact un.keep b o e z (fun h => by cases h) (by simp)
      | some u =>
        rcases hZ b with n | ⟨ob, xs, fz⟩
        · rw [z] at n; cases n
        · obtain ⟨g1, _⟩ := ok b _ fz
          obtain ⟨g2, _⟩ := ok2 b _ (un.frzs b ob _ fz)
          rw [e] at g1
          cases g1
          exact g2
theorem law_callG (KX : K.In t.heap) (hns : t.heap.Ns mainGlobals mg) (hb : t.heap.Ns builtinsNs mb) (hbb : ∀ x : Str, x ≠ "__name__" → mb x = bootBuiltins x) (hlim : t.heap.NoLimit) (hg : t.gens = #[]) (ha : t.heap.get? a = some { cls := .type "list", data := .seq us.toArray })
    (hi : IntsAre us ns) (hl : ns.length ≤ sizeLine) (hr : RoomG k callerA)
    (F : ∀ base : Heap, K.In base → base.Ns mainGlobals mg → FnG P w K mg base CX0 k fa fd [x] sp) (hbind : ∀ (s : Shared) (u : Value), BindsTo s fd ⟨[u], []⟩ [(x, u)])
    (hsp : ∀ H : Hp, Only H → SqL K H a (ns.map V.int) → sp [.ref a] H (fun v _ => v = .bl true) fun _ _ _ => False) :
    codeAny (model P w) callerA (.call (.ref fa) ⟨[.ref a], []⟩) (fun r s' => r = .ok (.ret (.bool true)) ∧ OldK t.heap s'.heap ∧ s'.os = t.os ∧ AllBare s'.gens) t := by
  have rv := vals_ints hi
  cases hk : K.lookup a with
  | some o =>
    have e := KX a o hk
    rw [ha] at e
    cases e
    have sq : SqL K (fun _ => none) a (ns.map V.int) := .inr ⟨_, us.toArray, _, hk, rfl, rfl, rfl, by rw [List.size_toArray, hi.length]; exact hl, by simpa using rv⟩
    exact endG (fun _ => none) (fun _ => .inl rfl) sq (fun b u z => by cases z) (fun b z => absurd rfl z) (fun z => absurd rfl z) KX hns hb hbb hlim hg ha hr F hbind (hsp _ (fun _ => .inl rfl) sq)
  | none =>
    have only : Only (fun b => if b = a then some (.frz { cls := .type "list", data := .seq us.toArray } (.lst (ns.map V.int))) else none) := fun b => by
      by_cases e : b = a
      · exact .inr ⟨_, _, if_pos e⟩
      · exact .inl (if_neg e)
    have sq : SqL K (fun b => if b = a then some (.frz { cls := .type "list", data := .seq us.toArray } (.lst (ns.map V.int))) else none) a (ns.map V.int) := .inl (.inr ⟨_, if_pos rfl⟩)
    refine endG _ only sq (fun b u z => ?_) (fun b z => ?_) (fun _ => hk) KX hns hb hbb hlim hg ha hr F hbind (hsp _ only sq)
    · by_cases e : b = a
      · have z := (if_pos e).symm.trans z
        cases z
        subst e
        exact ⟨ha, by rw [List.length_map]; exact hl, us, _, rv, ha⟩
      · have z := (if_neg e).symm.trans z
        cases z
    · by_cases e : b = a
      · exact e
      · exact absurd (if_neg e) z
end
theorem walk_G {l : PySem.W.OpenLaw} {n k : Nat} {q : Program} {loose : List Str} {XP : (Str → Option Value) → Heap → Prop} {YP : World → Heap → Prop} {d : DefRec} {K : Params → PySem.W.Frag} {sp : World → Sp} {x : Str}
    (hn : l.most = some n) (hn2 : n ≤ sizeLine) (hdf : d.params.defaults = []) (hr : RoomG k callerA) (hY : ∀ (w : World) (h : Heap), YP w h → (K w.params).In h)
    (F : ∀ (w : World) (mg : Str → Option Value) (fa : Addr) (h : Heap), (K w.params).In h → h.Ns mainGlobals mg → mg d.name = some (.ref fa) →
      ∃ fd : FuncData, (∀ (s : Shared) (u : Value), BindsTo s fd ⟨[u], []⟩ [(x, u)]) ∧ ∀ base : Heap, (K w.params).In base → base.Ns mainGlobals mg → FnG l.prog w (K w.params) mg base CX0 k fa fd [x] (sp w))
    (hsp : ∀ (w : World) (H : Hp) (a : Addr) (ns : List Int), ns.length ≤ n → Only H → SqL (K w.params) H a (ns.map V.int) → sp w [.ref a] H (fun v _ => v = .bl true) fun _ _ _ => False) :
    PySem.W.WalkO q loose XP YP l.row.toRowW d [] (fun f vs => PySem.call f vs) := by
  refine Att.attach_call hn hdf fun w s0 s1 mg mb fa o pm cd doc a vs ns G Y ho hd hcd hmg hobj hints hlen hg => ?_
  have KX := hY w _ Y
  obtain ⟨fd, hb, hF⟩ := F w mg fa _ KX G.T.g hmg
  exact law_callG KX G.T.g G.T.b G.T.builtins G.T.nolimit hg hobj hints (Nat.le_trans hlen hn2) hr hF hb fun H hO hS => hsp w H a ns hlen hO hS
end Mi
end
section
set_option maxRecDepth 100000
namespace Mi
open PySem L2

/-- what a value is in the mirror: scalars, tuples, frozen lists and dicts as trees; a thing that may change by its number -/
inductive D where
  | non | bl (b : Bool) | int (i : Int) | str (x : Str)
  | tup (xs : List D) | lst (xs : List D) | dic (kvs : List (Key × D))
  | ins (c : Str) (fs : List (Str × D))
  | ref (n : Nat)
  /-- the script -/
  | scr (ns : List Int)
  /-- a class of the module -/
  | cls (c : Str)
  deriving Inhabited

inductive O where
  | lst (m : Bool) (xs : List D)
  | dic (m : Bool) (kvs : List (Key × D))
  | ins (m : Bool) (c : Str) (fs : List (Str × D))
def O.mut : O → Bool
  | .lst m _ => m
  | .dic m _ => m
  | .ins m _ _ => m
abbrev Sto := List O
abbrev Env := List (Option D)
structure Xn where
  c : Str
  fs : List (Str × D)

inductive R (α : Type) where
  | ok (a : α) (s : Sto) | ex (x : Xn) (s : Sto) | no
def R.bind {α β : Type} (r : R α) (g : α → Sto → R β) : R β := match r with
  | .ok a s => g a s
  | .ex x s => .ex x s
  | .no => .no
@[simp] theorem bind_ok {α β : Type} (a : α) (s : Sto) (g : α → Sto → R β) : (R.ok a s).bind g = g a s := rfl
@[simp] theorem bind_ex {α β : Type} (x : Xn) (s : Sto) (g : α → Sto → R β) : (R.ex x s : R α).bind g = .ex x s := rfl
@[simp] theorem bind_no {α β : Type} (g : α → Sto → R β) : (R.no : R α).bind g = .no := rfl

abbrev ET := Env → Sto → R D
abbrev BT := Env → Sto → R Bool
abbrev AT := Env → Sto → R (List D)
inductive Fl where
  | nx (e : Env) | rt (d : D) | bk (e : Env) | ct (e : Env)
abbrev ST := Env → Sto → R Fl

/-! ### the relation to the abstract heap -/
structure Wd where
  K : PySem.W.Frag
  mg : Str → Option Value

/-- gs: lists that are being made and that no name knows yet -/
structure Ct where
  p : List Addr
  S : Sto
  gs : List Addr
/-- the addresses that may be written -/
def Lv (c : Ct) (a : Addr) : Prop := (∃ (n : Nat) (o : O), c.p[n]? = some a ∧ c.S[n]? = some o ∧ o.mut = true) ∨ a ∈ c.gs

/-- a dict may be locked and unlocked -/
def unf : HO → HO
  | .frz _ u => u
  | o => o
def isDic : HO → Bool
  | .dK _ => true
  | .dT _ => true
  | _ => false
def Sm (o o' : HO) : Prop := o' = o ∨ (isDic (unf o) = true ∧ unf o' = unf o)
theorem Sm.refl (o : HO) : Sm o o := .inl rfl
theorem Sm.trans {o o1 o2 : HO} (a : Sm o o1) (b : Sm o1 o2) : Sm o o2 := by
  rcases a with rfl | ⟨a1, a2⟩
  · exact b
  · rcases b with rfl | ⟨b1, b2⟩
    · exact .inr ⟨a1, a2⟩
    · exact .inr ⟨a1, b2.trans a2⟩
/-- read, never written: tracked and not writable, or of the written part -/
def FzL (w : Wd) (H : Hp) (c : Ct) (a : Addr) (vs : List V) : Prop := H a = some (.lst vs) ∧ ¬ Lv c a
def FzT (w : Wd) (H : Hp) (c : Ct) (a : Addr) (vs : List V) : Prop := (Rd H a (.tup vs) ∧ ¬ Lv c a) ∨
  ∃ (o : Obj) (its : Array Value) (n : Nat), w.K.lookup a = some o ∧ o.cls = .type "tuple" ∧ o.data = .seq its n ∧ its.size ≤ sizeLine ∧ Vals vs its.toList
/-- the script: read alone -/
def FzS (w : Wd) (H : Hp) (c : Ct) (a : Addr) (vs : List V) : Prop := (Rd H a (.lst vs) ∧ ¬ Lv c a) ∨
  ∃ (o : Obj) (its : Array Value) (n : Nat), w.K.lookup a = some o ∧ o.cls = .type "list" ∧ o.dict = none ∧ o.data = .seq its n ∧ its.size ≤ sizeLine ∧ Vals vs its.toList
theorem FzS.sq {w : Wd} {H : Hp} {c : Ct} {a : Addr} {vs : List V} (h : FzS w H c a vs) : SqL w.K H a vs := h.imp (·.1) id
theorem FzL.sq {w : Wd} {H : Hp} {c : Ct} {a : Addr} {vs : List V} (h : FzL w H c a vs) : SqL w.K H a vs := .inl (.inl h.1)
theorem FzT.sq {w : Wd} {H : Hp} {c : Ct} {a : Addr} {vs : List V} (h : FzT w H c a vs) : SqT w.K H a vs := h.imp (·.1) id
mutual
inductive RelD (w : Wd) (H : Hp) (c : Ct) : D → V → Prop
  | non : RelD w H c .non .non
  | bl (b : Bool) : RelD w H c (.bl b) (.bl b)
  | int (i : Int) : RelD w H c (.int i) (.int i)
  | str (x : Str) : x.length ≤ sizeLine → RelD w H c (.str x) (.str x)
  | tup {a : Addr} {xs : List D} {vs : List V} : FzT w H c a vs → RelDs w H c xs vs → RelD w H c (.tup xs) (.ref a)
  | lst {a : Addr} {xs : List D} {vs : List V} : FzL w H c a vs → RelDs w H c xs vs → RelD w H c (.lst xs) (.ref a)
  | dic {a : Addr} {kvs : List (Key × D)} {vs : List V} : Rd H a (.dK ((kvs.map (·.1)).zip vs)) → ¬ Lv c a → RelDs w H c (kvs.map (·.2)) vs → RelD w H c (.dic kvs) (.ref a)
  | ins {a C dx : Addr} {nm : Str} {fs : List (Str × D)} {vs : List V} : H a = some (.ins C dx ((fs.map (·.1)).zip vs)) → w.mg nm = some (.ref C) → ¬ Lv c a → RelDs w H c (fs.map (·.2)) vs → RelD w H c (.ins nm fs) (.ref a)
  | ref {n : Nat} {a : Addr} : c.p[n]? = some a → RelD w H c (.ref n) (.ref a)
  | scr {a : Addr} {ns : List Int} : FzS w H c a (ns.map V.int) → RelD w H c (.scr ns) (.ref a)
  | cls {C : Addr} {nm : Str} : w.mg nm = some (.ref C) → RelD w H c (.cls nm) (.ref C)
inductive RelDs (w : Wd) (H : Hp) (c : Ct) : List D → List V → Prop
  | nil : RelDs w H c [] []
  | cons {d : D} {ds : List D} {v : V} {vs : List V} : RelD w H c d v → RelDs w H c ds vs → RelDs w H c (d :: ds) (v :: vs)
end
/-- what stands at a numbered thing's address -/
inductive RelO (w : Wd) (H : Hp) (c : Ct) : O → HO → Prop
  | lst {m : Bool} {xs : List D} {vs : List V} : RelDs w H c xs vs → RelO w H c (.lst m xs) (.lst vs)
  | dic {m : Bool} {kvs : List (Key × D)} {vs : List V} {ho : HO} : RelDs w H c (kvs.map (·.2)) vs → unf ho = .dK ((kvs.map (·.1)).zip vs) → (m = true → ho = .dK ((kvs.map (·.1)).zip vs)) → RelO w H c (.dic m kvs) ho
  | ins {m : Bool} {C dx : Addr} {nm : Str} {fs : List (Str × D)} {vs : List V} : w.mg nm = some (.ref C) → RelDs w H c (fs.map (·.2)) vs → RelO w H c (.ins m nm fs) (.ins C dx ((fs.map (·.1)).zip vs))

structure Good (w : Wd) (H : Hp) (c : Ct) : Prop where
  len : c.p.length = c.S.length
  inj : ∀ (n m : Nat) (a : Addr), c.p[n]? = some a → c.p[m]? = some a → n = m
  obj : ∀ (n : Nat) (a : Addr) (o : O), c.p[n]? = some a → c.S[n]? = some o → ∃ ho, H a = some ho ∧ RelO w H c o ho
  gst : ∀ a ∈ c.gs, (∃ o, H a = some o) ∧ a ∉ c.p

/-- weak: a dict may be locked or unlocked on the way -/
structure Tw (c : Ct) (H : Hp) (c' : Ct) (H' : Hp) : Prop where
  p : ∀ (n : Nat) (a : Addr), c.p[n]? = some a → c'.p[n]? = some a
  lv : ∀ a, Lv c' a → Lv c a ∨ H a = none
  keep : ∀ a o, H a = some o → ¬ Lv c a → ∃ o', H' a = some o' ∧ Sm o o'
structure Tr (c : Ct) (H : Hp) (c' : Ct) (H' : Hp) : Prop where
  p : ∀ (n : Nat) (a : Addr), c.p[n]? = some a → c'.p[n]? = some a
  lv : ∀ a, Lv c' a → Lv c a ∨ H a = none
  keep : ∀ a o, H a = some o → ¬ Lv c a → H' a = some o
theorem Tr.tw {c c' : Ct} {H H' : Hp} (e : Tr c H c' H') : Tw c H c' H' := ⟨e.p, e.lv, fun a o h n => ⟨o, e.keep a o h n, .refl o⟩⟩
structure Ext (c : Ct) (H : Hp) (c' : Ct) (H' : Hp) : Prop extends Tr c H c' H' where
  gs : c'.gs = c.gs
  gk : ∀ a ∈ c.gs, H' a = H a

theorem Tr.trans {c c1 c2 : Ct} {H H1 H2 : Hp} (a : Tr c H c1 H1) (b : Tr c1 H1 c2 H2) : Tr c H c2 H2 := by
  refine ⟨fun n x h => b.p n x (a.p n x h), fun x h => ?_, fun x o h n => ?_⟩
  · rcases b.lv x h with h | h
    · exact a.lv x h
    · by_cases l : Lv c x
      · exact .inl l
      · cases q : H x with
        | none => exact .inr rfl
        | some o =>
          rw [a.keep x o q l] at h
          cases h
  · refine b.keep x o (a.keep x o h n) fun l => ?_
    rcases a.lv x l with l | l
    · exact n l
    · rw [h] at l; cases l
theorem Ext.refl (c : Ct) (H : Hp) : Ext c H c H := ⟨⟨fun _ _ h => h, fun _ h => .inl h, fun _ o h _ => h⟩, rfl, fun _ _ => rfl⟩
theorem Ext.trans {c c1 c2 : Ct} {H H1 H2 : Hp} (a : Ext c H c1 H1) (b : Ext c1 H1 c2 H2) : Ext c H c2 H2 :=
  ⟨a.toTr.trans b.toTr, b.gs.trans a.gs, fun x h => (b.gk x (by rw [a.gs]; exact h)).trans (a.gk x h)⟩
/-- what is not to be written stays so -/
theorem Tw.nlv {c c' : Ct} {H H' : Hp} (e : Tw c H c' H') {a : Addr} {o : HO} (h : H a = some o) (n : ¬ Lv c a) : ¬ Lv c' a := fun l => by
  rcases e.lv a l with l | l
  · exact n l
  · rw [h] at l; cases l
theorem rd_of_unf {H : Hp} {a : Addr} {o u : HO} (h : H a = some o) (e : unf o = u) (hu : unf u = u) : Rd H a u := by
  cases o with
  | frz ob z => exact .inr ⟨ob, by rw [h]; exact congrArg some (congrArg _ e)⟩
  | _ => exact .inl (h.trans (congrArg some e))
theorem Rd.unf {H : Hp} {a : Addr} {u : HO} (h : Rd H a u) (hu : Mi.unf u = u) : ∃ o, H a = some o ∧ Mi.unf o = u := by
  rcases h with h | ⟨ob, h⟩
  · exact ⟨_, h, hu⟩
  · exact ⟨_, h, rfl⟩
theorem Tw.rd {c c' : Ct} {H H' : Hp} (e : Tw c H c' H') {a : Addr} {u : HO} (hu : unf u = u) (h : Rd H a u) (n : ¬ Lv c a) : Rd H' a u ∧ ¬ Lv c' a := by
  obtain ⟨o, h, q⟩ := Rd.unf h hu
  obtain ⟨o', h', m⟩ := e.keep a o h n
  refine ⟨rd_of_unf h' ?_ hu, e.nlv h n⟩
  rcases m with rfl | ⟨_, m⟩
  · exact q
  · exact m.trans q
/-- what is no dict stays to the sign -/
theorem Tw.same {c c' : Ct} {H H' : Hp} (e : Tw c H c' H') {a : Addr} {o : HO} (ho : isDic (unf o) = false) (h : H a = some o) (n : ¬ Lv c a) : H' a = some o := by
  obtain ⟨o', h', m⟩ := e.keep a o h n
  rcases m with rfl | ⟨m, _⟩
  · exact h'
  · rw [ho] at m; cases m
theorem FzL.tw {w : Wd} {c c' : Ct} {H H' : Hp} {a : Addr} {vs : List V} (e : Tw c H c' H') (h : FzL w H c a vs) : FzL w H' c' a vs := ⟨e.same rfl h.1 h.2, e.nlv h.1 h.2⟩
theorem FzT.tw {w : Wd} {c c' : Ct} {H H' : Hp} {a : Addr} {vs : List V} (e : Tw c H c' H') (h : FzT w H c a vs) : FzT w H' c' a vs := h.imp (fun z => e.rd rfl z.1 z.2) id
section
variable {w : Wd} {c c' : Ct} {H H' : Hp}
mutual
theorem RelD.tw (e : Tw c H c' H') : ∀ {d : D} {v : V}, RelD w H c d v → RelD w H' c' d v
  | _, _, .non => .non
  | _, _, .bl b => .bl b
  | _, _, .int i => .int i
  | _, _, .str x h => .str x h
  | _, _, .tup h r => .tup (h.tw e) (RelDs.tw e r)
  | _, _, .lst h r => .lst (h.tw e) (RelDs.tw e r)
  | _, _, .dic h n r => .dic (e.rd rfl h n).1 (e.rd rfl h n).2 (RelDs.tw e r)
  | _, _, .ins h m n r => .ins (e.same rfl h n) m (e.nlv h n) (RelDs.tw e r)
  | _, _, .ref h => .ref (e.p _ _ h)
  | _, _, .scr h => .scr (h.imp (fun z => e.rd rfl z.1 z.2) id)
  | _, _, .cls h => .cls h
theorem RelDs.tw (e : Tw c H c' H') : ∀ {ds : List D} {vs : List V}, RelDs w H c ds vs → RelDs w H' c' ds vs
  | _, _, .nil => .nil
  | _, _, .cons r t => .cons (RelD.tw e r) (RelDs.tw e t)
end
theorem RelO.tw (e : Tw c H c' H') {o : O} {ho : HO} (h : RelO w H c o ho) : RelO w H' c' o ho := by
  cases h with
  | lst r => exact .lst (r.tw e)
  | dic r h1 h2 => exact .dic (r.tw e) h1 h2
  | ins m r => exact .ins m (r.tw e)
theorem RelD.tr (e : Tr c H c' H') {d : D} {v : V} (h : RelD w H c d v) : RelD w H' c' d v := h.tw e.tw
theorem RelDs.tr (e : Tr c H c' H') {ds : List D} {vs : List V} (h : RelDs w H c ds vs) : RelDs w H' c' ds vs := h.tw e.tw
theorem RelO.tr (e : Tr c H c' H') {o : O} {ho : HO} (h : RelO w H c o ho) : RelO w H' c' o ho := h.tw e.tw
theorem Tr.nlv (e : Tr c H c' H') {a : Addr} {o : HO} (h : H a = some o) (n : ¬ Lv c a) : ¬ Lv c' a := e.tw.nlv h n
theorem Tr.rd (e : Tr c H c' H') {a : Addr} {u : HO} (hu : unf u = u) (h : Rd H a u) (n : ¬ Lv c a) : Rd H' a u ∧ ¬ Lv c' a := e.tw.rd hu h n
theorem FzT.tr {a : Addr} {vs : List V} (e : Tr c H c' H') (h : FzT w H c a vs) : FzT w H' c' a vs := h.tw e.tw
theorem FzL.tr {a : Addr} {vs : List V} (e : Tr c H c' H') (h : FzL w H c a vs) : FzL w H' c' a vs := h.tw e.tw
theorem RelD.ext (e : Ext c H c' H') {d : D} {v : V} (h : RelD w H c d v) : RelD w H' c' d v := h.tr e.toTr
theorem RelDs.ext (e : Ext c H c' H') {d : List D} {v : List V} (h : RelDs w H c d v) : RelDs w H' c' d v := h.tr e.toTr
theorem RelO.ext (e : Ext c H c' H') {o : O} {ho : HO} (h : RelO w H c o ho) : RelO w H' c' o ho := h.tr e.toTr
theorem RelDs.length {ds : List D} {vs : List V} (h : RelDs w H c ds vs) : ds.length = vs.length := by
  induction ds generalizing vs with
  | nil => cases h; rfl
  | cons d ds ih => cases h with | cons r t => simp [ih t]
theorem RelDs.get {ds : List D} {vs : List V} {i : Nat} {d : D} (h : RelDs w H c ds vs) (e : ds[i]? = some d) : ∃ v, vs[i]? = some v ∧ RelD w H c d v := by
  induction ds generalizing vs i with
  | nil => simp at e
  | cons x ds ih =>
    cases h with
    | cons r t =>
      cases i with
      | zero => simp at e; subst e; exact ⟨_, rfl, r⟩
      | succ i =>
        obtain ⟨v, h1, h2⟩ := ih t (i := i) (by simpa using e)
        exact ⟨v, by simpa using h1, h2⟩
theorem RelDs.getV {ds : List D} {vs : List V} {i : Nat} {v : V} (h : RelDs w H c ds vs) (e : vs[i]? = some v) : ∃ d, ds[i]? = some d ∧ RelD w H c d v := by
  induction ds generalizing vs i with
  | nil => cases h; simp at e
  | cons x ds ih =>
    cases h with
    | cons r t =>
      cases i with
      | zero => simp at e; subst e; exact ⟨_, rfl, r⟩
      | succ i =>
        obtain ⟨v, h1, h2⟩ := ih t (i := i) (by simpa using e)
        exact ⟨v, by simpa using h1, h2⟩
theorem RelDs.append {ds es : List D} {vs us : List V} (h : RelDs w H c ds vs) (k : RelDs w H c es us) : RelDs w H c (ds ++ es) (vs ++ us) := by
  induction ds generalizing vs with
  | nil => cases h; exact k
  | cons d ds ih => cases h with | cons r t => exact .cons r (ih t)
theorem RelDs.set {ds : List D} {vs : List V} {i : Nat} {d : D} {v : V} (h : RelDs w H c ds vs) (r : RelD w H c d v) : RelDs w H c (ds.set i d) (vs.set i v) := by
  induction ds generalizing vs i with
  | nil => cases h; exact .nil
  | cons x ds ih =>
    cases h with
    | cons r0 t =>
      cases i with
      | zero => exact .cons r t
      | succ i => exact .cons r0 (ih t)
theorem RelDs.take {ds : List D} {vs : List V} (n : Nat) (h : RelDs w H c ds vs) : RelDs w H c (ds.take n) (vs.take n) := by
  induction ds generalizing vs n with
  | nil => cases h; simp; exact .nil
  | cons d ds ih =>
    cases h with
    | cons r t =>
      cases n with
      | zero => exact .nil
      | succ n => exact .cons r (ih n t)
theorem RelDs.drop {ds : List D} {vs : List V} (n : Nat) (h : RelDs w H c ds vs) : RelDs w H c (ds.drop n) (vs.drop n) := by
  induction ds generalizing vs n with
  | nil => cases h; simp; exact .nil
  | cons d ds ih =>
    cases h with
    | cons r t =>
      cases n with
      | zero => exact .cons r t
      | succ n => exact ih n t
theorem RelDs.reverse {ds : List D} {vs : List V} (h : RelDs w H c ds vs) : RelDs w H c ds.reverse vs.reverse := by
  induction ds generalizing vs with
  | nil => cases h; exact .nil
  | cons d ds ih =>
    cases h with
    | cons r t => simp only [List.reverse_cons]; exact (ih t).append (.cons r .nil)
theorem RelDs.eraseIdx {ds : List D} {vs : List V} (n : Nat) (h : RelDs w H c ds vs) : RelDs w H c (ds.eraseIdx n) (vs.eraseIdx n) := by
  induction ds generalizing vs n with
  | nil => cases h; exact .nil
  | cons d ds ih =>
    cases h with
    | cons r t =>
      cases n with
      | zero => exact t
      | succ n => exact .cons r (ih n t)

/-! ### growing and writing -/
theorem Good.gne {a b : Addr} (g : Good w H c) (h : H a = none) (hb : b ∈ c.gs) : b ≠ a := fun z => by
  subst z
  obtain ⟨⟨o, q⟩, _⟩ := g.gst b hb
  rw [h] at q; cases q
theorem Ext.fresh {a : Addr} {o : HO} (g : Good w H c) (h : H a = none) : Ext c H c (upd H a o) :=
  ⟨⟨fun _ _ h => h, fun _ h => .inl h, fun b u e _ => by rw [upd_ne (ne_of_none e h)]; exact e⟩, rfl, fun b hb => upd_ne (g.gne h hb)⟩
theorem Good.fresh {a : Addr} {o : HO} (g : Good w H c) (h : H a = none) : Good w (upd H a o) c :=
  ⟨g.len, g.inj, fun n b u e1 e2 => by
    obtain ⟨ho, q, r⟩ := g.obj n b u e1 e2
    exact ⟨ho, by rw [upd_ne (ne_of_none q h)]; exact q, r.ext (Ext.fresh g h)⟩, fun b hb => ⟨by rw [upd_ne (g.gne h hb)]; exact (g.gst b hb).1, (g.gst b hb).2⟩⟩
/-- a new thing that may change -/
def Ct.push (c : Ct) (a : Addr) (o : O) : Ct := ⟨c.p ++ [a], c.S ++ [o], c.gs⟩
theorem Good.lt (g : Good w H c) {n : Nat} {a : Addr} (h : c.p[n]? = some a) : n < c.S.length := by
  rw [← g.len]; exact (List.getElem?_eq_some_iff.mp h).1
theorem Good.ne {a : Addr} (g : Good w H c) (h : H a = none) {n : Nat} {b : Addr} (e : c.p[n]? = some b) : b ≠ a := fun z => by
  subst z
  obtain ⟨ho, q, _⟩ := g.obj n b _ e (List.getElem?_eq_getElem (g.lt e))
  rw [h] at q; cases q
theorem Ext.pushed {a : Addr} {o : O} {ho : HO} (g : Good w H c) (h : H a = none) : Ext c H (c.push a o) (upd H a ho) := by
  refine ⟨⟨fun n b e => ?_, fun b lb => ?_, fun b u e _ => by rw [upd_ne (ne_of_none e h)]; exact e⟩, rfl, fun b hb => upd_ne (g.gne h hb)⟩
  · show (c.p ++ [a])[n]? = some b
    rw [List.getElem?_append_left (List.getElem?_eq_some_iff.mp e).1]; exact e
  · rcases lb with ⟨n, u, e1, e2, e3⟩ | lb
    case inr => exact .inl (.inr lb)
    have e1 : (c.p ++ [a])[n]? = some b := e1
    have e2 : (c.S ++ [o])[n]? = some u := e2
    by_cases l : n < c.p.length
    · rw [List.getElem?_append_left l] at e1
      rw [List.getElem?_append_left (by rw [← g.len]; exact l)] at e2
      exact .inl (.inl ⟨n, u, e1, e2, e3⟩)
    · rw [List.getElem?_append_right (by omega)] at e1
      have z : n - c.p.length = 0 := by
        cases q : n - c.p.length with
        | zero => rfl
        | succ m => rw [q] at e1; simp at e1
      rw [z] at e1
      simp at e1
      subst e1
      exact .inr h
theorem Good.pushed {a : Addr} {o : O} {ho : HO} (g : Good w H c) (h : H a = none) (r : RelO w (upd H a ho) (c.push a o) o ho) : Good w (upd H a ho) (c.push a o) := by
  have ex : Ext c H (c.push a o) (upd H a ho) := Ext.pushed g h
  have dec : ∀ (n : Nat) (b : Addr), (c.p ++ [a])[n]? = some b → c.p[n]? = some b ∨ (n = c.p.length ∧ b = a) := fun n b e => by
    by_cases l : n < c.p.length
    · rw [List.getElem?_append_left l] at e; exact .inl e
    · rw [List.getElem?_append_right (by omega)] at e
      cases q : n - c.p.length with
      | zero => rw [q] at e; simp at e; exact .inr ⟨by omega, e.symm⟩
      | succ m => rw [q] at e; simp at e
  refine ⟨by simp [Ct.push, g.len], fun n m b e1 e2 => ?_, fun n b u e1 e2 => ?_, fun b hb => ⟨by rw [upd_ne (g.gne h hb)]; exact (g.gst b hb).1, fun z => ?_⟩⟩
  · rcases dec n b e1 with e1 | ⟨e1, z1⟩
    · rcases dec m b e2 with e2 | ⟨e2, z2⟩
      · exact g.inj n m b e1 e2
      · exact absurd z2 (g.ne h e1)
    · rcases dec m b e2 with e2 | ⟨e2, z2⟩
      · exact absurd z1 (g.ne h e2)
      · rw [e1, e2]
  · have e2 : (c.S ++ [o])[n]? = some u := e2
    rcases dec n b e1 with e1 | ⟨e1, z1⟩
    · rw [List.getElem?_append_left (g.lt e1)] at e2
      obtain ⟨ho', q, r'⟩ := g.obj n b u e1 e2
      exact ⟨ho', by rw [upd_ne (ne_of_none q h)]; exact q, r'.ext ex⟩
    · rw [e1, g.len] at e2
      simp at e2
      subst e2; subst z1
      exact ⟨ho, upd_same, r⟩
  · rcases List.mem_append.mp (show b ∈ c.p ++ [a] from z) with z | z
    · exact (g.gst b hb).2 z
    · exact g.gne h hb (by simpa using z)
/-- a thing is written -/
def Ct.put (c : Ct) (n : Nat) (o : O) : Ct := ⟨c.p, c.S.set n o, c.gs⟩
theorem Ext.wrote {n : Nat} {a : Addr} {o o' : O} {ho : HO} (g : Good w H c) (e : c.p[n]? = some a) (eo : c.S[n]? = some o) (m : o.mut = true) : Ext c H (c.put n o') (upd H a ho) := by
  have la : Lv c a := .inl ⟨n, o, e, eo, m⟩
  refine ⟨⟨fun _ _ h => h, fun b lb => ?_, fun b u q nl => ?_⟩, rfl, fun b hb => upd_ne fun z => (g.gst b hb).2 (by rw [z]; exact List.mem_of_getElem? e)⟩
  · rcases lb with ⟨k, u, e1, e2, e3⟩ | lb
    case inr => exact .inl (.inr lb)
    have e1 : c.p[k]? = some b := e1
    have e2 : (c.S.set n o')[k]? = some u := e2
    by_cases q : k = n
    · subst q
      obtain rfl : a = b := Option.some.inj (e.symm.trans e1)
      exact .inl la
    · rw [List.getElem?_set_ne (Ne.symm q)] at e2
      exact .inl (.inl ⟨k, u, e1, e2, e3⟩)
  · have : b ≠ a := fun z => by subst z; exact nl la
    rw [upd_ne this]; exact q
theorem Good.wrote {n : Nat} {a : Addr} {o o' : O} {ho : HO} (g : Good w H c) (e : c.p[n]? = some a) (eo : c.S[n]? = some o) (m : o.mut = true) (r : RelO w (upd H a ho) (c.put n o') o' ho) : Good w (upd H a ho) (c.put n o') := by
  have ex : Ext c H (c.put n o') (upd H a ho) := Ext.wrote g e eo m
  refine ⟨by simp [Ct.put, g.len], g.inj, fun k b u e1 e2 => ?_, fun b hb => ⟨?_, (g.gst b hb).2⟩⟩
  case refine_2 => rw [upd_ne fun z => (g.gst b hb).2 (by rw [z]; exact List.mem_of_getElem? e)]; exact (g.gst b hb).1
  have e1 : c.p[k]? = some b := e1
  have e2 : (c.S.set n o')[k]? = some u := e2
  by_cases q : k = n
  · subst q
    obtain rfl : a = b := Option.some.inj (e.symm.trans e1)
    rw [List.getElem?_set_self (g.lt e)] at e2
    cases e2
    exact ⟨ho, upd_same, r⟩
  · rw [List.getElem?_set_ne (Ne.symm q)] at e2
    obtain ⟨ho', q', r'⟩ := g.obj k b u e1 e2
    have : b ≠ a := fun z => by subst z; exact q (g.inj k n b e1 e)
    exact ⟨ho', by rw [upd_ne this]; exact q', r'.ext ex⟩
end

/-! ### a list that is being made -/
section
variable {w : Wd} {c : Ct} {H : Hp} {a : Addr}
def Ct.gh (c : Ct) (a : Addr) : Ct := ⟨c.p, c.S, a :: c.gs⟩
def Ct.ug (c : Ct) (l : List Addr) : Ct := ⟨c.p, c.S, l⟩
theorem Tr.gh {o : HO} (h : H a = none) : Tr c H (c.gh a) (upd H a o) := by
  refine ⟨fun _ _ h => h, fun b lb => ?_, fun b u e _ => by rw [upd_ne (ne_of_none e h)]; exact e⟩
  rcases lb with lb | lb
  · exact .inl (.inl lb)
  · rcases List.mem_cons.mp (show b ∈ a :: c.gs from lb) with rfl | lb
    · exact .inr h
    · exact .inl (.inr lb)
theorem Good.gh {o : HO} (g : Good w H c) (h : H a = none) : Good w (upd H a o) (c.gh a) := by
  refine ⟨g.len, g.inj, fun n b u e1 e2 => ?_, fun b hb => ?_⟩
  · obtain ⟨ho, q, r⟩ := g.obj n b u e1 e2
    exact ⟨ho, by rw [upd_ne (ne_of_none q h)]; exact q, r.tr (Tr.gh h)⟩
  · rcases List.mem_cons.mp (show b ∈ a :: c.gs from hb) with rfl | hb
    · refine ⟨⟨o, upd_same⟩, fun z => ?_⟩
      obtain ⟨n, hn⟩ := List.getElem?_of_mem (show b ∈ c.p from z)
      exact g.ne h hn rfl
    · exact ⟨by rw [upd_ne (g.gne h hb)]; exact (g.gst b hb).1, (g.gst b hb).2⟩
/-- the list that is being made grows -/
theorem Tr.grow {o : HO} (h : a ∈ c.gs) : Tr c H c (upd H a o) := by
  refine ⟨fun _ _ h => h, fun b lb => .inl lb, fun b u e n => ?_⟩
  rw [upd_ne (fun z => n (by rw [z]; exact .inr h))]; exact e
theorem Good.grow {o : HO} (g : Good w H c) (h : a ∈ c.gs) : Good w (upd H a o) c := by
  refine ⟨g.len, g.inj, fun n b u e1 e2 => ?_, fun b hb => ⟨?_, (g.gst b hb).2⟩⟩
  · obtain ⟨ho, q, r⟩ := g.obj n b u e1 e2
    refine ⟨ho, ?_, r.tr (Tr.grow h)⟩
    rw [upd_ne (fun z => (g.gst a h).2 (by rw [← z]; exact List.mem_of_getElem? e1))]; exact q
  · by_cases z : b = a
    · rw [z]; exact ⟨o, upd_same⟩
    · rw [upd_ne z]; exact (g.gst b hb).1
/-- .. and is made -/
theorem Tr.ug {l : List Addr} (h : ∀ b ∈ l, b ∈ c.gs) : Tr c H (c.ug l) H :=
  ⟨fun _ _ h => h, fun b lb => .inl (lb.imp id (h b)), fun b u e _ => e⟩
theorem Good.ug {l : List Addr} (g : Good w H c) (h : ∀ b ∈ l, b ∈ c.gs) : Good w H (c.ug l) :=
  ⟨g.len, g.inj, fun n b u e1 e2 => let ⟨ho, q, r⟩ := g.obj n b u e1 e2; ⟨ho, q, r.tr (Tr.ug h)⟩, fun b hb => g.gst b (h b hb)⟩
end

/-! ### environments -/
structure RelEnv (w : Wd) (H : Hp) (c : Ct) (env : Env) (st : L2.St) : Prop where
  len : env.length = st.length
  get : ∀ (i : Nat) (d : D), env[i]? = some (some d) → ∃ v, st[i]? = some (some v) ∧ RelD w H c d v
section
variable {w : Wd} {c c' : Ct} {H H' : Hp} {env : Env} {st : L2.St}
theorem RelEnv.tr (e : Tr c H c' H') (r : RelEnv w H c env st) : RelEnv w H' c' env st :=
  ⟨r.len, fun i d h => let ⟨v, a, b⟩ := r.get i d h; ⟨v, a, b.tr e⟩⟩
theorem RelEnv.ext (e : Ext c H c' H') (r : RelEnv w H c env st) : RelEnv w H' c' env st := r.tr e.toTr
theorem RelEnv.set {i : Nat} {d : D} {v : V} (r : RelEnv w H c env st) (h : RelD w H c d v) : RelEnv w H c (env.set i (some d)) (st.set i (some v)) := by
  refine ⟨by simp [r.len], fun j x e => ?_⟩
  by_cases q : j = i
  · subst q
    have l : j < env.length := by
      have := (List.getElem?_eq_some_iff.mp e).1
      simpa using this
    rw [List.getElem?_set_self l] at e
    cases e
    exact ⟨v, List.getElem?_set_self (by rw [← r.len]; exact l), h⟩
  · rw [List.getElem?_set_ne (Ne.symm q)] at e ⊢
    exact r.get j x e
end
end Mi
end
section
set_option maxRecDepth 100000
namespace Mi
open PySem L2
/-- what is wanted behind a run -/
def RelX (w : Wd) (H : Hp) (c : Ct) (x : Xn) (cls : Value) (dd : Option Addr) : Prop := ∃ C, cls = .ref C ∧ w.mg x.c = some (.ref C) ∧
  ((x.fs = [] ∧ dd = none) ∨ ∃ d vs, dd = some d ∧ H d = some (.xd ((x.fs.map (·.1)).zip vs)) ∧ RelDs w H c (x.fs.map (·.2)) vs)
def Fin {α : Type} (w : Wd) (E : XK) (c : Ct) (H : Hp) (r : R α) (k : α → Ct → Hp → Prop) : Prop := match r with
  | .ok a S => ∀ c' H', Ext c H c' H' → Good w H' c' → c'.S = S → k a c' H'
  | .ex x S => ∀ c' H' cls dd, Ext c H c' H' → Good w H' c' → c'.S = S → RelX w H' c' x cls dd → E cls dd H'
  | .no => False
section
variable {α β : Type} {w : Wd} {E : XK} {c : Ct} {H : Hp}
theorem Fin.bind {r : R α} {g : α → Sto → R β} {k : β → Ct → Hp → Prop} (h : Fin w E c H (r.bind g) k) : Fin w E c H r (fun a c1 H1 => Fin w E c1 H1 (g a c1.S) k) := by
  cases r with
  | no => exact h
  | ex x S => exact h
  | ok a S =>
    intro c1 H1 e1 g1 s1
    have h : Fin w E c H (g a S) k := h
    rw [s1]
    cases q : g a S with
    | no => rw [q] at h; exact h
    | ex x S2 =>
      rw [q] at h
      intro c2 H2 cls dd e2 g2 s2 rx
      exact h c2 H2 cls dd (e1.trans e2) g2 s2 rx
    | ok b S2 =>
      rw [q] at h
      intro c2 H2 e2 g2 s2
      exact h c2 H2 (e1.trans e2) g2 s2
theorem Fin.mono {r : R α} {k k' : α → Ct → Hp → Prop} (h : Fin w E c H r k) (i : ∀ a c' H', Ext c H c' H' → Good w H' c' → k a c' H' → k' a c' H') : Fin w E c H r k' := by
  cases r with
  | no => exact h
  | ex x S => exact h
  | ok a S =>
    intro c1 H1 e1 g1 s1
    exact i a c1 H1 e1 g1 (h c1 H1 e1 g1 s1)
theorem Fin.here {a : α} {S : Sto} {k : α → Ct → Hp → Prop} (h : Fin w E c H (.ok a S) k) (g : Good w H c) (e : c.S = S) : k a c H := h c H (Ext.refl c H) g e
theorem Fin.new {a : α} {S : Sto} {k : α → Ct → Hp → Prop} {p : Addr} {o : HO} (h : Fin w E c H (.ok a S) k) (g : Good w H c) (e : c.S = S) (hp : H p = none) : k a c (upd H p o) := h c _ (Ext.fresh g hp) (g.fresh hp) e
end

/-- a statement's end: how it goes on; what it raises is told with the names as they stand -/
inductive SR where
  | fl (f : Fl) (s : Sto) | ex (x : Xn) (e : Env) (s : Sto) | no
abbrev SM := Env → Sto → SR
def R.st (r : R D) (env : Env) (g : D → Sto → SR) : SR := match r with
  | .ok d s => g d s
  | .ex x s => .ex x env s
  | .no => .no
def R.bt (r : R Bool) (env : Env) (g : Bool → Sto → SR) : SR := match r with
  | .ok d s => g d s
  | .ex x s => .ex x env s
  | .no => .no
def R.lt (r : R (List D)) (env : Env) (g : List D → Sto → SR) : SR := match r with
  | .ok d s => g d s
  | .ex x s => .ex x env s
  | .no => .no
def SR.then (r : SR) (g : Env → Sto → SR) : SR := match r with
  | .fl (.nx e) s => g e s
  | r => r
@[simp] theorem st_ok (d : D) (s : Sto) (env : Env) (g : D → Sto → SR) : (R.ok d s).st env g = g d s := rfl
@[simp] theorem st_ex (x : Xn) (s : Sto) (env : Env) (g : D → Sto → SR) : (R.ex x s : R D).st env g = .ex x env s := rfl
@[simp] theorem bt_ok (d : Bool) (s : Sto) (env : Env) (g : Bool → Sto → SR) : (R.ok d s).bt env g = g d s := rfl
@[simp] theorem lt_ok (d : List D) (s : Sto) (env : Env) (g : List D → Sto → SR) : (R.ok d s).lt env g = g d s := rfl
@[simp] theorem then_nx (e : Env) (s : Sto) (g : Env → Sto → SR) : (SR.fl (.nx e) s).then g = g e s := rfl
@[simp] theorem then_rt (d : D) (s : Sto) (g : Env → Sto → SR) : (SR.fl (.rt d) s).then g = .fl (.rt d) s := rfl
@[simp] theorem then_bk (d : Env) (s : Sto) (g : Env → Sto → SR) : (SR.fl (.bk d) s).then g = .fl (.bk d) s := rfl
@[simp] theorem then_ct (d : Env) (s : Sto) (g : Env → Sto → SR) : (SR.fl (.ct d) s).then g = .fl (.ct d) s := rfl
@[simp] theorem then_ex (x : Xn) (e : Env) (s : Sto) (g : Env → Sto → SR) : (SR.ex x e s).then g = .ex x e s := rfl

/-! ### the readings -/
abbrev Wx (X : Cx) : Wd := ⟨X.K, X.mg⟩
def tM (w : Wd) (E : L2.St → XK) (f : ET) : TE := fun st H Q => ∃ c env, Good w H c ∧ RelEnv w H c env st ∧ Fin w (E st) c H (f env c.S) (fun d c' H' => ∀ v, RelD w H' c' d v → Q v H')
def tMB (w : Wd) (E : L2.St → XK) (f : BT) : TT := fun st H Q => ∃ c env, Good w H c ∧ RelEnv w H c env st ∧ Fin w (E st) c H (f env c.S) (fun b _ H' => Q b H')
def tMA (w : Wd) (E : L2.St → XK) (f : AT) : TA := fun st H Q => ∃ c env, Good w H c ∧ RelEnv w H c env st ∧ Fin w (E st) c H (f env c.S) (fun ds c' H' => ∀ vs, RelDs w H' c' ds vs → Q vs H')
def FlK (w : Wd) (En : Ends) (fl : Fl) (c : Ct) (H : Hp) : Prop := match fl with
  | .nx e => ∀ st, RelEnv w H c e st → En.nx st H
  | .bk e => ∀ st, RelEnv w H c e st → En.bk st H
  | .ct e => ∀ st, RelEnv w H c e st → En.ct st H
  | .rt d => ∀ v, RelD w H c d v → En.rt v H
def FinS (w : Wd) (E : L2.St → XK) (c : Ct) (H : Hp) (r : SR) (En : Ends) : Prop := match r with
  | .fl fl S => ∀ c' H', Ext c H c' H' → Good w H' c' → c'.S = S → FlK w En fl c' H'
  | .ex x env S => ∀ c' H' cls dd st, Ext c H c' H' → Good w H' c' → c'.S = S → RelEnv w H' c' env st → RelX w H' c' x cls dd → E st cls dd H'
  | .no => False
def tMS (w : Wd) (E : L2.St → XK) (f : SM) : TS := fun En st H => ∃ c env, Good w H c ∧ RelEnv w H c env st ∧ FinS w E c H (f env c.S) En
section
variable {w : Wd} {E : L2.St → XK} {c : Ct} {H : Hp} {env : Env} {st : L2.St} {En : Ends}
theorem FinS.later {c1 : Ct} {H1 : Hp} {r : SR} (e : Ext c H c1 H1) (h : FinS w E c H r En) : FinS w E c1 H1 r En := by
  cases r with
  | no => exact h
  | fl f S => exact fun c' H' e' g' s' => h c' H' (e.trans e') g' s'
  | ex x v S => exact fun c' H' cls dd st e' g' s' => h c' H' cls dd st (e.trans e') g' s'
theorem FinS.of_st {r : R D} {g : D → Sto → SR} (re : RelEnv w H c env st) (h : FinS w E c H (r.st env g) En) : Fin w (E st) c H r (fun d c1 H1 => FinS w E c1 H1 (g d c1.S) En) := by
  cases r with
  | no => exact h
  | ex x S => exact fun c' H' cls dd e' g' s' rx => h c' H' cls dd st e' g' s' (re.ext e') rx
  | ok d S =>
    intro c1 H1 e1 g1 s1
    rw [s1]
    exact FinS.later e1 (show FinS w E c H (g d S) En from h)
theorem FinS.of_bt {r : R Bool} {g : Bool → Sto → SR} (re : RelEnv w H c env st) (h : FinS w E c H (r.bt env g) En) : Fin w (E st) c H r (fun d c1 H1 => FinS w E c1 H1 (g d c1.S) En) := by
  cases r with
  | no => exact h
  | ex x S => exact fun c' H' cls dd e' g' s' rx => h c' H' cls dd st e' g' s' (re.ext e') rx
  | ok d S =>
    intro c1 H1 e1 g1 s1
    rw [s1]
    exact FinS.later e1 (show FinS w E c H (g d S) En from h)
theorem FinS.of_lt {r : R (List D)} {g : List D → Sto → SR} (re : RelEnv w H c env st) (h : FinS w E c H (r.lt env g) En) : Fin w (E st) c H r (fun d c1 H1 => FinS w E c1 H1 (g d c1.S) En) := by
  cases r with
  | no => exact h
  | ex x S => exact fun c' H' cls dd e' g' s' rx => h c' H' cls dd st e' g' s' (re.ext e') rx
  | ok d S =>
    intro c1 H1 e1 g1 s1
    rw [s1]
    exact FinS.later e1 (show FinS w E c H (g d S) En from h)
end
section
variable {X : Cx} {E : L2.St → XK}
theorem PE.imp {e : Expr} {t t' : TE} (h : PE X e t) (i : ∀ st H Q, t' st H Q → t st H Q) : PE X e t' := ⟨fun pins s st H Q I q => h.run pins s st H Q I (i st H Q q)⟩
theorem PT.imp {e : Expr} {t t' : TT} (h : PT X e t) (i : ∀ st H Q, t' st H Q → t st H Q) : PT X e t' := ⟨fun pins s st H Q I q => h.run pins s st H Q I (i st H Q q)⟩
theorem PW.imp {e : Expr} {t t' : TT} (h : PW X e t) (i : ∀ st H Q, t' st H Q → t st H Q) : PW X e t' := ⟨fun wh pins s st H Q I q => h.run wh pins s st H Q I (i st H Q q)⟩
theorem PA.imp {e : List Expr} {t t' : TA} (h : PA X e t) (i : ∀ st H Q, t' st H Q → t st H Q) : PA X e t' := ⟨fun pos pins s st H Q I q => h.run pos pins s st H Q I (i st H Q q)⟩
theorem PS.imp {e : Stmt} {t t' : TS} (h : PS X e t) (i : ∀ En st H, t' En st H → t En st H) : PS X e t' := ⟨fun pins s st H Q I q => h.run pins s st H Q I (i Q st H q)⟩
theorem PSs.imp {e : List Stmt} {t t' : TS} (h : PSs X e t) (i : ∀ En st H, t' En st H → t En st H) : PSs X e t' := ⟨fun pins s st H Q I q => h.run pins s st H Q I (i Q st H q)⟩
abbrev ME (X : Cx) (E : L2.St → XK) (e : Expr) (f : ET) : Prop := PE X e (tM (Wx X) E f)
abbrev MT (X : Cx) (E : L2.St → XK) (e : Expr) (f : BT) : Prop := PT X e (tMB (Wx X) E f)
abbrev MW (X : Cx) (E : L2.St → XK) (e : Expr) (f : BT) : Prop := PW X e (tMB (Wx X) E f)
abbrev MA (X : Cx) (E : L2.St → XK) (e : List Expr) (f : AT) : Prop := PA X e (tMA (Wx X) E f)
abbrev MS (X : Cx) (E : L2.St → XK) (e : Stmt) (f : SM) : Prop := PS X e (tMS (Wx X) E f)
abbrev MSs (X : Cx) (E : L2.St → XK) (e : List Stmt) (f : SM) : Prop := PSs X e (tMS (Wx X) E f)

/-! ### names and constants -/
def mVar (i : Nat) : ET := fun env s => match env[i]? with
  | some (some d) => .ok d s
  | _ => .no
def mC (d : D) : ET := fun _ s => .ok d s
theorem me_of_var {e : Expr} {i : Nat} (h : PE X e (tVar i)) : ME X E e (mVar i) := PE.imp h fun st H Q ⟨c, env, g, re, q⟩ => by
  unfold mVar at q
  cases e : env[i]? with
  | none => rw [e] at q; exact q.elim
  | some o =>
    cases o with
    | none => rw [e] at q; exact q.elim
    | some d =>
      rw [e] at q
      obtain ⟨v, a, b⟩ := re.get i d e
      exact ⟨v, a, q.here g rfl v b⟩
theorem me_of_const {e : Expr} {d : D} {v : V} (h : PE X e (tC v)) (r : ∀ H c, RelD (Wx X) H c d v) : ME X E e (mC d) := PE.imp h fun st H Q ⟨c, env, g, re, q⟩ => q.here g rfl v (r H c)
theorem me_int {i j pos} : ME X E (.Constant (.int i) j pos) (mC (.int i)) := me_of_const pe_int fun _ _ => .int i
theorem me_bl {i j pos} : ME X E (.Constant (.bool i) j pos) (mC (.bl i)) := me_of_const pe_bl fun _ _ => .bl i
theorem me_non {j pos} : ME X E (.Constant .none j pos) (mC .non) := me_of_const pe_non fun _ _ => .non
theorem me_str {i j pos} (h : i.length ≤ sizeLine := by decide) : ME X E (.Constant (.str i) j pos) (mC (.str i)) := me_of_const pe_str fun _ _ => .str i h
theorem mv (i : Nat) {x : Str} {pos : Pos} (hN : X.N[i]? = some x := by rfl) (hv : Vis X.env.scope x := by first | exact Or.inl rfl | exact Or.inr (Or.inl rfl) | exact Or.inr (Or.inr rfl)) (hd : (x == ("__debug__" : Str)) = false := by decide)
    (hcd : (x == ("__classdict__" : Str)) = false := by decide) : ME X E (.Name x pos) (mVar i) := me_of_var (pe_var hN hv hd hcd)
/-- a module's constant -/
theorem me_glob {x : Str} {d : D} {v : V} {u : Value} {pos : Pos} (hg : Gl X x) (hm : X.mg x = some u) (r : RelV v u) (rd : ∀ H c, RelD (Wx X) H c d v) (hd : (x == ("__debug__" : Str)) = false := by decide) : ME X E (.Name x pos) (mC d) := me_of_const (pe_glob hg hm r hd) rd

/-! ### operators that change nothing -/
abbrev Op2 := Sto → D → D → Option D
def mOp (op : Op2) (fa fb : ET) : ET := fun env s => (fa env s).bind fun d s1 => (fb env s1).bind fun e s2 => match op s2 d e with
  | some z => .ok z s2
  | none => .no
def rO (w : Wd) (op : Op2) : R2 := fun x y H Q => ∃ c d e z, Good w H c ∧ RelD w H c d x ∧ RelD w H c e y ∧ op c.S d e = some z ∧ ∀ H', Ext c H c H' → Good w H' c → ∀ v, RelD w H' c z v → Q v H'
theorem tOp_M {w : Wd} {op : Op2} {fa fb : ET} {st : L2.St} {H : Hp} {Q : VK} (h : tM w E (mOp op fa fb) st H Q) : tOp (rO w op) (tM w E fa) (tM w E fb) st H Q := by
  obtain ⟨c, env, g, re, q⟩ := h
  refine ⟨c, env, g, re, (Fin.bind q).mono fun d c1 H1 e1 g1 q1 v rv => ?_⟩
  refine ⟨c1, env, g1, re.ext e1, (Fin.bind q1).mono fun d2 c2 H2 e2 g2 q2 v2 rv2 => ?_⟩
  cases z : op c2.S d d2 with
  | none => rw [z] at q2; exact q2.elim
  | some y =>
    rw [z] at q2
    exact ⟨c2, d, d2, y, g2, rv.ext e2, rv2, z, fun H' e' g' v' r' => q2 c2 H' e' g' rfl v' r'⟩
abbrev OpM (X : Cx) (f : Value → Value → Sem Value) (op : Op2) : Prop := OpR X f (rO (Wx X) op)
variable {a b c' : Expr} {fa fb fc : ET} {pos : Pos}
theorem me_op {o : Operator} {op : Op2} (ho : OpM X (binaryOp o) op) (ha : ME X E a fa) (hb : ME X E b fb) : ME X E (.BinOp a o b pos) (mOp op fa fb) := PE.imp (pe_op ho ha hb) fun _ _ _ => tOp_M
theorem me_cmp {o : CmpOp} {op : Op2} (ho : OpM X (compareOp o) op) (ha : ME X E a fa) (hb : ME X E b fb) (hm : behindInMarks o b = false) : ME X E (.Compare a [o] [b] pos) (mOp op fa fb) := PE.imp (pe_cmpR ho ha hb hm) fun _ _ _ => tOp_M
/-- a value that is a truth value -/
def mB (f : ET) : BT := fun env s => (f env s).bind fun d s1 => match d with
  | .bl b => .ok b s1
  | _ => .no
theorem tB_M {w : Wd} {f : ET} {st : L2.St} {H : Hp} {Q : Bool → Hp → Prop} (h : tMB w E (mB f) st H Q) : tM w E f st H fun x H' => ∃ k, x = .bl k ∧ Q k H' := by
  obtain ⟨c, env, g, re, q⟩ := h
  refine ⟨c, env, g, re, (Fin.bind q).mono fun d c1 H1 e1 g1 q1 v rv => ?_⟩
  cases d with
  | bl b => cases rv; exact ⟨b, rfl, q1.here g1 rfl⟩
  | _ => exact q1.elim
theorem mt_cmp {o : CmpOp} {op : Op2} (ho : OpM X (compareOp o) op) (ha : ME X E a fa) (hb : ME X E b fb) (hm : behindInMarks o b = false) : MT X E (.Compare a [o] [b] pos) (mB (mOp op fa fb)) :=
  PT.imp (pt_cmpR ho ha hb hm) fun st H Q h => by
    obtain ⟨c, env, g, re, q⟩ := tB_M h
    exact tOp_M ⟨c, env, g, re, q⟩
/-- unary operators -/
def mUn (op : Sto → D → Option D) (fa : ET) : ET := fun env s => (fa env s).bind fun d s1 => match op s1 d with
  | some z => .ok z s1
  | none => .no
def rU1 (w : Wd) (op : Sto → D → Option D) : V → Hp → VK → Prop := fun x H Q => ∃ c d z, Good w H c ∧ RelD w H c d x ∧ op c.S d = some z ∧ ∀ H', Ext c H c H' → Good w H' c → ∀ v, RelD w H' c z v → Q v H'
theorem me_un {o : UnaryOp} {op : Sto → D → Option D} (ho : UnR X (unaryOp o) (rU1 (Wx X) op)) (ha : ME X E a fa) : ME X E (.UnaryOp o a pos) (mUn op fa) := PE.imp (pe_un ho ha) fun st H Q ⟨c, env, g, re, q⟩ => by
  refine ⟨c, env, g, re, (Fin.bind q).mono fun d c1 H1 e1 g1 q1 v rv => ?_⟩
  cases z : op c1.S d with
  | none => rw [z] at q1; exact q1.elim
  | some y =>
    rw [z] at q1
    exact ⟨c1, d, y, g1, rv, z, fun H' e' g' v' r' => q1 c1 H' e' g' rfl v' r'⟩
/-- a chain of two comparisons -/
def mChain (op op' : Op2) (fa fb fc : ET) : ET := fun env s => (fa env s).bind fun d s1 => (fb env s1).bind fun e s2 => match op s2 d e with
  | some (.bl true) => (fc env s2).bind fun k s3 => match op' s3 e k with
    | some z => .ok z s3
    | none => .no
  | some (.bl false) => .ok (.bl false) s2
  | _ => .no
theorem tChain_M {w : Wd} {op op' : Op2} {st : L2.St} {H : Hp} {Q : VK} (h : tM w E (mChain op op' fa fb fc) st H Q) : tChain (rO w op) (rO w op') (tM w E fa) (tM w E fb) (tM w E fc) st H Q := by
  obtain ⟨c, env, g, re, q⟩ := h
  refine ⟨c, env, g, re, (Fin.bind q).mono fun d c1 H1 e1 g1 q1 v rv => ?_⟩
  refine ⟨c1, env, g1, re.ext e1, (Fin.bind q1).mono fun d2 c2 H2 e2 g2 q2 v2 rv2 => ?_⟩
  cases z : op c2.S d d2 with
  | none => rw [z] at q2; exact q2.elim
  | some y =>
    rw [z] at q2
    cases y with
    | bl k =>
      refine ⟨c2, d, d2, .bl k, g2, rv.ext e2, rv2, z, fun H' e' g' v' r' => ?_⟩
      cases r'
      refine ⟨k, rfl, ?_⟩
      cases k with
      | false => simp only [Bool.false_eq_true, if_false]; exact q2 c2 H' e' g' rfl _ (.bl false)
      | true =>
        simp only [if_true]
        have q2 : Fin w (E st) c2 H2 ((fc env c2.S).bind fun k s3 => match op' s3 d2 k with | some z => .ok z s3 | none => .no) (fun d c' H' => ∀ v, RelD w H' c' d v → Q v H') := q2
        have q3 : Fin w (E st) c2 H' (fc env c2.S) (fun a c1 H1 => Fin w (E st) c1 H1 (match op' c1.S d2 a with | some z => .ok z c1.S | none => .no) (fun d c' H' => ∀ v, RelD w H' c' d v → Q v H')) := by
          have := Fin.bind q2
          cases q : fc env c2.S with
          | no => rw [q] at this; exact this
          | ex x S => rw [q] at this; exact fun c3 H3 cls dd e3 g3 s3 => this c3 H3 cls dd (e'.trans e3) g3 s3
          | ok a S => rw [q] at this; exact fun c3 H3 e3 g3 s3 => this c3 H3 (e'.trans e3) g3 s3
        refine ⟨c2, env, g', re.ext ((e1.trans e2).trans e'), q3.mono fun d3 c3 H3 e3 g3 q4 v3 rv3 => ?_⟩
        cases z3 : op' c3.S d2 d3 with
        | none => rw [z3] at q4; exact q4.elim
        | some y3 =>
          rw [z3] at q4
          exact ⟨c3, d2, d3, y3, g3, (rv2.ext e').ext e3, rv3, z3, fun H4 e4 g4 v4 r4 => q4 c3 H4 e4 g4 rfl v4 r4⟩
    | _ => exact q2.elim
theorem me_chain {o o' : CmpOp} {op op' : Op2} (ho : OpM X (compareOp o) op) (ho' : OpM X (compareOp o') op') (ha : ME X E a fa) (hb : ME X E b fb) (hc : ME X E c' fc)
    (hm : lastMarks [o, o'] [b, c'] = false := by with_unfolding_all rfl) : ME X E (.Compare a [o, o'] [b, c'] pos) (mChain op op' fa fb fc) := PE.imp (pe_chain ho ho' ha hb hc hm) fun _ _ _ => tChain_M
theorem mt_chain {o o' : CmpOp} {op op' : Op2} (ho : OpM X (compareOp o) op) (ho' : OpM X (compareOp o') op') (ha : ME X E a fa) (hb : ME X E b fb) (hc : ME X E c' fc)
    (hm : lastMarks [o, o'] [b, c'] = false := by with_unfolding_all rfl) : MT X E (.Compare a [o, o'] [b, c'] pos) (mB (mChain op op' fa fb fc)) := PT.imp (pt_chain ho ho' ha hb hc hm) fun st H Q h => by
    obtain ⟨c, env, g, re, q⟩ := tB_M h
    exact tChain_M ⟨c, env, g, re, q⟩
end
end Mi
end
section
set_option maxRecDepth 100000
namespace Mi
open PySem L2
/-! ### truth -/
def truD (s : Sto) : D → Option Bool
  | .non => some false
  | .bl b => some b
  | .int i => some (i != 0)
  | .str x => some ((x.length : Int) != 0)
  | .tup xs => some (!xs.isEmpty)
  | .lst xs => some (!xs.isEmpty)
  | .ref n => match s[n]? with
    | some (.lst _ xs) => some (!xs.isEmpty)
    | some (.dic true kvs) => some (!kvs.isEmpty)
    | _ => none
  | _ => none
theorem RelDs.empty {w : Wd} {H : Hp} {c : Ct} {ds : List D} {vs : List V} (h : RelDs w H c ds vs) : ds.isEmpty = vs.isEmpty := by
  cases h <;> rfl
theorem zip_empty {α β γ : Type} {kvs : List (α × β)} {vs : List γ} (h : kvs.length = vs.length) : kvs.isEmpty = ((kvs.map (·.1)).zip vs).isEmpty := by
  cases kvs with
  | nil => rfl
  | cons a r => cases vs with
    | nil => simp at h
    | cons b s => rfl
theorem truD_ok {w : Wd} {H : Hp} {c : Ct} {d : D} {v : V} {k : Bool} (g : Good w H c) (r : RelD w H c d v) (h : truD c.S d = some k) : TruV w.K v H k := by
  cases r with
  | non => simp [truD] at h; exact h.symm ▸ rfl
  | bl b => simp [truD] at h; exact h.symm
  | int i => simp [truD] at h; show k = (i != 0); rw [← h]
  | str x hx => simp [truD] at h; exact ⟨hx, h.symm⟩
  | tup hs rs => have h := Option.some.inj h; exact .inr (.inl ⟨_, hs.sq, by rw [← h, rs.empty]⟩)
  | lst hs rs => have h := Option.some.inj h; exact .inl ⟨_, hs.sq, by rw [← h, rs.empty]⟩
  | dic => simp [truD] at h
  | ins => simp [truD] at h
  | scr => simp [truD] at h
  | cls => simp [truD] at h
  | @ref n a hn =>
    simp only [truD] at h
    cases e : c.S[n]? with
    | none => rw [e] at h; cases h
    | some o =>
      rw [e] at h
      obtain ⟨ho, q, ro⟩ := g.obj n a o hn e
      cases ro with
      | lst rs => have h := Option.some.inj h; exact .inl ⟨_, .inl (.inl q), by rw [← h, rs.empty]⟩
      | @dic m kvs vs _ rs h1 h2 =>
        cases m with
        | false => simp at h
        | true =>
          have h := Option.some.inj h
          rw [h2 rfl] at q
          refine .inr (.inr ⟨_, q, ?_⟩)
          rw [← h, zip_empty (by simpa using rs.length)]
      | ins => simp at h
section
variable {X : Cx} {E : L2.St → XK} {a b c' : Expr} {fa fb fc : ET} {ba bb : BT} {pos : Pos} {rest : List Expr}
def mAnd (fa fb : ET) : ET := fun env s => (fa env s).bind fun d s1 => match truD s1 d with
  | some true => fb env s1
  | some false => .ok d s1
  | none => .no
def mOr (fa fb : ET) : ET := fun env s => (fa env s).bind fun d s1 => match truD s1 d with
  | some true => .ok d s1
  | some false => fb env s1
  | none => .no
def mNot (fa : ET) : ET := fun env s => (fa env s).bind fun d s1 => match truD s1 d with
  | some k => .ok (.bl (!k)) s1
  | none => .no
theorem me_one {op} (h : ME X E a fa) : ME X E (.BoolOp op [a] pos) fa := pe_one h
theorem me_and (ha : ME X E a fa) (hb : ME X E (.BoolOp .And (b :: rest) pos) fb) : ME X E (.BoolOp .And (a :: b :: rest) pos) (mAnd fa fb) := PE.imp (pe_andT ha hb) fun st H Q ⟨c, env, g, re, q⟩ => by
  refine ⟨c, env, g, re, (Fin.bind q).mono fun d c1 H1 e1 g1 q1 v rv => ?_⟩
  cases z : truD c1.S d with
  | none => rw [z] at q1; exact q1.elim
  | some k =>
    rw [z] at q1
    refine ⟨k, truD_ok g1 rv z, ?_⟩
    cases k with
    | true => exact iteT ⟨c1, env, g1, re.ext e1, q1⟩
    | false => exact iteF (q1.here g1 rfl v rv)
theorem me_or (ha : ME X E a fa) (hb : ME X E (.BoolOp .Or (b :: rest) pos) fb) : ME X E (.BoolOp .Or (a :: b :: rest) pos) (mOr fa fb) := PE.imp (pe_orT ha hb) fun st H Q ⟨c, env, g, re, q⟩ => by
  refine ⟨c, env, g, re, (Fin.bind q).mono fun d c1 H1 e1 g1 q1 v rv => ?_⟩
  cases z : truD c1.S d with
  | none => rw [z] at q1; exact q1.elim
  | some k =>
    rw [z] at q1
    refine ⟨k, truD_ok g1 rv z, ?_⟩
    cases k with
    | true => exact iteT (q1.here g1 rfl v rv)
    | false => exact iteF ⟨c1, env, g1, re.ext e1, q1⟩
theorem me_not (ha : ME X E a fa) : ME X E (.UnaryOp .Not a pos) (mNot fa) := PE.imp (pe_notT ha) fun st H Q ⟨c, env, g, re, q⟩ => by
  refine ⟨c, env, g, re, (Fin.bind q).mono fun d c1 H1 e1 g1 q1 v rv => ?_⟩
  cases z : truD c1.S d with
  | none => rw [z] at q1; exact q1.elim
  | some k =>
    rw [z] at q1
    exact ⟨k, truD_ok g1 rv z, q1.here g1 rfl _ (.bl _)⟩
/-- tests -/
def mTru (fa : ET) : BT := fun env s => (fa env s).bind fun d s1 => match truD s1 d with
  | some k => .ok k s1
  | none => .no
theorem mt_truth (ha : ME X E a fa) (he : ∀ whole, isTrue a X.env whole = (do let v ← whole; standAt a.pos; holding [v] (truthy v)) := by intro _; rfl) : MT X E a (mTru fa) := PT.imp (pt_truth ha he) fun st H Q ⟨c, env, g, re, q⟩ => by
  refine ⟨c, env, g, re, (Fin.bind q).mono fun d c1 H1 e1 g1 q1 v rv => ?_⟩
  cases z : truD c1.S d with
  | none => rw [z] at q1; exact q1.elim
  | some k =>
    rw [z] at q1
    exact ⟨k, truD_ok g1 rv z, q1.here g1 rfl⟩
def bAnd (fa fb : BT) : BT := fun env s => (fa env s).bind fun d s1 => match d with
  | true => fb env s1
  | false => .ok false s1
def bOr (fa fb : BT) : BT := fun env s => (fa env s).bind fun d s1 => match d with
  | true => .ok true s1
  | false => fb env s1
def bNot (fa : BT) : BT := fun env s => (fa env s).bind fun d s1 => .ok (!d) s1
theorem mw_and1 (ha : MT X E a ba) : MW X E (.BoolOp .And [a] pos) ba := pw_and1 ha
theorem mw_or1 (ha : MT X E a ba) : MW X E (.BoolOp .Or [a] pos) ba := pw_or1 ha
theorem mw_and (ha : MT X E a ba) (hb : MW X E (.BoolOp .And (b :: rest) pos) bb) : MW X E (.BoolOp .And (a :: b :: rest) pos) (bAnd ba bb) := PW.imp (pw_and ha hb) fun st H Q ⟨c, env, g, re, q⟩ => by
  refine ⟨c, env, g, re, (Fin.bind q).mono fun d c1 H1 e1 g1 q1 => ?_⟩
  cases d with
  | true => exact iteT ⟨c1, env, g1, re.ext e1, q1⟩
  | false => exact iteF (q1.here g1 rfl)
theorem mw_or (ha : MT X E a ba) (hb : MW X E (.BoolOp .Or (b :: rest) pos) bb) : MW X E (.BoolOp .Or (a :: b :: rest) pos) (bOr ba bb) := PW.imp (pw_or ha hb) fun st H Q ⟨c, env, g, re, q⟩ => by
  refine ⟨c, env, g, re, (Fin.bind q).mono fun d c1 H1 e1 g1 q1 => ?_⟩
  cases d with
  | true => exact iteT (q1.here g1 rfl)
  | false => exact iteF ⟨c1, env, g1, re.ext e1, q1⟩
theorem mt_w (h : MW X E a ba) : MT X E a ba := PW.pt h
theorem mt_not (ha : MT X E a ba) : MT X E (.UnaryOp .Not a pos) (bNot ba) := PT.imp (pt_not ha) fun st H Q ⟨c, env, g, re, q⟩ =>
  ⟨c, env, g, re, (Fin.bind q).mono fun d c1 H1 e1 g1 q1 => q1.here g1 rfl⟩
/-- a if t else b -/
def mIf (bc : BT) (fa fb : ET) : ET := fun env s => (bc env s).bind fun k s1 => match k with
  | true => fa env s1
  | false => fb env s1
theorem me_if {bc : BT} (hc : MT X E c' bc) (ha : ME X E a fa) (hb : ME X E b fb) : ME X E (.IfExp c' a b pos) (mIf bc fa fb) := PE.imp (pe_ifExp hc ha hb) fun st H Q ⟨c, env, g, re, q⟩ => by
  refine ⟨c, env, g, re, (Fin.bind q).mono fun d c1 H1 e1 g1 q1 => ?_⟩
  cases d with
  | true => exact iteT ⟨c1, env, g1, re.ext e1, q1⟩
  | false => exact iteF ⟨c1, env, g1, re.ext e1, q1⟩
/-! ### arguments, displays -/
def mNil : AT := fun _ s => .ok [] s
def mCons (fa : ET) (r : AT) : AT := fun env s => (fa env s).bind fun d s1 => (r env s1).bind fun ds s2 => .ok (d :: ds) s2
variable {es : List Expr} {fs : AT}
theorem ma_nil : MA X E [] mNil := PA.imp pa_nil fun st H Q ⟨c, env, g, re, q⟩ => q.here g rfl [] .nil
theorem ma_cons (ha : ME X E a fa) (hr : MA X E es fs) (hs : starEach (a :: es) X.env = (false, eval a X.env) :: starEach es X.env := by rfl) : MA X E (a :: es) (mCons fa fs) := PA.imp (pa_cons ha hr hs) fun st H Q ⟨c, env, g, re, q⟩ => by
  refine ⟨c, env, g, re, (Fin.bind q).mono fun d c1 H1 e1 g1 q1 v rv => ?_⟩
  refine ⟨c1, env, g1, re.ext e1, (Fin.bind q1).mono fun ds c2 H2 e2 g2 q2 vs rvs => ?_⟩
  exact q2.here g2 rfl _ (.cons (rv.ext e2) rvs)
def mTup (fs : AT) : ET := fun env s => (fs env s).bind fun ds s1 => if ds.length ≤ sizeLine then .ok (.tup ds) s1 else .no
/-- a list that stays as it is made -/
def mLst (fs : AT) : ET := fun env s => (fs env s).bind fun ds s1 => if ds.length ≤ sizeLine then .ok (.lst ds) s1 else .no
/-- a list that may be changed -/
def mLstR (fs : AT) : ET := fun env s => (fs env s).bind fun ds s1 => if ds.length ≤ sizeLine then .ok (.ref s1.length) (s1 ++ [.lst true ds]) else .no
theorem nlv_of {w : Wd} {H : Hp} {c : Ct} (g : Good w H c) {p : Addr} (h : H p = none) : ¬ Lv c p := fun l => by
  rcases l with ⟨n, o, e, eo, m⟩ | l
  · exact g.ne h e rfl
  · exact g.gne h l rfl
theorem fz_new {w : Wd} {H : Hp} {c : Ct} {ds : List D} {vs : List V} (g : Good w H c) {p : Addr} (h : H p = none) (r : RelDs w H c ds vs) : RelD w (upd H p (.lst vs)) c (.lst ds) (.ref p) :=
  .lst ⟨upd_same, nlv_of g h⟩ (r.ext (Ext.fresh g h))
theorem ft_new {w : Wd} {H : Hp} {c : Ct} {ds : List D} {vs : List V} (g : Good w H c) {p : Addr} (h : H p = none) (r : RelDs w H c ds vs) : RelD w (upd H p (.tup vs)) c (.tup ds) (.ref p) :=
  .tup (.inl ⟨.inl upd_same, nlv_of g h⟩) (r.ext (Ext.fresh g h))
theorem me_tup {x1} (h : MA X E es fs) : ME X E (.Tuple es x1 pos) (mTup fs) := PE.imp (pe_tup h) fun st H Q ⟨c, env, g, re, q⟩ => by
  refine ⟨c, env, g, re, (Fin.bind q).mono fun ds c1 H1 e1 g1 q1 vs rvs => ?_⟩
  by_cases z : ds.length ≤ sizeLine
  · rw [if_pos z] at q1
    exact ⟨by rw [← rvs.length]; exact z, fun p hp => q1.new g1 rfl hp _ (ft_new g1 hp rvs)⟩
  · rw [if_neg z] at q1; exact q1.elim
theorem me_lst (h : MA X E es fs) : ME X E (.List es pos) (mLst fs) := PE.imp (pe_lst h) fun st H Q ⟨c, env, g, re, q⟩ => by
  refine ⟨c, env, g, re, (Fin.bind q).mono fun ds c1 H1 e1 g1 q1 vs rvs => ?_⟩
  by_cases z : ds.length ≤ sizeLine
  · rw [if_pos z] at q1
    exact ⟨by rw [← rvs.length]; exact z, fun p hp => q1.new g1 rfl hp _ (fz_new g1 hp rvs)⟩
  · rw [if_neg z] at q1; exact q1.elim
theorem ref_new {w : Wd} {H : Hp} {c : Ct} (g : Good w H c) {p : Addr} {o : O} {ho : HO} : RelD w (upd H p ho) (c.push p o) (.ref c.S.length) (.ref p) := by
  refine .ref ?_
  show (c.p ++ [p])[c.S.length]? = some p
  rw [← g.len]; simp
theorem me_lstR (h : MA X E es fs) : ME X E (.List es pos) (mLstR fs) := PE.imp (pe_lst h) fun st H Q ⟨c, env, g, re, q⟩ => by
  refine ⟨c, env, g, re, (Fin.bind q).mono fun ds c1 H1 e1 g1 q1 vs rvs => ?_⟩
  by_cases z : ds.length ≤ sizeLine
  · rw [if_pos z] at q1
    refine ⟨by rw [← rvs.length]; exact z, fun p hp => ?_⟩
    exact q1 (c1.push p (.lst true ds)) _ (Ext.pushed g1 hp) (g1.pushed hp (.lst (rvs.ext (Ext.pushed g1 hp)))) rfl _ (ref_new g1)
  · rw [if_neg z] at q1; exact q1.elim
/-! ### calls -/
def R.quiet {α : Type} (r : R α) : R α := match r with
  | .ex _ _ => .no
  | r => r
@[simp] theorem quiet_ok {α : Type} (a : α) (s : Sto) : (R.ok a s).quiet = .ok a s := rfl
theorem Fin.quiet {α : Type} {w : Wd} {E E' : XK} {c : Ct} {H : Hp} {r : R α} {k : α → Ct → Hp → Prop} (h : Fin w E c H r.quiet k) : Fin w E' c H r k := by
  cases r with
  | ok a s => exact h
  | ex x s => exact (show False from h).elim
  | no => exact h
abbrev FT := List D → Sto → R D
/-- a def that raises nothing -/
def spM (w : Wd) (F : FT) : Sp := fun vs H Q _ => ∃ c ds, Good w H c ∧ RelDs w H c ds vs ∧ Fin w E0 c H (F ds c.S) (fun d c' H' => ∀ v, RelD w H' c' d v → Q v H')
def mCall (F : FT) (fs : AT) : ET := fun env s => (fs env s).bind fun ds s1 => (F ds s1).quiet
theorem tCall_M {w : Wd} {F : FT} {st : L2.St} {H : Hp} {Q : VK} (h : tM w E (mCall F fs) st H Q) : tCall (spM w F) [] E0 (tMA w E fs) st H Q := by
  obtain ⟨c, env, g, re, q⟩ := h
  refine ⟨c, env, g, re, (Fin.bind q).mono fun ds c1 H1 e1 g1 q1 vs rvs => ?_⟩
  show spM w F (vs ++ []) H1 Q E0
  rw [List.append_nil]
  exact ⟨c1, ds, g1, rvs, q1.quiet⟩
section
variable {k : Nat} {f : Addr} {fd : FuncData} {ps : List Str} {F : FT} {x : Str} {p : Pos}
theorem me_call (G : FnG X.prog X.w X.K X.mg X.base CX0 k f fd ps (spM (Wx X) F)) (hr : RoomG k X.A) (hg : Gl X x) (hm : X.mg x = some (.ref f)) (hk : PySem.W.keepIn X.K (.ref f) = true) (hb : Binds X.K fd ps [])
    (ha : MA X E (a :: es) fs) (hdb : (x == ("__debug__" : Str)) = false := by decide) (he : starEach (a :: es) X.env = (false, eval a X.env) :: starEach es X.env := by rfl) (hpl : (backTo pos (starEach es X.env)).any (·.1) = false := by rfl) :
    ME X E (.Call (.Name x p) (a :: es) [] pos) (mCall F fs) := PE.imp (pe_callG G hr hg hm hk hb .nil pass0 ha hdb he hpl) fun _ _ _ => tCall_M
theorem me_call0 (G : FnG X.prog X.w X.K X.mg X.base CX0 k f fd ps (spM (Wx X) F)) (hr : RoomG k X.A) (hg : Gl X x) (hm : X.mg x = some (.ref f)) (hk : PySem.W.keepIn X.K (.ref f) = true) (hb : Binds X.K fd ps [])
    (hdb : (x == ("__debug__" : Str)) = false := by decide) : ME X E (.Call (.Name x p) [] [] pos) (mCall F mNil) := PE.imp (pe_call0G G hr hg hm hk hb .nil pass0 hdb) fun st H Q h => by
  obtain ⟨c, env, g, re, q⟩ := h
  have q : Fin (Wx X) (E st) c H ((F [] c.S).quiet) (fun d c' H' => ∀ v, RelD (Wx X) H' c' d v → Q v H') := q
  exact ⟨c, [], g, .nil, q.quiet⟩
end
/-- a built-in that changes nothing -/
abbrev Cb := Sto → List D → Option D
def mCb (cb : Cb) (fs : AT) : ET := fun env s => (fs env s).bind fun ds s1 => match cb s1 ds with
  | some z => .ok z s1
  | none => .no
def rCb (w : Wd) (cb : Cb) : List V → Hp → VK → Prop := fun vs H Q => ∃ c ds z, Good w H c ∧ RelDs w H c ds vs ∧ cb c.S ds = some z ∧ ∀ H', Ext c H c H' → Good w H' c → ∀ v, RelD w H' c z v → Q v H'
theorem tCB_M {w : Wd} {cb : Cb} {st : L2.St} {H : Hp} {Q : VK} (h : tM w E (mCb cb fs) st H Q) : tCB (rCb w cb) (tMA w E fs) st H Q := by
  obtain ⟨c, env, g, re, q⟩ := h
  refine ⟨c, env, g, re, (Fin.bind q).mono fun ds c1 H1 e1 g1 q1 vs rvs => ?_⟩
  cases z : cb c1.S ds with
  | none => rw [z] at q1; exact q1.elim
  | some y =>
    rw [z] at q1
    exact ⟨c1, ds, y, g1, rvs, z, fun H' e' g' v' r' => q1 c1 H' e' g' rfl v' r'⟩
abbrev CbM (X : Cx) (f : Value) (cb : Cb) : Prop := CallR X f (rCb (Wx X) cb)
section
variable {cb : Cb} {x : Str} {p : Pos} {id T : String}
theorem me_callB (hc : CbM X (.builtin id) cb) (hg : Gl X x) (hm : X.mg x = none) (hv : bootBuiltins x = some (.builtin id)) (ha : MA X E (a :: es) fs) (hn : x ≠ "__name__" := by decide) (hdb : (x == ("__debug__" : Str)) = false := by decide)
    (he : starEach (a :: es) X.env = (false, eval a X.env) :: starEach es X.env := by rfl) (hpl : (backTo pos (starEach es X.env)).any (·.1) = false := by rfl) : ME X E (.Call (.Name x p) (a :: es) [] pos) (mCb cb fs) :=
  PE.imp (pe_callB hc hg hm hv ha hn hdb he hpl) fun _ _ _ => tCB_M
theorem me_callTy (hc : CbM X (.type T) cb) (hg : Gl X x) (hm : X.mg x = none) (hv : bootBuiltins x = some (.type T)) (ha : MA X E (a :: es) fs) (hn : x ≠ "__name__" := by decide) (hdb : (x == ("__debug__" : Str)) = false := by decide)
    (he : starEach (a :: es) X.env = (false, eval a X.env) :: starEach es X.env := by rfl) (hpl : (backTo pos (starEach es X.env)).any (·.1) = false := by rfl) : ME X E (.Call (.Name x p) (a :: es) [] pos) (mCb cb fs) :=
  PE.imp (pe_callTy hc hg hm hv ha hn hdb he hpl) fun _ _ _ => tCB_M
/-- a method of a built-in type that changes nothing -/
abbrev Mb := Sto → D → List D → Option D
def mMb (mb : Mb) (fa : ET) (fs : AT) : ET := fun env s => (fa env s).bind fun d s1 => (fs env s1).bind fun ds s2 => match mb s2 d ds with
  | some z => .ok z s2
  | none => .no
def rMb (w : Wd) (mb : Mb) : V → List V → Hp → VK → Prop := fun x vs H Q => ∃ c d ds z, Good w H c ∧ RelD w H c d x ∧ RelDs w H c ds vs ∧ mb c.S d ds = some z ∧ ∀ H', Ext c H c H' → Good w H' c → ∀ v, RelD w H' c z v → Q v H'
abbrev MbM (X : Cx) (id : String) (mb : Mb) : Prop := MtR X id (rMb (Wx X) mb)
/-- the receiver is a text -/
def mStr (fa : ET) : ET := fun env s => (fa env s).bind fun d s1 => match d with
  | .str x => .ok (.str x) s1
  | _ => .no
theorem me_strm {name : Str} {apos : Pos} {mb : Mb} (slot : Slot "str" name id) (hty : typeOf (.builtin id) = pure (.type "method_descriptor")) (hm : MbM X id mb) (ho : ME X E b fa) (ha : MA X E (a :: es) fs)
    (hbase : attributeBase b name X.env (eval b X.env) = eval b X.env := by rfl)
    (hfew : ((backTo pos (starEach (a :: es) X.env)).all (fun x => !x.1) && (backToKw pos (keywordEach [] X.env)).all (fun x => x.1.isSome)
      && decide ((a :: es).length + ([] : List Keyword).length + (if ([] : List Keyword).isEmpty then 0 else 1) < 30)) = true := by rfl)
    (hline : (apos.endLine == pos.line) = true := by rfl) (hs : starEach (a :: es) X.env = (false, eval a X.env) :: starEach es X.env := by rfl) (hplain : (backTo pos (starEach es X.env)).any (·.1) = false := by rfl) :
    ME X E (.Call (.Attribute b name apos) (a :: es) [] pos) (mMb mb (mStr fa) fs) := PE.imp (pe_bm PySem.F.plainAttrs_str slot hty hm ho ha hbase hfew hline hs hplain) fun st H Q ⟨c, env, g, re, q⟩ => by
  have q1 := Fin.bind q
  have q2 := Fin.bind q1
  refine ⟨c, env, g, re, q2.mono fun d c1 H1 e1 g1 q1 v rv => ?_⟩
  cases d with
  | str y =>
    cases rv with
    | str _ hy =>
      refine ⟨rfl, c1, env, g1, re.ext e1, (Fin.bind (q1.here g1 rfl)).mono fun ds c2 H2 e2 g2 q2 vs rvs => ?_⟩
      cases z : mb c2.S (.str y) ds with
      | none => rw [z] at q2; exact q2.elim
      | some z' =>
        rw [z] at q2
        exact ⟨c2, .str y, ds, z', g2, .str y hy, rvs, z, fun H' e' g' v' r' => q2 c2 H' e' g' rfl v' r'⟩
  | _ => exact q1.elim
theorem me_strm0 {name : Str} {apos : Pos} {mb : Mb} (slot : Slot "str" name id) (hty : typeOf (.builtin id) = pure (.type "method_descriptor")) (hm : MbM X id mb) (ho : ME X E b fa)
    (hbase : attributeBase b name X.env (eval b X.env) = eval b X.env := by rfl) (hline : (apos.endLine == pos.line) = true := by rfl) :
    ME X E (.Call (.Attribute b name apos) [] [] pos) (mMb mb (mStr fa) mNil) := PE.imp (pe_bm0 PySem.F.plainAttrs_str slot hty hm ho hbase hline) fun st H Q ⟨c, env, g, re, q⟩ => by
  have q1 := Fin.bind q
  have q2 := Fin.bind q1
  refine ⟨c, env, g, re, q2.mono fun d c1 H1 e1 g1 q1 v rv => ?_⟩
  cases d with
  | str y =>
    cases rv with
    | str _ hy =>
      refine ⟨rfl, ?_⟩
      have q2 := (q1.here g1 rfl)
      have q2 : Fin (Wx X) (E st) c1 H1 (match mb c1.S (.str y) [] with | some z => .ok z c1.S | none => .no) (fun d c' H' => ∀ v, RelD (Wx X) H' c' d v → Q v H') := q2
      cases z : mb c1.S (.str y) [] with
      | none => rw [z] at q2; exact q2.elim
      | some z' =>
        rw [z] at q2
        exact ⟨c1, .str y, [], z', g1, .str y hy, .nil, z, fun H' e' g' v' r' => q2 c1 H' e' g' rfl v' r'⟩
  | _ => exact q1.elim
end
/-! ### subscripts, slices -/
theorem me_ix {op : Op2} (hr : IxR X (rO (Wx X) op)) (ha : ME X E a fa) (hb : ME X E b fb) (hs : PlainIx b) : ME X E (.Subscript a b pos) (mOp op fa fb) := PE.imp (pe_ix hr ha hb hs) fun _ _ _ => tOp_M
/-- a slice's part -/
abbrev PT1 := Env → Sto → R (Option Int)
def mNoPart : PT1 := fun _ s => .ok none s
def mPart (fa : ET) : PT1 := fun env s => (fa env s).bind fun d s1 => match d with
  | .int i => .ok (some i) s1
  | _ => .no
def tMO (w : Wd) (E : L2.St → XK) (f : PT1) : TO := fun st H Q => ∃ c env, Good w H c ∧ RelEnv w H c env st ∧ Fin w (E st) c H (f env c.S) (fun b _ H' => Q b H')
theorem PO.imp {e : Option Expr} {t t' : TO} (h : PO X e t) (i : ∀ st H Q, t' st H Q → t st H Q) : PO X e t' := ⟨fun pins s st H Q I q => h.run pins s st H Q I (i st H Q q)⟩
abbrev MO (X : Cx) (E : L2.St → XK) (e : Option Expr) (f : PT1) : Prop := PO X e (tMO (Wx X) E f)
theorem mo_none : MO X E none mNoPart := PO.imp po_none fun st H Q ⟨c, env, g, re, q⟩ => q.here g rfl
theorem mo_some (h : ME X E a fa) : MO X E (some a) (mPart fa) := PO.imp (po_some h) fun st H Q ⟨c, env, g, re, q⟩ => by
  refine ⟨c, env, g, re, (Fin.bind q).mono fun d c1 H1 e1 g1 q1 v rv => ?_⟩
  cases d with
  | int i => cases rv; exact ⟨i, rfl, q1.here g1 rfl⟩
  | _ => exact q1.elim
def mSl (op : Sto → D → Option Int → Option Int → Option D) (fa : ET) (fl fh : PT1) : ET := fun env s => (fa env s).bind fun d s1 => (fl env s1).bind fun l s2 => (fh env s2).bind fun h s3 => match op s3 d l h with
  | some z => .ok z s3
  | none => .no
def rS1 (w : Wd) (op : Sto → D → Option Int → Option Int → Option D) : V → Option Int → Option Int → Hp → VK → Prop := fun x l h H Q => ∃ c d z, Good w H c ∧ RelD w H c d x ∧ op c.S d l h = some z ∧ ∀ H', Ext c H c H' → Good w H' c → ∀ v, RelD w H' c z v → Q v H'
theorem me_slice {op : Sto → D → Option Int → Option Int → Option D} {lo hi : Option Expr} {fl fh : PT1} {p2 : Pos} (hr : SlR X (rS1 (Wx X) op)) (he : ME X E a fa) (hl : MO X E lo fl) (hu : MO X E hi fh) : ME X E (.Subscript a (.Slice lo hi none p2) pos) (mSl op fa fl fh) :=
  PE.imp (pe_slice hr he hl hu) fun st H Q ⟨c, env, g, re, q⟩ => by
    refine ⟨c, env, g, re, (Fin.bind q).mono fun d c1 H1 e1 g1 q1 v rv => ?_⟩
    refine ⟨c1, env, g1, re.ext e1, (Fin.bind q1).mono fun l c2 H2 e2 g2 q2 => ?_⟩
    refine ⟨c2, env, g2, (re.ext e1).ext e2, (Fin.bind q2).mono fun h c3 H3 e3 g3 q3 => ?_⟩
    cases z : op c3.S d l h with
    | none => rw [z] at q3; exact q3.elim
    | some y =>
      rw [z] at q3
      exact ⟨c3, d, y, g3, (rv.ext e2).ext e3, z, fun H' e' g' v' r' => q3 c3 H' e' g' rfl v' r'⟩
end
end Mi
end
section
set_option maxRecDepth 100000
namespace Mi
open PySem L2
/-! ### targets -/
abbrev Tg := D → Env → Option Env
abbrev Tgs := List D → Env → Option Env
structure Only (js : List Nat) (st st' : L2.St) : Prop where
  len : st'.length = st.length
  at' : ∀ j, j ∉ js → st'[j]? = st[j]?
theorem Only.set {st : L2.St} {i : Nat} {v : Option V} : Only [i] st (st.set i v) := ⟨by simp, fun j h => by rw [List.getElem?_set_ne (by simpa using Ne.symm (by simpa using h))]⟩
theorem Only.trans {a b : List Nat} {s1 s2 s3 : L2.St} (h : Only a s1 s2) (k : Only b s2 s3) : Only (a ++ b) s1 s3 :=
  ⟨k.len.trans h.len, fun j hj => by
    rw [List.mem_append, not_or] at hj
    exact (k.at' j hj.2).trans (h.at' j hj.1)⟩
theorem Only.refl {s : L2.St} : Only [] s s := ⟨rfl, fun _ _ => rfl⟩
theorem wipe_get (st : L2.St) (j : Nat) : ∀ vs : List Nat, (wipe st vs)[j]? = if j ∈ vs then st[j]?.map (fun _ => none) else st[j]?
  | [] => by simp [wipe]
  | v :: vs => by
    unfold wipe
    by_cases h : v = j
    · subst h
      rw [if_pos (by simp), List.getElem?_set]
      simp only [if_true]
      rw [wipe_length]
      by_cases l : v < st.length
      · rw [if_pos l, List.getElem?_eq_getElem l]; rfl
      · rw [if_neg l, List.getElem?_eq_none (by omega)]; rfl
    · rw [List.getElem?_set_ne h, wipe_get st j vs]
      have h' : ¬ j = v := fun e => h e.symm
      simp [h']
theorem wipe_only {st st' : L2.St} {js vs : List Nat} (h : Only js (wipe st vs) st') (hj : ∀ j ∈ js, j ∈ vs) : wipe st' vs = wipe st vs := by
  apply List.ext_getElem?
  intro j
  rw [wipe_get, wipe_get]
  by_cases m : j ∈ vs
  · rw [if_pos m, if_pos m]
    have l : st'.length = st.length := by rw [h.len, wipe_length]
    by_cases q : j < st.length
    · rw [List.getElem?_eq_getElem q, List.getElem?_eq_getElem (by omega)]; rfl
    · rw [List.getElem?_eq_none (by omega), List.getElem?_eq_none (by omega)]
  · rw [if_neg m, if_neg m, h.at' j (fun z => m (hj j z)), wipe_get, if_neg m]
def wipeE (env : Env) : List Nat → Env
  | [] => env
  | v :: vs => (wipeE env vs).set v none
theorem RelEnv.wipe {w : Wd} {H : Hp} {c : Ct} {env : Env} {st : L2.St} (r : RelEnv w H c env st) : ∀ vs : List Nat, RelEnv w H c (wipeE env vs) (L2.wipe st vs)
  | [] => r
  | v :: vs => by
    have ih := RelEnv.wipe r vs
    refine ⟨by simp [wipeE, L2.wipe, ih.len], fun j d e => ?_⟩
    unfold wipeE at e
    unfold L2.wipe
    by_cases h : v = j
    · subst h
      rw [List.getElem?_set] at e
      simp only [if_true] at e
      split at e <;> cases e
    · rw [List.getElem?_set_ne h] at e ⊢
      exact ih.get j d e
def tMG (w : Wd) (js : List Nat) (g : Tg) : TG := fun v st H Q => ∃ c d env env', Good w H c ∧ RelD w H c d v ∧ RelEnv w H c env st ∧ g d env = some env' ∧ ∀ st', Only js st st' → RelEnv w H c env' st' → Q st' H
def tMGs (w : Wd) (js : List Nat) (g : Tgs) : TGs := fun vs st H Q => ∃ c ds env env', Good w H c ∧ RelDs w H c ds vs ∧ RelEnv w H c env st ∧ g ds env = some env' ∧ ∀ st', Only js st st' → RelEnv w H c env' st' → Q st' H
theorem PG.imp {X : Cx} {tg : Expr} {t t' : TG} (h : PG X tg t) (i : ∀ v st H Q, t' v st H Q → t v st H Q) : PG X tg t' := ⟨fun pins s st H v u Q I r q => h.run pins s st H v u Q I r (i v st H Q q)⟩
theorem PGs.imp {X : Cx} {tg : List Expr} {t t' : TGs} (h : PGs X tg t) (i : ∀ v st H Q, t' v st H Q → t v st H Q) : PGs X tg t' := ⟨fun pins s st H v u Q I r q => h.run pins s st H v u Q I r (i v st H Q q)⟩
abbrev MG (X : Cx) (e : Expr) (js : List Nat) (g : Tg) : Prop := PG X e (tMG (Wx X) js g)
abbrev MGs (X : Cx) (e : List Expr) (js : List Nat) (g : Tgs) : Prop := PGs X e (tMGs (Wx X) js g)
def tgN (i : Nat) : Tg := fun d env => some (env.set i (some d))
def tgNil : Tgs := fun ds env => match ds with
  | [] => some env
  | _ => none
def tgCons (g : Tg) (r : Tgs) : Tgs := fun ds env => match ds with
  | d :: ds => match g d env with
    | some env1 => r ds env1
    | none => none
  | [] => none
def tgT (n : Nat) (r : Tgs) : Tg := fun d env => match d with
  | .tup ds => if ds.length = n then r ds env else none
  | _ => none
section
variable {X : Cx} {E : L2.St → XK} {pos : Pos}
theorem mg_name {i : Nat} {x : Str} (hN : X.N.Nodup) (hi : X.N[i]? = some x) (hx : Loc X.env.scope x) (hf : X.fn x = true ∨ X.env.scope.names.lookup x = some .local := by first | exact .inl rfl | exact .inr rfl | assumption) : MG X (.Name x pos) [i] (tgN i) :=
  PG.imp (pg_name hN hi hx hf) fun v st H Q ⟨c, d, env, env', g, r, re, e, q⟩ => by
    cases e
    exact q _ Only.set (re.set r)
theorem mgs_nil : MGs X [] [] tgNil := PGs.imp pgs_nil fun vs st H Q ⟨c, ds, env, env', g, r, re, e, q⟩ => by
  cases r with
  | nil => cases e; exact ⟨rfl, q _ Only.refl re⟩
  | cons _ _ => cases e
theorem mgs_cons {e : Expr} {es : List Expr} {j1 j2 : List Nat} {g : Tg} {r : Tgs} (h1 : MG X e j1 g) (h2 : MGs X es j2 r) (hs : (assignEach (e :: es) X.env).map (·.2) = assign e X.env :: (assignEach es X.env).map (·.2) := by rfl) : MGs X (e :: es) (j1 ++ j2) (tgCons g r) :=
  PGs.imp (pgs_cons h1 h2 hs) fun vs st H Q ⟨c, ds, env, env', gd, rr, re, e, q⟩ => by
    cases rr with
    | nil => cases e
    | @cons d ds v vs rd rs =>
      simp only [tgCons] at e
      cases z : g d env with
      | none => rw [z] at e; cases e
      | some env1 =>
        rw [z] at e
        exact ⟨v, vs, rfl, c, d, env, env1, gd, rd, re, z, fun st1 o1 re1 => ⟨c, ds, env1, env', gd, rs, re1, e, fun st2 o2 re2 => q st2 (o1.trans o2) re2⟩⟩
theorem mg_tup {es : List Expr} {k : Nat} {js : List Nat} {r : Tgs} {n : Nat} (hc : X.calm = true) (h : MGs X es js r) (hn : (assignEach es X.env).length = n := by rfl) (hst : (assignEach es X.env).findIdx? (·.1) = none := by rfl) : MG X (.Tuple es k pos) js (tgT n r) :=
  PG.imp (pg_tup hc h hn hst) fun v st H Q ⟨c, d, env, env', gd, rd, re, e, q⟩ => by
    cases rd with
    | tup hs rs =>
      simp only [tgT] at e
      split at e
      · rename_i hl
        exact ⟨_, _, rfl, hs.sq, by rw [← rs.length]; exact hl, c, _, env, env', gd, rs, re, e, q⟩
      · cases e
    | _ => simp [tgT] at e
/-! ### what is walked -/
abbrev IT := Env → Sto → R (List D × (Sto → Prop))
structure Walks (w : Wd) (c : Ct) (H : Hp) (G : Sto → Prop) (ds : List D) (J : It) : Prop where
  go : ∀ c1 H1, Tr c H c1 H1 → Good w H1 c1 → G c1.S → ∀ i, i < ds.length → J.go i H1
  yld : ∀ c1 H1, Tr c H c1 H1 → Good w H1 c1 → G c1.S → ∀ i d, ds[i]? = some d → ∀ x H2, J.yld i H1 x H2 → Ext c1 H1 c1 H2 ∧ Good w H2 c1 ∧ RelD w H2 c1 d x
  stop : ∀ c1 H1, Tr c H c1 H1 → Good w H1 c1 → G c1.S → J.stop ds.length H1
def tMI (w : Wd) (E : L2.St → XK) (it : IT) : TI := fun st H R => ∃ c env, Good w H c ∧ RelEnv w H c env st ∧ Fin w (E st) c H (it env c.S) (fun p c' H' => ∀ J, Walks w c' H' p.2 p.1 J → R J H')
theorem PI.imp {tg iter : Expr} {t t' : TI} (h : PI X tg iter t) (i : ∀ st H R, t' st H R → t st H R) : PI X tg iter t' := ⟨fun pins s st H R I q => h.run pins s st H R I (i st H R q)⟩
abbrev MI (X : Cx) (E : L2.St → XK) (tg iter : Expr) (it : IT) : Prop := PI X tg iter (tMI (Wx X) E it)
/-- a list as it is read -/
def asL (s : Sto) : D → Option (List D)
  | .lst xs => some xs
  | .ref n => match s[n]? with
    | some (.lst _ xs) => some xs
    | _ => none
  | _ => none
theorem asL_ok {w : Wd} {H : Hp} {c : Ct} {d : D} {v : V} {xs : List D} (g : Good w H c) (r : RelD w H c d v) (h : asL c.S d = some xs) : ∃ a vs, v = .ref a ∧ H a = some (.lst vs) ∧ RelDs w H c xs vs := by
  cases r with
  | lst hs rs => cases h; exact ⟨_, _, rfl, hs.1, rs⟩
  | @ref n a hn =>
    simp only [asL] at h
    cases e : c.S[n]? with
    | none => rw [e] at h; cases h
    | some o =>
      rw [e] at h
      obtain ⟨ho, q, ro⟩ := g.obj n a o hn e
      cases ro with
      | lst rs => cases h; exact ⟨_, _, rfl, q, rs⟩
      | _ => cases h
  | _ => simp [asL] at h
theorem asL_sq {w : Wd} {H : Hp} {c : Ct} {d : D} {v : V} {xs : List D} (g : Good w H c) (r : RelD w H c d v) (h : asL c.S d = some xs) : ∃ a vs, v = .ref a ∧ SqL w.K H a vs ∧ RelDs w H c xs vs :=
  let ⟨a, vs, e, q, rs⟩ := asL_ok g r h
  ⟨a, vs, e, .inl (.inl q), rs⟩
/-- the list that is walked stands as it was -/
def stays (d : D) (xs : List D) : Sto → Prop := fun s => asL s d = some xs
def itL (fa : ET) : IT := fun env s => (fa env s).bind fun d s1 => match asL s1 d with
  | some xs => .ok (xs, stays d xs) s1
  | none => .no
variable {a b : Expr} {fa fb : ET} {tg : Expr} {es : List Expr} {fs : AT}
theorem mi_list (ha : ME X E a fa) : MI X E tg a (itL fa) := PI.imp (pi_list ha) fun st H Rr ⟨c, env, g, re, q⟩ => by
  refine ⟨c, env, g, re, (Fin.bind q).mono fun d c1 H1 e1 g1 q1 v rv => ?_⟩
  cases z : asL c1.S d with
  | none => rw [z] at q1; exact q1.elim
  | some xs =>
    rw [z] at q1
    obtain ⟨p, vs, rfl, hq, rs⟩ := asL_sq g1 rv z
    refine ⟨p, rfl, ⟨vs, hq⟩, q1.here g1 rfl _ ⟨fun c2 H2 t g2 s2 i hi => ?_, fun c2 H2 t g2 s2 i d' hd x H3 y => ?_, fun c2 H2 t g2 s2 => ?_⟩⟩
    · obtain ⟨p', vs', e', hq', rs'⟩ := asL_sq g2 (rv.tr t) s2
      cases e'
      obtain ⟨x, hx, _⟩ := rs'.get (List.getElem?_eq_getElem hi)
      exact ⟨vs', x, hq', hx⟩
    · obtain ⟨rfl, y⟩ := y
      obtain ⟨p', vs', e', hq', rs'⟩ := asL_sq g2 (rv.tr t) s2
      cases e'
      obtain ⟨x', hx, rx⟩ := rs'.get hd
      have := y vs' hq'
      rw [hx] at this
      cases this
      exact ⟨Ext.refl _ _, g2, rx⟩
    · obtain ⟨p', vs', e', hq', rs'⟩ := asL_sq g2 (rv.tr t) s2
      cases e'
      exact ⟨vs', hq', by rw [← rs'.length]; exact Nat.le_refl _⟩
def itT (fa : ET) : IT := fun env s => (fa env s).bind fun d s1 => match d with
  | .tup xs => .ok (xs, fun _ => True) s1
  | _ => .no
theorem tup_ok {w : Wd} {H : Hp} {c : Ct} {xs : List D} {v : V} (r : RelD w H c (.tup xs) v) : ∃ a vs, v = .ref a ∧ SqT w.K H a vs ∧ RelDs w H c xs vs := by
  cases r with
  | tup hs rs => exact ⟨_, _, rfl, hs.sq, rs⟩
theorem mi_tup (ha : ME X E a fa) : MI X E tg a (itT fa) := PI.imp (pi_tup ha) fun st H Rr ⟨c, env, g, re, q⟩ => by
  refine ⟨c, env, g, re, (Fin.bind q).mono fun d c1 H1 e1 g1 q1 v rv => ?_⟩
  cases d with
  | tup xs =>
    obtain ⟨p, vs, rfl, hq, rs⟩ := tup_ok rv
    refine ⟨p, rfl, ⟨vs, hq⟩, q1.here g1 rfl _ ⟨fun c2 H2 t g2 s2 i hi => ?_, fun c2 H2 t g2 s2 i d' hd x H3 y => ?_, fun c2 H2 t g2 s2 => ?_⟩⟩
    · obtain ⟨p', vs', e', hq', rs'⟩ := tup_ok (rv.tr t)
      cases e'
      obtain ⟨x, hx, _⟩ := rs'.get (List.getElem?_eq_getElem hi)
      exact ⟨vs', x, hq', hx⟩
    · obtain ⟨rfl, y⟩ := y
      obtain ⟨p', vs', e', hq', rs'⟩ := tup_ok (rv.tr t)
      cases e'
      obtain ⟨x', hx, rx⟩ := rs'.get hd
      have := y vs' hq'
      rw [hx] at this
      cases this
      exact ⟨Ext.refl _ _, g2, rx⟩
    · obtain ⟨p', vs', e', hq', rs'⟩ := tup_ok (rv.tr t)
      cases e'
      exact ⟨vs', hq', by rw [← rs'.length]; exact Nat.le_refl _⟩
  | _ => exact q1.elim
def signs (x : Str) : List D := x.cps.toList.map fun c => .str ⟨#[c]⟩
def itS (fa : ET) : IT := fun env s => (fa env s).bind fun d s1 => match d with
  | .str x => .ok (signs x, fun _ => True) s1
  | _ => .no
theorem mi_str (ha : ME X E a fa) : MI X E tg a (itS fa) := PI.imp (pi_str ha) fun st H Rr ⟨c, env, g, re, q⟩ => by
  refine ⟨c, env, g, re, (Fin.bind q).mono fun d c1 H1 e1 g1 q1 v rv => ?_⟩
  cases d with
  | str x =>
    cases rv
    refine ⟨x, rfl, q1.here g1 rfl _ ⟨fun c2 H2 t g2 s2 i hi => ?_, fun c2 H2 t g2 s2 i d' hd y H3 yl => ?_, fun c2 H2 t g2 s2 => ?_⟩⟩
    · simpa [signs, Its] using hi
    · obtain ⟨rfl, k, hk, rfl⟩ := yl
      have e : (signs x)[i]? = some (.str ⟨#[k]⟩) := by
        unfold signs
        rw [List.getElem?_map, Array.getElem?_toList, hk]; rfl
      rw [e] at hd
      cases hd
      exact ⟨Ext.refl _ _, g2, .str _ (show 1 ≤ sizeLine by decide)⟩
    · simp [signs, Its]
  | _ => exact q1.elim
def rangeD (lo : Int) (n : Nat) : List D := (List.range n).map fun (i : Nat) => .int (lo + (i : Int))
def itR1 (fs : AT) : IT := fun env s => (fs env s).bind fun ds s1 => match ds with
  | [.int j] => if -(2 ^ 62) ≤ j ∧ j < 2 ^ 62 then .ok (rangeD 0 j.toNat, fun _ => True) s1 else .no
  | _ => .no
theorem walks_range {w : Wd} {H : Hp} {c : Ct} {lo : Int} {n : Nat} : Walks w c H (fun _ => True) (rangeD lo n) (Itr lo n) := by
  refine ⟨fun c2 H2 t g2 s2 i hi => ?_, fun c2 H2 t g2 s2 i d' hd y H3 yl => ?_, fun c2 H2 t g2 s2 => ?_⟩
  · simpa [rangeD, Itr] using hi
  · obtain ⟨rfl, rfl⟩ := yl
    have hi : i < n := by simpa [rangeD] using (List.getElem?_eq_some_iff.mp hd).1
    have e : (rangeD lo n)[i]? = some (.int (lo + (i : Int))) := by simp [rangeD, hi]
    rw [e] at hd
    cases hd
    exact ⟨Ext.refl _ _, g2, .int _⟩
  · simp [rangeD, Itr]
theorem mi_range1 {p : Pos} (hg : Gl X "range") (hm : X.mg "range" = none) (ha : MA X E [a] fs) (hs : starEach [a] X.env = [(false, eval a X.env)] := by rfl) : MI X E tg (.Call (.Name "range" p) [a] [] pos) (itR1 fs) :=
  PI.imp (pi_range1 hg hm ha hs) fun st H Rr ⟨c, env, g, re, q⟩ => by
    refine ⟨c, env, g, re, (Fin.bind q).mono fun ds c1 H1 e1 g1 q1 vs rvs => ?_⟩
    split at q1
    · rename_i j
      cases rvs with
      | cons rv rn =>
        cases rn
        cases rv
        split at q1
        · rename_i hj
          exact ⟨j, rfl, hj.1, hj.2, q1.here g1 rfl _ walks_range⟩
        · exact q1.elim
    · exact q1.elim
/-- zip of two lists, of two tuples -/
def zipD (xs ys : List D) : List D := (xs.zip ys).map fun p => .tup [p.1, p.2]
def itZ (fs : AT) : IT := fun env s => (fs env s).bind fun ds s2 => match ds with
  | [.tup xs, .tup ys] => .ok (zipD xs ys, fun _ => True) s2
  | [d, e] => match asL s2 d, asL s2 e with
    | some xs, some ys => .ok (zipD xs ys, fun s => asL s d = some xs ∧ asL s e = some ys) s2
    | _, _ => .no
  | _ => .no
theorem zipD_get {xs ys : List D} {i : Nat} {d : D} (h : (zipD xs ys)[i]? = some d) : ∃ x y, xs[i]? = some x ∧ ys[i]? = some y ∧ d = .tup [x, y] := by
  unfold zipD at h
  rw [List.getElem?_map] at h
  cases z : (xs.zip ys)[i]? with
  | none => rw [z] at h; cases h
  | some p =>
    rw [z] at h
    cases h
    rw [List.getElem?_zip_eq_some] at z
    exact ⟨p.1, p.2, z.1, z.2, rfl⟩
theorem pair_new {w : Wd} {H : Hp} {c : Ct} {d e : D} {x y : V} {p : Addr} (g : Good w H c) (hp : H p = none) (rx : RelD w H c d x) (ry : RelD w H c e y) : Ext c H c (upd H p (.tup [x, y])) ∧ Good w (upd H p (.tup [x, y])) c ∧ RelD w (upd H p (.tup [x, y])) c (.tup [d, e]) (.ref p) :=
  ⟨Ext.fresh g hp, g.fresh hp, ft_new g hp (.cons rx (.cons ry .nil))⟩
theorem mi_zip {p tpos : Pos} {elts : List Expr} {kk : Nat} (hg : Gl X "zip") (hm : X.mg "zip" = none) (ha : MA X E [a, b] fs) (hs : starEach [a, b] X.env = (false, eval a X.env) :: starEach [b] X.env := by rfl)
    (hpl : (backTo pos (starEach [b] X.env)).any (·.1) = false := by rfl) : MI X E (.Tuple elts kk tpos) (.Call (.Name "zip" p) [a, b] [] pos) (itZ fs) :=
  PI.imp (RZ.pi_zipA hg hm ha hs hpl) fun st H Rr ⟨c, env, g, re, q⟩ => by
    refine ⟨c, env, g, re, (Fin.bind q).mono fun ds c1 H1 e1 g1 q1 vs rvs => ?_⟩
    split at q1
    · cases rvs with
      | cons rd rn =>
        cases rn with
        | cons re' rn =>
          cases rn
          obtain ⟨pa, vs, rfl, hq, rs⟩ := tup_ok rd
          obtain ⟨pb, us, rfl, hq2, rs2⟩ := tup_ok re'
          refine ⟨pa, pb, vs, us, rfl, .inr ⟨hq, hq2, q1.here g1 rfl _ ⟨fun c2 H2 t g2 s2 i hi => ?_, fun c2 H2 t g2 s2 i d' hd x H3 y => ?_, fun c2 H2 t g2 s2 => ?_⟩⟩⟩
          · obtain ⟨_, vs', e', hv, r1⟩ := tup_ok (rd.tr t)
            cases e'
            obtain ⟨_, us', e', hu, r2⟩ := tup_ok (re'.tr t)
            cases e'
            obtain ⟨dx, dy, h1, h2, _⟩ := zipD_get (List.getElem?_eq_getElem hi)
            obtain ⟨x, hx, _⟩ := r1.get h1
            obtain ⟨y, hy, _⟩ := r2.get h2
            exact ⟨vs', us', x, y, hv, hu, hx, hy⟩
          · obtain ⟨T, x1, y1, rfl, hT, rfl, k1, k2⟩ := y
            obtain ⟨_, vs', e', hv, r1⟩ := tup_ok (rd.tr t)
            cases e'
            obtain ⟨_, us', e', hu, r2⟩ := tup_ok (re'.tr t)
            cases e'
            obtain ⟨dx, dy, h1, h2, rfl⟩ := zipD_get hd
            obtain ⟨x, hx, rx⟩ := r1.get h1
            obtain ⟨y, hy, ry⟩ := r2.get h2
            have e1 := k1 vs' hv
            have e2 := k2 us' hu
            rw [hx] at e1; cases e1
            rw [hy] at e2; cases e2
            exact pair_new g2 hT rx ry
          · obtain ⟨_, vs', e', hv, r1⟩ := tup_ok (rd.tr t)
            cases e'
            obtain ⟨_, us', e', hu, r2⟩ := tup_ok (re'.tr t)
            cases e'
            refine ⟨vs', us', hv, hu, ?_⟩
            have l1 := r1.length
            have l2 := r2.length
            simp only [zipD, List.length_map, List.length_zip]
            omega
    · rename_i d e hnot
      cases rvs with
      | cons rd rn =>
        cases rn with
        | cons re' rn =>
          cases rn
          split at q1
          · rename_i xs ys zx zy
            obtain ⟨pa, vs, rfl, hq, rs⟩ := asL_sq g1 rd zx
            obtain ⟨pb, us, rfl, hq2, rs2⟩ := asL_sq g1 re' zy
            refine ⟨pa, pb, vs, us, rfl, .inl ⟨hq, hq2, q1.here g1 rfl _ ⟨fun c2 H2 t g2 s2 i hi => ?_, fun c2 H2 t g2 s2 i d' hd x H3 y => ?_, fun c2 H2 t g2 s2 => ?_⟩⟩⟩
            · obtain ⟨_, vs', e', hv, r1⟩ := asL_sq g2 (rd.tr t) s2.1
              cases e'
              obtain ⟨_, us', e', hu, r2⟩ := asL_sq g2 (re'.tr t) s2.2
              cases e'
              obtain ⟨dx, dy, h1, h2, _⟩ := zipD_get (List.getElem?_eq_getElem hi)
              obtain ⟨x, hx, _⟩ := r1.get h1
              obtain ⟨y, hy, _⟩ := r2.get h2
              exact ⟨vs', us', x, y, hv, hu, hx, hy⟩
            · obtain ⟨T, x1, y1, rfl, hT, rfl, k1, k2⟩ := y
              obtain ⟨_, vs', e', hv, r1⟩ := asL_sq g2 (rd.tr t) s2.1
              cases e'
              obtain ⟨_, us', e', hu, r2⟩ := asL_sq g2 (re'.tr t) s2.2
              cases e'
              obtain ⟨dx, dy, h1, h2, rfl⟩ := zipD_get hd
              obtain ⟨x, hx, rx⟩ := r1.get h1
              obtain ⟨y, hy, ry⟩ := r2.get h2
              have e1 := k1 vs' hv
              have e2 := k2 us' hu
              rw [hx] at e1; cases e1
              rw [hy] at e2; cases e2
              exact pair_new g2 hT rx ry
            · obtain ⟨_, vs', e', hv, r1⟩ := asL_sq g2 (rd.tr t) s2.1
              cases e'
              obtain ⟨_, us', e', hu, r2⟩ := asL_sq g2 (re'.tr t) s2.2
              cases e'
              refine ⟨vs', us', hv, hu, ?_⟩
              have l1 := r1.length
              have l2 := r2.length
              simp only [zipD, List.length_map, List.length_zip]
              omega
          · exact q1.elim
    · exact q1.elim
/-- enumerate of a list -/
def enumD (xs : List D) : List D := (List.range xs.length).zip xs |>.map fun p => .tup [.int (p.1 : Int), p.2]
def itE (fs : AT) : IT := fun env s => (fs env s).bind fun ds s2 => match ds with
  | [d] => match asL s2 d with
    | some xs => .ok (enumD xs, stays d xs) s2
    | none => .no
  | _ => .no
theorem enumD_get {xs : List D} {i : Nat} {d : D} (h : (enumD xs)[i]? = some d) : ∃ x, xs[i]? = some x ∧ d = .tup [.int ((i : Nat) : Int), x] := by
  unfold enumD at h
  rw [List.getElem?_map] at h
  cases z : ((List.range xs.length).zip xs)[i]? with
  | none => rw [z] at h; cases h
  | some p =>
    rw [z] at h
    cases h
    rw [List.getElem?_zip_eq_some] at z
    have hi : i < xs.length := (List.getElem?_eq_some_iff.mp z.2).1
    have e : p.1 = i := by
      have := z.1
      rw [List.getElem?_range hi] at this
      exact (Option.some.inj this).symm
    exact ⟨p.2, z.2, by show D.tup [D.int ((p.1 : Nat) : Int), p.2] = _; rw [e]⟩
theorem mi_enum {p tpos : Pos} {elts : List Expr} {kk : Nat} (hg : Gl X "enumerate") (hm : X.mg "enumerate" = none) (ha : MA X E [a] fs) (hs : starEach [a] X.env = [(false, eval a X.env)] := by rfl) : MI X E (.Tuple elts kk tpos) (.Call (.Name "enumerate" p) [a] [] pos) (itE fs) :=
  PI.imp (pi_enum hg hm ha hs) fun st H Rr ⟨c, env, g, re, q⟩ => by
    refine ⟨c, env, g, re, (Fin.bind q).mono fun ds c1 H1 e1 g1 q1 vs rvs => ?_⟩
    split at q1
    · rename_i d
      cases rvs with
      | cons rd rn =>
        cases rn
        split at q1
        · rename_i xs zx
          obtain ⟨pa, vs, rfl, hq, rs⟩ := asL_sq g1 rd zx
          refine ⟨pa, vs, rfl, hq, q1.here g1 rfl _ ⟨fun c2 H2 t g2 s2 i hi => ?_, fun c2 H2 t g2 s2 i d' hd x H3 y => ?_, fun c2 H2 t g2 s2 => ?_⟩⟩
          · obtain ⟨_, vs', e', hv, r1⟩ := asL_sq g2 (rd.tr t) s2
            cases e'
            obtain ⟨dx, h1, _⟩ := enumD_get (List.getElem?_eq_getElem hi)
            obtain ⟨x, hx, _⟩ := r1.get h1
            exact ⟨vs', x, hv, hx⟩
          · obtain ⟨T, x1, rfl, hT, rfl, k1⟩ := y
            obtain ⟨_, vs', e', hv, r1⟩ := asL_sq g2 (rd.tr t) s2
            cases e'
            obtain ⟨dx, h1, rfl⟩ := enumD_get hd
            obtain ⟨x, hx, rx⟩ := r1.get h1
            have e1 := k1 vs' hv
            rw [hx] at e1; cases e1
            exact pair_new g2 hT (.int _) rx
          · obtain ⟨_, vs', e', hv, r1⟩ := asL_sq g2 (rd.tr t) s2
            cases e'
            refine ⟨vs', hv, ?_⟩
            have l1 := r1.length
            simp only [enumD, List.length_map, List.length_zip, List.length_range]
            omega
        · exact q1.elim
    · exact q1.elim
end
end Mi
end
section
set_option maxRecDepth 100000
namespace Mi
open PySem L2 PyProof.Rows
/-! ### list comprehensions -/
open Classical in
noncomputable def lcGo (G : Sto → Prop) (g : Tg) (bt : BT) (fe : ET) (env : Env) : List D → List D → Sto → R (List D)
  | [], acc, s => if G s then .ok acc s else .no
  | d :: r, acc, s => if G s then (match g d env with
      | some env2 => (bt env2 s).bind fun b s1 => match b with
        | true => (fe env2 s1).bind fun y s2 => if acc.length < sizeLine then lcGo G g bt fe env r (acc ++ [y]) s2 else .no
        | false => lcGo G g bt fe env r acc s1
      | none => .no) else .no
def bYes : BT := fun _ s => .ok true s
noncomputable def mLc (it : IT) (g : Tg) (bt : BT) (fe : ET) (vs : List Nat) : ET := fun env s => (it env s).bind fun p s1 => (lcGo p.2 g bt fe (wipeE env vs) p.1 [] s1).quiet.bind fun ds s2 => .ok (.lst ds) s2
abbrev E00 : L2.St → XK := fun _ => E0
theorem E00_elim {w : Wd} {c : Ct} {H : Hp} {α : Type} {r : R α} {k : α → Ct → Hp → Prop} {a : α} {S : Sto} (e : r = .ok a S) (h : ∀ c' H', Ext c H c' H' → Good w H' c' → c'.S = S → k a c' H') : Fin w E0 c H r k := by rw [e]; exact h
section
variable {X : Cx} {E : L2.St → XK} {pos : Pos} {a b : Expr} {fa fb : ET} {tg : Expr}
abbrev MTs (X : Cx) (E : L2.St → XK) (e : List Expr) (f : BT) : Prop := PTs X e (tMB (Wx X) E f)
theorem PTs.imp {e : List Expr} {t t' : TT} (h : PTs X e t) (i : ∀ st H Q, t' st H Q → t st H Q) : PTs X e t' := ⟨fun pins s st H Q I q => h.run pins s st H Q I (i st H Q q)⟩
theorem mts_nil : MTs X E [] bYes := PTs.imp pts_nil fun st H Q ⟨c, env, g, re, q⟩ => q.here g rfl
theorem mts_one {bt : BT} (h : MT X E a bt) : MTs X E [a] bt := pts_one h
theorem lcGo_cons {G : Sto → Prop} {g : Tg} {bt : BT} {fe : ET} {env : Env} {d : D} {r acc out : List D} {s S : Sto} (h : lcGo G g bt fe env (d :: r) acc s = .ok out S) :
    G s ∧ ∃ env2, g d env = some env2 ∧ ∃ b s1, bt env2 s = .ok b s1 ∧ ((b = false ∧ lcGo G g bt fe env r acc s1 = .ok out S) ∨ (b = true ∧ ∃ y s2, fe env2 s1 = .ok y s2 ∧ acc.length < sizeLine ∧ lcGo G g bt fe env r (acc ++ [y]) s2 = .ok out S)) := by
  rw [lcGo] at h
  split at h
  · rename_i hG
    refine ⟨hG, ?_⟩
    split at h
    · rename_i env2 he
      refine ⟨env2, he, ?_⟩
      cases z : bt env2 s with
      | no => rw [z] at h; cases h
      | ex x S1 => rw [z] at h; cases h
      | ok b s1 =>
        rw [z] at h
        refine ⟨b, s1, rfl, ?_⟩
        cases b with
        | false => exact .inl ⟨rfl, h⟩
        | true =>
          simp only [bind_ok] at h
          cases z2 : fe env2 s1 with
          | no => rw [z2] at h; cases h
          | ex x S1 => rw [z2] at h; cases h
          | ok y s2 =>
            rw [z2] at h
            simp only [bind_ok] at h
            split at h
            · rename_i hl
              exact .inr ⟨rfl, y, s2, rfl, hl, h⟩
            · cases h
    · cases h
  · cases h
theorem lcGo_nil {G : Sto → Prop} {g : Tg} {bt : BT} {fe : ET} {env : Env} {acc out : List D} {s S : Sto} (h : lcGo G g bt fe env [] acc s = .ok out S) : G s ∧ out = acc ∧ S = s := by
  rw [lcGo] at h
  split at h
  · rename_i hG; cases h; exact ⟨hG, rfl, rfl⟩
  · cases h
theorem tLc_M {w : Wd} {it : IT} {g : Tg} {bt : BT} {fe : ET} {js vs : List Nat} {st : L2.St} {H : Hp} {Q : VK} (hj : ∀ j ∈ js, j ∈ vs) (h : tM w E (mLc it g bt fe vs) st H Q) :
    tLc (tMI w E it) (tMG w js g) (tMB w E00 bt) (tM w E00 fe) vs st H Q := by
  obtain ⟨c, env, gd, re, q⟩ := h
  refine ⟨c, env, gd, re, (Fin.bind q).mono fun p c1 H1 e1 g1 q1 J WJ Dd hD => ?_⟩
  -- the whole run of the block
  cases z : lcGo p.2 g bt fe (wipeE env vs) p.1 [] c1.S with
  | no => rw [z] at q1; exact q1.elim
  | ex x S => rw [z] at q1; exact q1.elim
  | ok out S =>
    rw [z] at q1
    have fin : ∀ c' H', Ext c1 H1 c' H' → Good w H' c' → c'.S = S → ∀ v, RelD w H' c' (.lst out) v → Q v H' := q1
    clear q1 q
    refine ⟨fun i m H' => m = p.1.length - i ∧ i ≤ p.1.length ∧ ∃ c' acc vacc, Good w H' c' ∧ Tr c1 H1 c' H' ∧ c'.gs = Dd :: c1.gs ∧ (∀ b ∈ c1.gs, H' b = H1 b) ∧ H' Dd = some (.lst vacc) ∧ RelDs w H' c' acc vacc ∧ lcGo p.2 g bt fe (wipeE env vs) (p.1.drop i) acc c'.S = .ok out S,
      ⟨p.1.length, by simp, Nat.zero_le _, c1.gh Dd, [], [], g1.gh hD, Tr.gh hD, rfl, fun b hb => upd_ne (g1.gne hD hb), upd_same, .nil, z⟩, ?_⟩
    rintro i m H2 ⟨rfl, hi, c2, acc, vacc, g2, t2, gs2, gk2, hD2, ra, run⟩
    have nlD : ∀ (l : List Addr), l = c1.gs → ¬ Lv (c2.ug l) Dd := fun l el lv => by
      rcases lv with ⟨n, o, en, eo, mo⟩ | lv
      · have := (g2.gst Dd (by rw [gs2]; simp)).2
        exact this (List.mem_of_getElem? (show c2.p[n]? = some Dd from en))
      · rw [el] at lv
        exact g1.gne hD (show Dd ∈ c1.gs from lv) rfl
    by_cases hlt : i < p.1.length
    · rw [List.drop_eq_getElem_cons hlt] at run
      obtain ⟨hG, env2, he2, b, s1, hb, alt⟩ := lcGo_cons run
      refine .inr ⟨WJ.go c2 H2 t2 g2 hG i hlt, fun H' => ∃ c' acc vacc, Good w H' c' ∧ Tr c1 H1 c' H' ∧ c'.gs = Dd :: c1.gs ∧ (∀ b ∈ c1.gs, H' b = H1 b) ∧ H' Dd = some (.lst vacc) ∧ RelDs w H' c' acc vacc ∧ lcGo p.2 g bt fe (wipeE env vs) (p.1.drop (i + 1)) acc c'.S = .ok out S,
        fun H' hN => ⟨p.1.length - (i + 1), by omega, rfl, hlt, hN⟩, fun x H3 hy => ?_⟩
      obtain ⟨e3, g3, rx⟩ := WJ.yld c2 H2 t2 g2 hG i _ (List.getElem?_eq_getElem hlt) x H3 hy
      have t3 := t2.trans e3.toTr
      refine ⟨c2, _, wipeE env vs, env2, g3, rx, ((re.tr e1.toTr).tr t3).wipe vs, he2, fun st2 on re2 => ⟨wipe_only on hj, c2, env2, g3, re2, E00_elim hb fun c4 H4 e4 g4 s4 => ?_⟩⟩
      have gk4 : ∀ b ∈ c1.gs, H4 b = H1 b := fun b hb => ((e4.gk b (by rw [gs2]; exact List.mem_cons_of_mem _ hb)).trans (e3.gk b (by rw [gs2]; exact List.mem_cons_of_mem _ hb))).trans (gk2 b hb)
      have hD4 : H4 Dd = some (.lst vacc) := ((e4.gk Dd (by rw [gs2]; simp)).trans (e3.gk Dd (by rw [gs2]; simp))).trans hD2
      have ra4 : RelDs w H4 c4 acc vacc := (ra.ext e3).ext e4
      rcases alt with ⟨rfl, run2⟩ | ⟨rfl, y, s2, hfe, hl, run2⟩
      · exact iteF ⟨c4, acc, vacc, g4, t3.trans e4.toTr, e4.gs.trans gs2, gk4, hD4, ra4, by rw [s4]; exact run2⟩
      · refine iteT ⟨c4, env2, g4, re2.ext e4, E00_elim (by rw [s4]; exact hfe) fun c5 H5 e5 g5 s5 v rv => ?_⟩
        have hD5 : H5 Dd = some (.lst vacc) := (e5.gk Dd (by rw [e4.gs, gs2]; simp)).trans hD4
        have gs5 : c5.gs = Dd :: c1.gs := e5.gs.trans (e4.gs.trans gs2)
        have mem5 : Dd ∈ c5.gs := by rw [gs5]; simp
        refine ⟨vacc, hD5, by rw [← ra4.length]; exact hl, c5, acc ++ [y], vacc ++ [v], g5.grow mem5, ((t3.trans e4.toTr).trans e5.toTr).trans (Tr.grow mem5), gs5, fun b hb => ?_, upd_same, ?_, by rw [s5]; exact run2⟩
        · rw [upd_ne (fun zz => g1.gne hD hb zz)]
          exact (e5.gk b (by rw [e4.gs, gs2]; exact List.mem_cons_of_mem _ hb)).trans (gk4 b hb)
        · exact ((ra4.ext e5).append (.cons rv .nil)).tr (Tr.grow mem5)
    · have hi' : i = p.1.length := by omega
      subst hi'
      rw [List.drop_length] at run
      obtain ⟨hG, rfl, rfl⟩ := lcGo_nil run
      refine .inl ⟨WJ.stop c2 H2 t2 g2 hG, ?_⟩
      have sub : ∀ b ∈ c1.gs, b ∈ c2.gs := fun b hb => by rw [gs2]; exact List.mem_cons_of_mem _ hb
      have tu : Tr c2 H2 (c2.ug c1.gs) H2 := Tr.ug sub
      refine fin (c2.ug c1.gs) H2 ⟨t2.trans tu, rfl, gk2⟩ (g2.ug sub) rfl _ (.lst ⟨hD2, nlD _ rfl⟩ (ra.tr tu))
theorem me_lc {elt iter : Expr} {ifs : List Expr} {scope : Scope} {own : List (Str × Nat)} {it : IT} {g : Tg} {js : List Nat} {bt : BT} {fe : ET} (hc : X.calm = true) (hN : X.N.Nodup) (hi : MI X E tg iter it) (ok : BlkOk X.N X.env.scope scope own)
    (hg : ∀ s H C cl fp, MG (X.blk s H scope (compEnvC scope cl C X.env) fp) tg js g) (ht : ∀ s H C cl fp, MTs (X.blk s H scope (compEnvC scope cl C X.env) fp) E00 ifs bt)
    (he : ∀ s H C cl fp, ME (X.blk s H scope (compEnvC scope cl C X.env) fp) E00 elt fe) (hj : ∀ j ∈ js, j ∈ own.map (·.2) := by decide) (hs : ∀ x, foldedSetIterable iter X.env x = pure x := by intro _; rfl) :
    ME X E (.ListComp elt [⟨tg, iter, ifs, 0⟩] scope pos) (mLc it g bt fe (own.map (·.2))) := PE.imp (pe_lc hc hN hi ok hg ht he hs) fun _ _ _ => tLc_M hj
/-! ### statements -/
variable {st1 : Stmt} {sts : List Stmt} {f1 f2 : SM}
def sNil : SM := fun env s => .fl (.nx env) s
def sSeq (f g : SM) : SM := fun env s => (f env s).then g
theorem mss_nil : MSs X E [] sNil := PSs.imp pss_nil fun En st H ⟨c, env, g, re, q⟩ => q c H (Ext.refl c H) g rfl st re
theorem mss_cons (h1 : MS X E st1 f1) (h2 : MSs X E sts f2) : MSs X E (st1 :: sts) (sSeq f1 f2) := PSs.imp (pss_cons h1 h2) fun En st H ⟨c, env, g, re, q⟩ => by
  refine ⟨c, env, g, re, ?_⟩
  have q : FinS (Wx X) E c H ((f1 env c.S).then f2) En := q
  cases z : f1 env c.S with
  | no => rw [z] at q; exact q
  | ex x e S => rw [z] at q; exact q
  | fl fl S =>
    rw [z] at q
    intro c1 H1 e1 g1 s1
    cases fl with
    | nx env1 =>
      intro st1 re1
      refine ⟨c1, env1, g1, re1, ?_⟩
      rw [s1]
      exact FinS.later e1 q
    | rt d => exact q c1 H1 e1 g1 s1
    | bk e => exact q c1 H1 e1 g1 s1
    | ct e => exact q c1 H1 e1 g1 s1
theorem mss_one (h1 : MS X E st1 f1) : MSs X E [st1] f1 := PSs.imp (pss_one h1) fun _ _ _ h => h
def sIf (bc : BT) (f g : SM) : SM := fun env s => (bc env s).bt env fun k s1 => match k with
  | true => f env s1
  | false => g env s1
theorem ms_if {c' : Expr} {bc : BT} {b1 b2 : List Stmt} (hc : MT X E c' bc) (h1 : MSs X E b1 f1) (h2 : MSs X E b2 f2) : MS X E (.If c' b1 b2 pos) (sIf bc f1 f2) := PS.imp (ps_if hc h1 h2) fun En st H ⟨c, env, g, re, q⟩ => by
  refine ⟨c, env, g, re, (FinS.of_bt re q).mono fun k c1 H1 e1 g1 q1 => ?_⟩
  cases k with
  | true => exact iteT ⟨c1, env, g1, re.ext e1, q1⟩
  | false => exact iteF ⟨c1, env, g1, re.ext e1, q1⟩
def sRet (fa : ET) : SM := fun env s => (fa env s).st env fun d s1 => .fl (.rt d) s1
theorem ms_ret (h : ME X E a fa) : MS X E (.Return (some a) pos) (sRet fa) := PS.imp (ps_ret h) fun En st H ⟨c, env, g, re, q⟩ =>
  ⟨c, env, g, re, (FinS.of_st re q).mono fun d c1 H1 e1 g1 q1 v rv => q1 c1 H1 (Ext.refl _ _) g1 rfl v rv⟩
def sRetN : SM := fun env s => .fl (.rt .non) s
theorem ms_retN : MS X E (.Return none pos) sRetN := PS.imp ps_retN fun En st H ⟨c, env, g, re, q⟩ => q c H (Ext.refl c H) g rfl _ .non
theorem ms_pass : MS X E (.Pass pos) sNil := PS.imp ps_pass fun En st H ⟨c, env, g, re, q⟩ => q c H (Ext.refl c H) g rfl st re
def sBrk : SM := fun env s => .fl (.bk env) s
def sCnt : SM := fun env s => .fl (.ct env) s
theorem ms_break : MS X E (.Break pos) sBrk := PS.imp ps_break fun En st H ⟨c, env, g, re, q⟩ => q c H (Ext.refl c H) g rfl st re
theorem ms_continue : MS X E (.Continue pos) sCnt := PS.imp ps_continue fun En st H ⟨c, env, g, re, q⟩ => q c H (Ext.refl c H) g rfl st re
def sExp (fa : ET) : SM := fun env s => (fa env s).st env fun _ s1 => .fl (.nx env) s1
theorem ms_expr (h : ME X E a fa) (hs : swapsWith a none pos.line X.env = pure false := by rfl) : MS X E (.Expr a pos) (sExp fa) := PS.imp (ps_expr h hs) fun En st H ⟨c, env, g, re, q⟩ =>
  ⟨c, env, g, re, (FinS.of_st re q).mono fun d c1 H1 e1 g1 q1 v rv => q1 c1 H1 (Ext.refl _ _) g1 rfl st (re.ext e1)⟩
def sAsg (fa : ET) (g : Tg) : SM := fun env s => (fa env s).st env fun d s1 => match g d env with
  | some env1 => .fl (.nx env1) s1
  | none => .no
theorem tAsg_M {w : Wd} {js : List Nat} {g : Tg} {En : Ends} {st : L2.St} {H : Hp} (h : tMS w E (sAsg fa g) En st H) : tAsg (tM w E fa) (tMG w js g) En st H := by
  obtain ⟨c, env, gd, re, q⟩ := h
  refine ⟨c, env, gd, re, (FinS.of_st re q).mono fun d c1 H1 e1 g1 q1 v rv => ?_⟩
  cases z : g d env with
  | none => rw [z] at q1; exact q1.elim
  | some env1 =>
    rw [z] at q1
    exact ⟨c1, d, env, env1, g1, rv, re.ext e1, z, fun st' on re' => q1 c1 H1 (Ext.refl _ _) g1 rfl st' re'⟩
theorem ms_asg {js : List Nat} {g : Tg} (he : ME X E a fa) (hg : MG X tg js g) (hs : swapsWithSole [tg] a pos.line X.env = pure false := by rfl) (hw : swappedStores [tg] a X.env = pure none := by rfl)
    (h1 : (assignEach [tg] X.env).map (·.2) = [assign tg X.env] := by rfl) : MS X E (.Assign [tg] a pos) (sAsg fa g) := PS.imp (ps_asg he hg hs hw h1) fun _ _ _ => tAsg_M
theorem ms_set {i : Nat} {x : Str} {pos' : Pos} (hN : X.N.Nodup) (hi : X.N[i]? = some x) (hx : Loc X.env.scope x) (he : ME X E a fa) (hs : swapsWith a (some (.Name x pos')) pos.line X.env = pure false := by rfl) (hf : X.fn x = true ∨ X.env.scope.names.lookup x = some .local := by first | exact .inl rfl | exact .inr rfl | assumption) :
    MS X E (.Assign [.Name x pos'] a pos) (sAsg fa (tgN i)) := PS.imp (ps_set hN hi hx he hs hf) fun En st H ⟨c, env, gd, re, q⟩ => by
  refine ⟨c, env, gd, re, (FinS.of_st re q).mono fun d c1 H1 e1 g1 q1 v rv => ?_⟩
  exact q1 c1 H1 (Ext.refl _ _) g1 rfl _ ((re.ext e1).set rv)
theorem ms_setLc {i : Nat} {y : Str} {py : Pos} {elt iter : Expr} {ifs : List Expr} {scope : Scope} {own : List (Str × Nat)} {lpos : Pos} {it : IT} {g : Tg} {js : List Nat} {bt : BT} {fe : ET} (hc : X.calm = true) (hN : X.N.Nodup) (hy : X.N[i]? = some y) (hyl : X.env.scope.names.lookup y = some .local)
    (hsw : swapsWith (.ListComp elt [⟨tg, iter, ifs, 0⟩] scope lpos) (some (.Name y py)) pos.line X.env = pure true) (hi : MI X E tg iter it) (ok : BlkOk X.N X.env.scope scope own)
    (hg : ∀ s H C cl fp, MG (X.blk s H scope (compEnvC scope cl C X.env) fp) tg js g) (ht : ∀ s H C cl fp, MTs (X.blk s H scope (compEnvC scope cl C X.env) fp) E00 ifs bt)
    (he : ∀ s H C cl fp, ME (X.blk s H scope (compEnvC scope cl C X.env) fp) E00 elt fe) (hj : ∀ j ∈ js, j ∈ own.map (·.2) := by decide) (hs : ∀ x, foldedSetIterable iter X.env x = pure x := by intro _; rfl) :
    MS X E (.Assign [.Name y py] (.ListComp elt [⟨tg, iter, ifs, 0⟩] scope lpos) pos) (sAsg (mLc it g bt fe (own.map (·.2))) (tgN i)) := PS.imp (ps_setLc hc hN hy hyl hsw hi ok hg ht he hs) fun En st H ⟨c, env, gd, re, q⟩ => by
  refine tLc_M hj ⟨c, env, gd, re, (FinS.of_st re q).mono fun d c1 H1 e1 g1 q1 v rv => ?_⟩
  exact q1 c1 H1 (Ext.refl _ _) g1 rfl _ ((re.ext e1).set rv)
/-- a, b = x, y -/
def sPar (i j : Nat) (fs : AT) : SM := fun env s => (fs env s).lt env fun ds s1 => match ds with
  | [d, e] => .fl (.nx ((env.set i (some d)).set j (some e))) s1
  | _ => .no
theorem ms_par {i j : Nat} {x y : Str} {fs : AT} {px py pt : Pos} {kt k2 pt2} (hc : X.calm = true) (hN : X.N.Nodup) (hi : X.N[i]? = some x) (hj : X.N[j]? = some y) (hij : i ≠ j)
    (hx : X.env.scope.names.lookup x = some .local) (hy : X.env.scope.names.lookup y = some .local) (ha : MA X E [a, b] fs) (hw : swappedStores [.Tuple [.Name x px, .Name y py] kt pt] (.Tuple [a, b] k2 pt2) X.env = pure (some [x, y]) := by rfl) :
    MS X E (.Assign [.Tuple [.Name x px, .Name y py] kt pt] (.Tuple [a, b] k2 pt2) pos) (sPar i j fs) := PS.imp (ps_par hc hN hi hj hij hx hy ha hw) fun En st H ⟨c, env, gd, re, q⟩ => by
  refine ⟨c, env, gd, re, (FinS.of_lt re q).mono fun ds c1 H1 e1 g1 q1 vs rvs => ?_⟩
  split at q1
  · cases rvs with
    | cons rd rn =>
      cases rn with
      | cons rd2 rn =>
        cases rn
        exact ⟨_, _, rfl, q1 c1 H1 (Ext.refl _ _) g1 rfl _ (((re.ext e1).set rd).set rd2)⟩
  · exact q1.elim
/-! ### loops -/
open Classical in
noncomputable def forGo (G : Sto → Prop) (g : Tg) (body : SM) : List D → Env → Sto → SR
  | [], env, s => if G s then .fl (.nx env) s else .no
  | d :: r, env, s => if G s then (match g d env with
      | some env1 => match body env1 s with
        | .fl (.nx e) s1 => forGo G g body r e s1
        | .fl (.ct e) s1 => forGo G g body r e s1
        | .fl (.bk e) s1 => .fl (.nx e) s1
        | .fl (.rt v) s1 => .fl (.rt v) s1
        | .ex x e s1 => .ex x e s1
        | .no => .no
      | none => .no) else .no
def R.it (r : R (List D × (Sto → Prop))) (env : Env) (g : List D × (Sto → Prop) → Sto → SR) : SR := match r with
  | .ok d s => g d s
  | .ex x s => .ex x env s
  | .no => .no
@[simp] theorem it_ok (d : List D × (Sto → Prop)) (s : Sto) (env : Env) (g : List D × (Sto → Prop) → Sto → SR) : (R.ok d s).it env g = g d s := rfl
noncomputable def sFor (it : IT) (g : Tg) (body : SM) : SM := fun env s => (it env s).it env fun p s1 => forGo p.2 g body p.1 env s1
theorem ms_for {iter : Expr} {body : List Stmt} {it : IT} {g : Tg} {js : List Nat} {fb : SM} (hp : PassesOwn (model X.prog X.w) X.A X.env X.xe) (hc : X.calm = true) (hi : MI X E tg iter it) (hg : MG X tg js g) (hb : MSs X E body fb)
    (hs : ∀ x, foldedSetIterable iter X.env x = pure x := by intro _; rfl) : MS X E (.For tg iter body [] pos) (sFor it g fb) := PS.imp (ps_for hp hc hi hg hb hs) fun En st H ⟨c, env, gd, re, q⟩ => by
  refine ⟨c, env, gd, re, ?_⟩
  have q : FinS (Wx X) E c H ((it env c.S).it env fun p s1 => forGo p.2 g fb p.1 env s1) En := q
  cases z : it env c.S with
  | no => rw [z] at q; exact q.elim
  | ex x S => rw [z] at q; exact fun c' H' cls dd e' g' s' rx => q c' H' cls dd st e' g' s' (re.ext e') rx
  | ok p S =>
    rw [z] at q
    intro c1 H1 e1 g1 s1 J WJ
    have q0 : FinS (Wx X) E c1 H1 (forGo p.2 g fb (p.1.drop 0) env c1.S) En := by
      rw [s1]
      exact FinS.later e1 q
    refine ⟨fun i m st' H' => m = p.1.length - i ∧ i ≤ p.1.length ∧ ∃ c' env', Good (Wx X) H' c' ∧ RelEnv (Wx X) H' c' env' st' ∧ Tr c1 H1 c' H' ∧ FinS (Wx X) E c' H' (forGo p.2 g fb (p.1.drop i) env' c'.S) En,
      ⟨p.1.length, by simp, Nat.zero_le _, c1, env, g1, re.ext e1, (Ext.refl _ _).toTr, q0⟩, ?_⟩
    rintro i m st2 H2 ⟨rfl, hi', c2, env2, g2, re2, t2, q2⟩
    by_cases hlt : i < p.1.length
    · rw [List.drop_eq_getElem_cons hlt, forGo] at q2
      split at q2
      case isFalse => exact q2.elim
      rename_i hG
      split at q2
      case h_2 => exact q2.elim
      rename_i env3 he3
      refine .inr ⟨WJ.go c2 H2 t2 g2 hG i hlt, fun st' H' => ∃ c' env', Good (Wx X) H' c' ∧ RelEnv (Wx X) H' c' env' st' ∧ Tr c1 H1 c' H' ∧ FinS (Wx X) E c' H' (forGo p.2 g fb (p.1.drop (i + 1)) env' c'.S) En,
        fun st' H' hN => ⟨p.1.length - (i + 1), by omega, rfl, hlt, hN⟩, fun x H3 hy => ?_⟩
      obtain ⟨e3, g3, rx⟩ := WJ.yld c2 H2 t2 g2 hG i _ (List.getElem?_eq_getElem hlt) x H3 hy
      refine ⟨c2, _, env2, env3, g3, rx, re2.ext e3, he3, fun st3 on re3 => ⟨c2, env3, g3, re3, ?_⟩⟩
      cases zb : fb env3 c2.S with
      | no => rw [zb] at q2; exact q2.elim
      | ex x e S3 =>
        rw [zb] at q2
        exact FinS.later (w := Wx X) (r := .ex x e S3) (En := { En with nx := _, ct := _, bk := En.nx }) e3 (show FinS (Wx X) E c2 H2 (.ex x e S3) { En with nx := _, ct := _, bk := En.nx } from q2)
      | fl fl S3 =>
        rw [zb] at q2
        intro c4 H4 e4 g4 s4
        cases fl with
        | nx e => exact fun st4 re4 => ⟨c4, e, g4, re4, t2.trans (e3.trans e4).toTr, by rw [s4]; exact FinS.later (e3.trans e4) q2⟩
        | ct e => exact fun st4 re4 => ⟨c4, e, g4, re4, t2.trans (e3.trans e4).toTr, by rw [s4]; exact FinS.later (e3.trans e4) q2⟩
        | bk e => exact fun st4 re4 => q2 c4 H4 (e3.trans e4) g4 s4 st4 re4
        | rt d => exact fun v rv => q2 c4 H4 (e3.trans e4) g4 s4 v rv
    · have hi2 : i = p.1.length := by omega
      subst hi2
      rw [List.drop_length, forGo] at q2
      split at q2
      case isFalse => exact q2.elim
      rename_i hG
      exact .inl ⟨WJ.stop c2 H2 t2 g2 hG, q2 c2 H2 (Ext.refl _ _) g2 rfl st2 re2⟩
def whGo (bc : BT) (body : SM) : Nat → Env → Sto → SR
  | 0, _, _ => .no
  | n + 1, env, s => (bc env s).bt env fun k s1 => match k with
    | true => match body env s1 with
      | .fl (.nx e) s2 => whGo bc body n e s2
      | .fl (.ct e) s2 => whGo bc body n e s2
      | .fl (.bk e) s2 => .fl (.nx e) s2
      | .fl (.rt v) s2 => .fl (.rt v) s2
      | .ex x e s2 => .ex x e s2
      | .no => .no
    | false => .fl (.nx env) s1
theorem ms_while {c' : Expr} {body : List Stmt} {bc : BT} {fb : SM} (n : Nat) (hp : PassesOwn (model X.prog X.w) X.A X.env X.xe) (hc : MT X E c' bc) (hb : MSs X E body fb) : MS X E (.While c' body [] pos) (whGo bc fb n) := PS.imp (ps_while hp hc hb) fun En st H ⟨c, env, gd, re, q⟩ => by
  refine ⟨fun m st' H' => ∃ c' env', Good (Wx X) H' c' ∧ RelEnv (Wx X) H' c' env' st' ∧ FinS (Wx X) E c' H' (whGo bc fb m env' c'.S) En, ⟨n, c, env, gd, re, q⟩, ?_⟩
  rintro m st1 H1 ⟨c1, env1, g1, re1, q1⟩
  cases m with
  | zero => exact q1.elim
  | succ m =>
    rw [whGo] at q1
    refine ⟨c1, env1, g1, re1, (FinS.of_bt re1 q1).mono fun k c2 H2 e2 g2 q2 => ?_⟩
    cases k with
    | false => exact iteF (q2 c2 H2 (Ext.refl _ _) g2 rfl st1 (re1.ext e2))
    | true =>
      refine iteT ⟨fun st' H' => ∃ c' env', Good (Wx X) H' c' ∧ RelEnv (Wx X) H' c' env' st' ∧ FinS (Wx X) E c' H' (whGo bc fb m env' c'.S) En, fun st' H' hN => ⟨m, Nat.lt_succ_self m, hN⟩, c2, env1, g2, re1.ext e2, ?_⟩
      simp only at q2
      cases zb : fb env1 c2.S with
      | no => rw [zb] at q2; exact q2.elim
      | ex x e S3 => rw [zb] at q2; exact q2
      | fl fl S3 =>
        rw [zb] at q2
        intro c4 H4 e4 g4 s4
        cases fl with
        | nx e => exact fun st4 re4 => ⟨c4, e, g4, re4, by rw [s4]; exact FinS.later e4 q2⟩
        | ct e => exact fun st4 re4 => ⟨c4, e, g4, re4, by rw [s4]; exact FinS.later e4 q2⟩
        | bk e => exact fun st4 re4 => q2 c4 H4 e4 g4 s4 st4 re4
        | rt d => exact fun v rv => q2 c4 H4 e4 g4 s4 v rv
end
/-! ### defs -/
def mFun (N n : Nat) (body : SM) : FT := fun ds s => if ds.length = n then (match body (ds.map some ++ List.replicate (N - n) none) s with
  | .fl (.rt d) s1 => .ok d s1
  | .fl (.nx _) s1 => .ok .non s1
  | .ex x _ s1 => .ex x s1
  | _ => .no) else .no
theorem RelDs.start {w : Wd} {H : Hp} {c : Ct} {ds : List D} {vs : List V} (h : RelDs w H c ds vs) (N : List Str) : RelEnv w H c (ds.map some ++ List.replicate (N.length - ds.length) none) (L2.start N vs) := by
  have l := h.length
  refine ⟨by simp [L2.start, l], fun i d e => ?_⟩
  unfold L2.start
  by_cases hi : i < ds.length
  · rw [List.getElem?_append_left (by simpa using hi), List.getElem?_map] at e
    rw [List.getElem?_append_left (by simp; omega), List.getElem?_map]
    cases z : ds[i]? with
    | none => rw [z] at e; cases e
    | some x =>
      rw [z] at e
      cases e
      obtain ⟨v, hv, r⟩ := h.get z
      exact ⟨v, by rw [hv]; rfl, r⟩
  · rw [List.getElem?_append_right (by simpa using hi), List.getElem?_replicate] at e
    split at e <;> cases e
section
variable {P : Program} {w : World} {K : PySem.W.Frag} {mg : Str → Option Value} {base : Heap}
theorem mfun_len {N n : Nat} {body : SM} {ds : List D} {s : Sto} {d : D} {s' : Sto} (h : ds.length ≠ n) : mFun N n body ds s = .no := if_neg h
/-- a def that raises nothing keeps its mirror -/
theorem fn_mir {x qual : Str} {st : Stmt} {f : Addr} {fd : FuncData} {N ps : List Str} {k : Nat} {body : SM} (F : Fun K x qual st f fd) (S : FnScope N ps (defScope st))
    (hb : ∀ (cdv : Value) (A : Around) (outer : List PySem.Env) (s : Shared) (H : Hp) (E : XK), RoomG k (A.deeper (envOfC qual (defScope st) s.heap.objs.size f cdv)) →
      MSs (cxOf CX0 P w K mg base N qual (defScope st) f cdv A outer s H E).nox E00 (defBody st) body) : FnG P w K mg base CX0 (k + 1) f fd ps (spM ⟨K, mg⟩ (mFun N.length ps.length body)) := by
  refine fun_okG F S (fun vs H Q E h => ?_) (fun cdv A outer s H vs Q E hr h => ⟨_, hb cdv A outer s H E hr, ?_⟩)
  · obtain ⟨c, ds, g, r, q⟩ := h
    rw [← r.length]
    by_cases e : ds.length = ps.length
    · exact e
    · rw [mfun_len e (d := .non) (s' := [])] at q; exact q.elim
  · obtain ⟨c, ds, g, r, q⟩ := h
    by_cases e : ds.length = ps.length
    · refine ⟨c, _, g, r.start N, ?_⟩
      rw [mFun, if_pos e] at q
      rw [← e] at q
      cases z : body (ds.map some ++ List.replicate (N.length - ds.length) none) c.S with
      | no => rw [z] at q; exact q.elim
      | ex x en S1 => rw [z] at q; exact fun c' H' cls dd st' e' g' s' re' rx => q c' H' cls dd e' g' s' rx
      | fl fl S1 =>
        rw [z] at q
        intro c1 H1 e1 g1 s1
        cases fl with
        | nx en => exact fun st' re' => q c1 H1 e1 g1 s1 _ .non
        | rt d => exact fun v rv => q c1 H1 e1 g1 s1 v rv
        | bk en => exact q.elim
        | ct en => exact q.elim
    · rw [mfun_len e (d := .non) (s' := [])] at q; exact q.elim
end
end Mi
end
section
set_option maxRecDepth 100000
set_option maxHeartbeats 1000000
namespace Mi
open PySem L2 PyProof.Rows
section
variable {prog : Program} {w : World} {A : Around} {E : Value → Shared → Prop} {s : Shared}
/-! an empty tuple, any number of times, is itself -/
theorem mul_empty (l : Addr) (n : Nat) (dd : Option Addr) (sl : Array (Option Value)) (x : Int) (u : Tok) (c0 : (decide (x < -(2 ^ 63)) || decide (x ≥ 2 ^ 63)) = false) :
    Meets (Builtin.«tuple.__mul__» ⟨[.ref l, .int x u], []⟩)
      (fun _ R s => s.heap.get? l = some { cls := .type "tuple", dict := dd, data := .seq #[] n, slots := sl } ∧ R (.ok (.ret (Value.ref l))) s) :=
  .of_wp fun prog w A R s h => by
    obtain ⟨hp, g, d, tk, os⟩ := s
    obtain ⟨hl, h⟩ := h
    have f1 := AutoSeq1.idx_int
    wp_walk using wpAny_loadPart' hl
    refine wpAny_ite_false (decide_eq_false (by rw [c0]; exact Bool.false_ne_true)) ?_
    wp_walk using wpAny_loadPart' hl
    exact ⟨_, rfl, h⟩
theorem mul_tup0 {X : Cx} {pins : List (Addr × Obj)} {σ : L2.St} {H : Hp} {s : Shared} {a : Addr} {k : Int} {t : Tok} {Q : VK} (I : Inv X pins σ H s) (ht : SqT X.K H a []) (h1 : -(2 ^ 63) ≤ k) (h2 : k < 2 ^ 63) (q : Q (.ref a) H) :
    wpAny (model X.prog X.w) X.A (binaryOp .Mult (.ref a) (.int k t)) (EP X pins σ Q) X.xe s := by
  obtain ⟨its, r, ⟨⟨cls, dd, data, sl⟩, ho, hc, n, hd⟩, hs⟩ := I.tuple ht
  cases r
  simp only at hc hd
  subst hc hd
  refine wpAny_binaryOp_repeat_ref (T := "tuple") (U := "int") (by decide) ⟨_, ho, rfl⟩
    (fun s' => typeIs_int s' k t) noFill_tuple_mul PySem.F.fills_int_mul PySem.F.slot_int_rmul
    repeat_tuple PySem.F.slot_int_index.lookup ?_
  refine call_meets PySem.F.slot_int_rmul (typeIs_int s k t) PySem.F.entry_int_rmul
    (PySem.F.args_int_rmul_2 _ _) (int_rmul_tuple k t a #[] n dd sl) ⟨ho, rfl, ⟨_, ho, rfl⟩, ?_⟩
  refine call_meets PySem.F.slot_tuple_mul ⟨_, ho, rfl⟩ PySem.F.entry_tuple_mul
    (PySem.F.args_tuple_mul_2 _ _) (mul_empty a n dd sl k t ?_) ⟨ho, ⟨.ref a, H, I, rfl, q⟩⟩
  rw [decide_eq_false (by omega), decide_eq_false (by omega)]
  rfl
/-! t[::-1] of a tuple -/
theorem slice_applied_back {sl : Addr} {vl vu vs : Value} {n : Nat} {Q : Int × Int × Nat → Shared → Prop} (hs : s.heap.IsSliceOf sl vl vu vs) (pl : IsPart vl none) (pu : IsPart vu none) (ps : IsPart vs (some (-1)))
    (h : Q ((n : Int) - 1, -1, n) s) : wpAny (model prog w) A (Builtin.Slice.sliceApplied (.ref sl) (pure (n : Int))) Q E s := by
  obtain ⟨os, hos, hcs, hds⟩ := id hs
  cases pl; cases pu
  unfold Builtin.Slice.sliceApplied Builtin.Slice.sliceFields
  refine wpAny_bind (wpAny_bind (wpAny_field hos hds (x := .none) rfl ?_))
  refine wpAny_bind (wpAny_field hos hds (x := .none) rfl ?_)
  refine wpAny_bind (wpAny_field hos hds (x := vs) rfl (wpAny_pure ?_))
  refine wpAny_bind (HT.slicePart_ ps ?_)
  show wpAny _ _ (if ((-1 : Int) == 0) = true then _ else _) _ _ s
  rw [if_neg (by decide)]
  refine wpAny_bind (HT.slicePart_ .none ?_)
  refine wpAny_bind (HT.slicePart_ .none ?_)
  refine wpAny_bind (wpAny_pure ?_)
  have e : Builtin.Slice.sliceAdjust none none (-1) (n : Int) = ((n : Int) - 1, -1) := by
    unfold Builtin.Slice.sliceAdjust
    simp
  have p : Builtin.Slice.slicePlaces ((n : Int) - 1) (-1) (-1) = n := by
    unfold Builtin.Slice.slicePlaces
    simp
    omega
  show wpAny _ _ (match Builtin.Slice.sliceAdjust none none (-1) (n : Int) with | (lo, hi) => pure (lo, (-1 : Int), Builtin.Slice.slicePlaces lo hi (-1))) _ _ s
  rw [e]
  show wpAny _ _ (pure ((n : Int) - 1, (-1 : Int), Builtin.Slice.slicePlaces ((n : Int) - 1) (-1) (-1))) _ _ s
  rw [p]
  exact wpAny_pure h
theorem pick_back (xs : Array Value) : ((List.range xs.size).filterMap fun (m : Nat) => xs[((xs.size : Int) - 1 + (m : Int) * (-1)).toNat]?).toArray = xs.toList.reverse.toArray := by
  obtain ⟨l⟩ := xs
  simp only [List.size_toArray]
  congr 1
  have key : ∀ (k : List Nat), (∀ m ∈ k, m < l.length) → k.filterMap (fun (m : Nat) => (Array.mk l)[((l.length : Int) - 1 + (m : Int) * (-1)).toNat]?) = k.map (fun (m : Nat) => l.reverse.getD m Value.none) := by
    intro k
    induction k with
    | nil => intro _; rfl
    | cons m k ih =>
      intro h
      have hm : m < l.length := h m List.mem_cons_self
      have e : ((l.length : Int) - 1 + (m : Int) * (-1)).toNat = l.length - 1 - m := by omega
      have hr : m < l.reverse.length := by simpa using hm
      have f : (Array.mk l)[((l.length : Int) - 1 + (m : Int) * (-1)).toNat]? = some (l.reverse.getD m Value.none) := by
        rw [e, List.getD_eq_getElem?_getD, List.getElem?_eq_getElem hr, List.getElem_reverse]
        have : (Array.mk l)[l.length - 1 - m]? = l[l.length - 1 - m]? := by simp
        rw [this, List.getElem?_eq_getElem (by omega)]
        rfl
      rw [List.filterMap_cons, f, List.map_cons, ih fun x hx => h x (List.mem_cons_of_mem _ hx)]
  rw [key _ fun m hm => List.mem_range.mp hm]
  apply List.ext_getElem?
  intro j
  rw [List.getElem?_map]
  by_cases hj : j < l.length
  · have hr : j < l.reverse.length := by simpa using hj
    rw [List.getElem?_range hj, List.getElem?_eq_getElem hr]
    show some (l.reverse.getD j Value.none) = _
    rw [List.getD_eq_getElem?_getD, List.getElem?_eq_getElem hr]
    rfl
  · rw [List.getElem?_eq_none (by simpa using hj), List.getElem?_eq_none (by simpa using hj)]
    rfl
theorem getItem_tuple_back {t sl : Addr} {items : Array Value} {vl vu vs : Value} {Q : Value → Shared → Prop} (ht : IsTup s.heap t items) (hs : s.heap.IsSliceOf sl vl vu vs) (pl : IsPart vl none) (pu : IsPart vu none) (ps : IsPart vs (some (-1)))
    (h : Q (.ref s.heap.objs.size) { s with heap := s.heap.push { cls := .type "tuple", data := .seq items.toList.reverse.toArray } })
    (hsz : items.size ≤ sizeLine) : wpAny (model prog w) A (getItem (.ref t) (.ref sl)) Q E s := by
  have hz : sizeOk (.seq items.toList.reverse.toArray) := by
    show items.toList.reverse.toArray.size ≤ sizeLine
    rw [List.size_toArray, List.length_reverse, Array.length_toList]
    exact hsz
  obtain ⟨os, hos, hcs, hds⟩ := id hs
  have hT : s.TypeIs (.ref sl) "slice" := ⟨os, hos, hcs⟩
  unfold getItem
  with_reducible refine wpAny_holding ?_
  refine wpAny_bind (wpAny_sequenceKey ht.typeIs (by decide) ?_)
  refine wpAny_bind (wpAny_callSpecial?_slot (name := Str.ofString "__getitem__") ht.typeIs slot_tuple_getitem ?_)
  refine wpAny_call_entry slot_tuple_getitem ht.typeIs PyProof.Rows.entry_tuple_getitem ?_ (PyProof.Rows.args_tuple_getitem _ _)
  show wpAny _ _ (Builtin.Tuple.tupleItemsOf (.ref t) >>= _) _ _ s
  refine wpAny_bind (PyProof.Rows.tupleItemsOf_ ht ?_)
  refine wpAny_bind (wpAny_typeOf hT ?_)
  rw [if_pos (by decide)]
  refine wpAny_bind (slice_applied_back hs pl pu ps ?_)
  have hno : ¬ ((((items.size : Int) - 1) == 0 && (-1 : Int) == 1 && items.size == items.size) = true) := by
    intro q
    rw [Bool.and_eq_true, Bool.and_eq_true] at q
    exact absurd q.1.2 (by decide)
  show wpAny _ _ (if (((items.size : Int) - 1) == 0 && (-1 : Int) == 1 && items.size == items.size) = true then _ else _) _ _ s
  rw [if_neg hno, pick_back]
  exact wpAny_bind (m := Builtin.Tuple.tupleExact _) (wpAny_newObj_type (wpAny_pure ⟨_, rfl, wpAny_pure h⟩) hz)
end
section
variable {X : Cx} {E : L2.St → XK} {e : Expr} {fa : ET} {k : Nat} {p1 p2 p3 pos : Pos}
def tRevT (K : PySem.W.Frag) (te : TE) : TE := fun st H Q => te st H fun x H1 => ∃ a xs, x = .ref a ∧ SqT K H1 a xs ∧ ∀ p, H1 p = none → Q (.ref p) (upd H1 p (.tup xs.reverse))
theorem pe_revT {te : TE} (he : PE X e te) : PE X (.Subscript e (.Slice none none (some (.UnaryOp .USub (.Constant (.int 1) k p1) p2)) p3) pos) (tRevT X.K te) := by
  refine ⟨fun pins s σ H Q I h => ?_⟩
  refine Subscript_ (thn (he.run pins s σ H _ I h) fun v s1 ⟨x, H1, I1, r1, q1⟩ => ?_)
  obtain ⟨a, xs, ex, hx, q⟩ := q1
  subst ex
  cases r1
  have hst : PO X (some (.UnaryOp .USub (.Constant (.int 1) k p1) p2)) (tPart (tUn (rU fun i => .int (-i)) (tC (.int 1)))) := po_some (pe_un un_neg pe_int)
  refine wpAny_Slice (thn (po_none.run pins s1 σ H1 (fun o H2 => o = none ∧ H2 = H1) I1 ⟨rfl, rfl⟩) ?_)
  intro vl s2 ⟨l, H2, I2, pl, el, e2⟩
  subst el e2
  refine thn (po_none.run pins s2 σ H2 (fun o H3 => o = none ∧ H3 = H2) I2 ⟨rfl, rfl⟩) ?_
  intro vu s3 ⟨u, H3, I3, pu, eu, e3⟩
  subst eu e3
  refine thn (hst.run pins s3 σ H3 (fun o H4 => o = some (-1) ∧ H4 = H3) I3 ⟨1, rfl, -1, rfl, rfl, rfl⟩) ?_
  intro vs s4 ⟨o, H4, I4, ps, eo, e4⟩
  subst eo e4
  have I5 : Inv X pins σ H4 { s4 with heap := s4.heap.push { cls := .type "slice", data := .fields #[vl, vu, vs] } } :=
    I4.kept (t' := s4.toks) fun b ob q => Heap.get?_push_of_some _ q
  obtain ⟨its, r, ht, hz⟩ := I5.tuple hx
  have hlen := r.length
  show wpAny _ _ (subscriptTail e (.Slice none none (some (.UnaryOp .USub (.Constant (.int 1) k p1) p2)) p3) (.ref a) (.ref s4.heap.objs.size)) _ _ _
  refine tail_any (ops := [.ref a, .ref s4.heap.objs.size]) ht.typeIs slot_tuple_getitem.lookup ?_ (by with_unfolding_all rfl)
  refine getItem_tuple_back ht (Heap.IsSliceOf.new _ vl vu vs) pl pu ps ?_ (by rw [List.size_toArray]; omega)
  refine ⟨.ref _, _, I5.laid (t' := s4.toks) (o := .tup xs.reverse) (fun b ob q => Heap.get?_push_of_some _ q) (Nat.le_refl _) ?_, rfl, q _ (I5.hok.fresh (Nat.le_refl _))⟩
  exact ⟨by rw [List.length_reverse]; exact hz, _, r.reverse, IsTup.new _ _⟩
/-- t[::-1] -/
def mRevT (fa : ET) : ET := fun env s => (fa env s).bind fun d s1 => match d with
  | .tup xs => .ok (.tup xs.reverse) s1
  | _ => .no
theorem me_revT (he : ME X E e fa) : ME X E (.Subscript e (.Slice none none (some (.UnaryOp .USub (.Constant (.int 1) k p1) p2)) p3) pos) (mRevT fa) := PE.imp (pe_revT he) fun st H Q ⟨c, env, g, re, q⟩ => by
  refine ⟨c, env, g, re, (Fin.bind q).mono fun d c1 H1 e1 g1 q1 v rv => ?_⟩
  cases d with
  | tup xs =>
    obtain ⟨a, vs, rfl, hq, rs⟩ := tup_ok rv
    exact ⟨a, vs, rfl, hq, fun p hp => q1.new g1 rfl hp _ (ft_new g1 hp rs.reverse)⟩
  | _ => exact q1.elim
end
end Mi
end
section
set_option maxRecDepth 100000
set_option maxHeartbeats 1000000
namespace Mi
open PySem L2 PyProof.Rows
/-! ### data without refs, as the library reads them -/
mutual
def pyD : D → Option PyData
  | .non => some .none
  | .bl b => some (.bool b)
  | .int i => some (.int i)
  | .str x => some (.str x)
  | .tup xs => match pyDs xs with
    | some ds => some (.tuple ds)
    | none => none
  | .lst xs => match pyDs xs with
    | some ds => some (.list ds)
    | none => none
  | _ => none
def pyDs : List D → Option (List PyData)
  | [] => some []
  | d :: r => match pyD d, pyDs r with
    | some x, some xs => some (x :: xs)
    | _, _ => none
end
section
variable {w : Wd} {H : Hp} {c : Ct}
mutual
theorem pyD_ok : ∀ {d : D} {v : V} {x : PyData}, RelD w H c d v → pyD d = some x → Dp w.K H v x
  | _, _, _, .non, h => by simp [pyD] at h; subst h; exact .non
  | _, _, _, .bl b, h => by simp [pyD] at h; subst h; exact .bl b
  | _, _, _, .int i, h => by simp [pyD] at h; subst h; exact .int i
  | _, _, _, .str x _, h => by simp [pyD] at h; subst h; exact .str x
  | _, _, _, @RelD.tup _ _ _ a xs vs hs rs, h => by
    simp only [pyD] at h
    cases z : pyDs xs with
    | none => rw [z] at h; cases h
    | some ds => rw [z] at h; cases h; exact .tup hs.sq (pyDs_ok rs z)
  | _, _, _, @RelD.lst _ _ _ a xs vs hs rs, h => by
    simp only [pyD] at h
    cases z : pyDs xs with
    | none => rw [z] at h; cases h
    | some ds => rw [z] at h; cases h; exact .lst hs.sq (pyDs_ok rs z)
  | _, _, _, .dic _ _ _, h => by simp [pyD] at h
  | _, _, _, .ins _ _ _ _, h => by simp [pyD] at h
  | _, _, _, .ref _, h => by simp [pyD] at h
  | _, _, _, .scr _, h => by simp [pyD] at h
  | _, _, _, .cls _, h => by simp [pyD] at h
theorem pyDs_ok : ∀ {ds : List D} {vs : List V} {xs : List PyData}, RelDs w H c ds vs → pyDs ds = some xs → DpAll w.K H vs xs
  | _, _, _, .nil, h => by simp [pyDs] at h; subst h; exact .nil
  | _, _, _, @RelDs.cons _ _ _ d ds v vs r t, h => by
    simp only [pyDs] at h
    cases z : pyD d with
    | none => rw [z] at h; cases h
    | some x =>
      cases z2 : pyDs ds with
      | none => rw [z, z2] at h; cases h
      | some xs => rw [z, z2] at h; cases h; exact .cons (pyD_ok r z) (pyDs_ok t z2)
end
/-- a list or tuple, numbered or not, with all its parts data -/
def pyA (s : Sto) (d : D) : Option PyData := match asL s d with
  | some xs => match pyDs xs with
    | some ds => some (.list ds)
    | none => none
  | none => pyD d
theorem pyA_ok {d : D} {v : V} {x : PyData} (g : Good w H c) (r : RelD w H c d v) (h : pyA c.S d = some x) : Dp w.K H v x := by
  unfold pyA at h
  split at h
  · rename_i xs z
    obtain ⟨a, vs, rfl, hq, rs⟩ := asL_sq g r z
    split at h
    · rename_i ds z2
      cases h
      exact .lst hq (pyDs_ok rs z2)
    · cases h
  · exact pyD_ok r h
end
def b2n (b : Bool) : Int := if b then 1 else 0
section
variable {X : Cx}
theorem OpR.or {f : Value → Value → Sem Value} {r r' : R2} (h : OpR X f r) (h' : OpR X f r') : OpR X f (fun x y H Q => r x y H Q ∨ r' x y H Q) := by
  intro pins s σ H x y v u Q I rx ry q
  rcases q with q | q
  · exact h pins s σ H x y v u Q I rx ry q
  · exact h' pins s σ H x y v u Q I rx ry q
/-! ### + -/
def opAdd : Op2 := fun s d e => match d, e with
  | .int i, .int j => some (.int (i + j))
  | .bl b, .int j => some (.int (b2n b + j))
  | .int i, .bl b => some (.int (i + b2n b))
  | .str x, .str y => if x.length + y.length ≤ sizeLine then some (.str (x ++ y)) else none
  | .tup xs, .tup ys => if xs.length + ys.length ≤ sizeLine then some (.tup (xs ++ ys)) else none
  | d, e => match asL s d, asL s e with
    | some xs, some ys => if xs.length + ys.length ≤ sizeLine then some (.lst (xs ++ ys)) else none
    | _, _ => none
theorem str_len_app (x y : Str) : (x ++ y).length = x.length + y.length := by
  show (x.cps ++ y.cps).size = x.cps.size + y.cps.size
  exact Array.size_append
section
variable {pins : List (Addr × Obj)} {s : Shared} {σ : L2.St} {H : Hp} {x y : V} {v u : Value} {Q : VK} {c : Ct}
theorem op_add_M : OpM X (binaryOp .Add) opAdd := by
  intro pins s σ H x y v u Q I rx ry h
  obtain ⟨c, d, e, z, g, rd, re, hz, q⟩ := h
  have here := q H (Ext.refl c H) g
  have lists : ∀ xs ys, asL c.S d = some xs → asL c.S e = some ys → (if xs.length + ys.length ≤ sizeLine then some (D.lst (xs ++ ys)) else none) = some z → wpAny (model X.prog X.w) X.A (binaryOp .Add v u) (EP X pins σ Q) X.xe s := by
    intro xs ys z1 z2 hz
    split at hz
    · rename_i hl
      cases hz
      obtain ⟨a, vs, rfl, ha, r1⟩ := asL_ok g rd z1
      obtain ⟨b, us, rfl, hb, r2⟩ := asL_ok g re z2
      exact op_cat pins s σ H _ _ v u Q I rx ry ⟨a, b, vs, us, rfl, rfl, ha, hb, by rw [← r1.length, ← r2.length]; exact hl, fun p hp => q _ (Ext.fresh g hp) (g.fresh hp) _ (fz_new g hp (r1.append r2))⟩
    · cases hz
  unfold opAdd at hz
  split at hz
  · cases hz; cases rd; cases re
    exact op_add pins s σ H _ _ v u Q I rx ry ⟨_, _, rfl, rfl, here _ (.int _)⟩
  · cases hz; cases rd; cases re
    cases rx; obtain ⟨t, rfl⟩ := ry
    exact PySem.IntBool.add_bool_int ⟨.int _, H, I.tok _, ⟨_, rfl⟩, here _ (.int _)⟩
  · cases hz; cases rd; cases re
    exact op_add_ib pins s σ H _ _ v u Q I rx ry ⟨_, _, rfl, rfl, here _ (.int _)⟩
  · split at hz
    · rename_i hl
      cases hz; cases rd; cases re
      exact op_add_str pins s σ H _ _ v u Q I rx ry ⟨_, _, rfl, rfl, hl, here _ (.str _ (by rw [str_len_app]; exact hl))⟩
    · cases hz
  · split at hz
    · rename_i xs ys hl
      cases hz
      obtain ⟨a, vs, rfl, ha, r1⟩ := tup_ok rd
      obtain ⟨b, us, rfl, hb, r2⟩ := tup_ok re
      refine op_catA pins s σ H _ _ v u Q I rx ry ⟨a, b, vs, us, rfl, rfl, ha, hb, by rw [← r1.length, ← r2.length]; exact hl, fun z => ?_, fun _ z => ?_, fun _ _ p hp => q _ (Ext.fresh g hp) (g.fresh hp) _ (ft_new g hp (r1.append r2))⟩
      · subst z; cases r1; exact here _ re
      · subst z; cases r2; rw [List.append_nil] at here; exact here _ rd
    · cases hz
  · split at hz
    · rename_i xs ys z1 z2
      exact lists xs ys z1 z2 hz
    · cases hz
end
/-! ### -, *, //, %, ** of whole numbers; * of texts, tuples, lists -/
def opSub : Op2 := fun _ d e => match d, e with
  | .int i, .int j => some (.int (i - j))
  | .int i, .bl b => some (.int (i - b2n b))
  | .bl b, .int i => some (.int (b2n b - i))
  | _, _ => none
theorem op_sub_M : OpM X (binaryOp .Sub) opSub := by
  intro pins s σ H x y v u Q I rx ry h
  obtain ⟨c, d, e, z, g, rd, re, hz, q⟩ := h
  have here := q H (Ext.refl c H) g
  unfold opSub at hz
  split at hz
  · cases hz; cases rd; cases re
    exact op_sub pins s σ H _ _ v u Q I rx ry ⟨_, _, rfl, rfl, here _ (.int _)⟩
  · cases hz; cases rd; cases re
    cases ry; obtain ⟨t, rfl⟩ := rx
    exact PySem.IntBool.sub_int_bool ⟨.int _, H, I.tok _, ⟨_, rfl⟩, here _ (.int _)⟩
  · cases hz; cases rd; cases re
    cases rx; obtain ⟨t, rfl⟩ := ry
    exact PySem.IntBool.sub_bool_int ⟨.int _, H, I.tok _, ⟨_, rfl⟩, here _ (.int _)⟩
  · cases hz
def repS (x : Str) (n : Nat) : Str := ⟨(List.replicate n x.cps).foldl (· ++ ·) #[]⟩
def opMul : Op2 := fun s d e => match d, e with
  | .int i, .int j => if (-(2 ^ 64) < i ∧ i < 2 ^ 64) ∨ (-(2 ^ 64) < j ∧ j < 2 ^ 64) then some (.int (i * j)) else none
  | .str x, .int k => if 2 ≤ k ∧ k ≤ 1000 ∧ x.length ≤ 1000 then some (.str (repS x k.toNat)) else none
  | .tup xs, .int k => if xs = [] ∧ 0 ≤ k ∧ k ≤ 1000 then some (.tup []) else if xs ≠ [] ∧ 2 ≤ k ∧ k ≤ 1000 ∧ xs.length ≤ 1000 then some (.tup (List.replicate k.toNat xs).flatten) else none
  | d, .int k => match asL s d with
    | some xs => if 0 ≤ k ∧ k ≤ 1000 ∧ xs.length ≤ 1000 then some (.lst (List.replicate k.toNat xs).flatten) else none
    | none => none
  | _, _ => none
theorem RelDs.rep {w : Wd} {H : Hp} {c : Ct} {ds : List D} {vs : List V} (h : RelDs w H c ds vs) : ∀ n : Nat, RelDs w H c (List.replicate n ds).flatten (List.replicate n vs).flatten
  | 0 => .nil
  | n + 1 => by
    rw [List.replicate_succ, List.replicate_succ, List.flatten_cons, List.flatten_cons]
    exact h.append (RelDs.rep h n)
theorem repS_len (x : Str) (n : Nat) : (repS x n).length = n * x.length := by
  have key : ∀ (n : Nat) (a : Array Nat), ((List.replicate n x.cps).foldl (· ++ ·) a).size = a.size + n * x.cps.size := by
    intro n
    induction n with
    | zero => intro a; simp
    | succ n ih => intro a; rw [List.replicate_succ, List.foldl_cons, ih, Array.size_append, Nat.succ_mul]; omega
  have := key n #[]
  simpa [repS, Str.length] using this
theorem repS_nil (x : Str) (n : Nat) (h : x.length = 0) : repS x n = x := by
  obtain ⟨a⟩ := x
  have e : a = #[] := Array.eq_empty_of_size_eq_zero h
  subst e
  have key : ∀ n : Nat, (List.replicate n (#[] : Array Nat)).foldl (· ++ ·) #[] = #[] := by
    intro n
    induction n with
    | zero => rfl
    | succ n ih => rw [List.replicate_succ, List.foldl_cons]; simpa using ih
  unfold repS
  rw [key]
theorem op_mul_M : OpM X (binaryOp .Mult) opMul := by
  intro pins s σ H x y v u Q I rx ry h
  obtain ⟨c, d, e, z, g, rd, re, hz, q⟩ := h
  have here := q H (Ext.refl c H) g
  unfold opMul at hz
  split at hz
  · split at hz
    · rename_i hl
      cases hz; cases rd; cases re
      exact op_mul pins s σ H _ _ v u Q I rx ry ⟨_, _, rfl, rfl, hl, here _ (.int _)⟩
    · cases hz
  · split at hz
    · rename_i x k hl
      cases hz; cases rd with | str _ hx => ?_
      cases re
      obtain ⟨t, rfl⟩ := rx
      obtain ⟨t', rfl⟩ := ry
      have hs : sizeLine = 16777216 := sizeLine_eq
      have lr := repS_len x k.toNat
      have hle : k.toNat * x.length ≤ 1000 * 1000 := Nat.mul_le_mul (by omega) hl.2.2
      have fin : RelD (Wx X) H c (.str (repS x k.toNat)) (.str (repS x k.toNat)) := .str _ (by omega)
      refine PySem.P.mul_str (by rw [decide_eq_false (by omega), decide_eq_false (by omega)]; rfl) (fun _ _ => ?_) (fun _ _ => ?_) ?_
      · have : (1000 : Int) ≤ (2 ^ 63 - 1) / k := by
          rw [Int.le_ediv_iff_mul_le (by omega)]
          omega
        omega
      · have hc : x.length * k.toNat ≤ 1000000 := by rw [Nat.mul_comm]; omega
        unfold Builtin.Str.tooLong
        simp only [decide_eq_false_iff_not]
        omega
      · rw [if_neg (by omega)]
        split
        · rename_i hc
          have h0 : x.length = 0 := by
            rw [Bool.or_eq_true] at hc
            rcases hc with hc | hc
            · exact absurd (eq_of_beq hc) (by omega)
            · exact eq_of_beq hc
          rw [repS_nil x _ h0] at here fin
          exact ⟨.str x, H, I, ⟨t, rfl⟩, here _ fin⟩
        · exact ⟨by show (repS x k.toNat).length ≤ sizeLine; omega, ⟨.str _, H, I.tok _, ⟨_, rfl⟩, here _ fin⟩⟩
    · cases hz
  · rename_i xs k
    split at hz
    · rename_i he
      obtain ⟨he, hk⟩ := he
      subst he
      cases hz
      obtain ⟨a, vs, rfl, hq, rs⟩ := tup_ok rd
      cases rs
      cases re
      cases rx
      obtain ⟨t', rfl⟩ := ry
      exact mul_tup0 I hq (by omega) (by omega) (here _ rd)
    · split at hz
      · rename_i _ hl
        obtain ⟨hne, hl⟩ := hl
        cases hz
        obtain ⟨a, vs, rfl, hq, rs⟩ := tup_ok rd
        cases re
        have hlen := rs.length
        refine op_repT pins s σ H _ _ v u Q I rx ry ⟨a, k, vs, rfl, rfl, hq, ?_, hl.1, hl.2.1, by omega, fun p hp => q _ (Ext.fresh g hp) (g.fresh hp) _ (ft_new g hp (rs.rep _))⟩
        intro z
        subst z
        cases rs
        exact hne rfl
      · cases hz
  · split at hz
    · rename_i xs z1
      split at hz
      · rename_i hl
        cases hz
        obtain ⟨a, vs, rfl, ha, r1⟩ := asL_ok g rd z1
        cases re
        have hlen := r1.length
        have hs : sizeLine = 16777216 := sizeLine_eq
        refine op_rep pins s σ H _ _ v u Q I rx ry ⟨a, _, vs, rfl, rfl, ha, by omega, by omega, ?_, fun p hp => q _ (Ext.fresh g hp) (g.fresh hp) _ (fz_new g hp (r1.rep _))⟩
        exact Nat.le_trans (Nat.mul_le_mul (show vs.length ≤ 1000 by omega) (show _ ≤ 1000 by omega)) (by omega)
      · cases hz
    · cases hz
  · cases hz
end
end Mi
end
section
set_option maxRecDepth 100000
set_option maxHeartbeats 1000000
namespace Mi
open PySem L2 PyProof.Rows
section
variable {X : Cx} {E : L2.St → XK}
def opDiv : Op2 := fun _ d e => match d, e with
  | .int i, .int j => if 0 < j ∧ j < 1073741824 then some (.int (i / j)) else none
  | _, _ => none
theorem op_div_M : OpM X (binaryOp .FloorDiv) opDiv := by
  intro pins s σ H x y v u Q I rx ry h
  obtain ⟨c, d, e, z, g, rd, re, hz, q⟩ := h
  have here := q H (Ext.refl c H) g
  unfold opDiv at hz
  split at hz
  · split at hz
    · rename_i hl
      cases hz; cases rd; cases re
      exact op_fdiv pins s σ H _ _ v u Q I rx ry ⟨_, _, rfl, rfl, hl, here _ (.int _)⟩
    · cases hz
  · cases hz
def opMod : Op2 := fun _ d e => match d, e with
  | .int i, .int j => if 0 < j then some (.int (i % j)) else none
  | _, _ => none
theorem op_mod_M : OpM X (binaryOp .Mod) opMod := by
  intro pins s σ H x y v u Q I rx ry h
  obtain ⟨c, d, e, z, g, rd, re, hz, q⟩ := h
  have here := q H (Ext.refl c H) g
  unfold opMod at hz
  split at hz
  · split at hz
    · rename_i hl
      cases hz; cases rd; cases re
      exact op_mod pins s σ H _ _ v u Q I rx ry ⟨_, _, rfl, rfl, hl, here _ (.int _)⟩
    · cases hz
  · cases hz
def opPow : Op2 := fun _ d e => match d, e with
  | .int i, .int j => if 0 ≤ j ∧ (Builtin.Int.intBits i : Int) * j ≤ 2 ^ 27 then some (.int (i ^ j.toNat)) else none
  | _, _ => none
theorem op_pow_M : OpM X (binaryOp .Pow) opPow := by
  intro pins s σ H x y v u Q I rx ry h
  obtain ⟨c, d, e, z, g, rd, re, hz, q⟩ := h
  have here := q H (Ext.refl c H) g
  unfold opPow at hz
  split at hz
  · split at hz
    · rename_i hl
      cases hz; cases rd; cases re
      obtain ⟨t, rfl⟩ := rx
      obtain ⟨t', rfl⟩ := ry
      exact pow_int hl.1 hl.2 ⟨.int _, H, I.tok _, ⟨_, rfl⟩, here _ (.int _)⟩
    · cases hz
  · cases hz
/-- comparisons of whole numbers, of texts -/
def cmpI (p : Int → Int → Bool) (pt : List Nat → List Nat → Bool) : Op2 := fun _ d e => match d, e with
  | .int i, .int j => some (.bl (p i j))
  | .str x, .str y => some (.bl (pt x.cps.toList y.cps.toList))
  | _, _ => none
abbrev opLt : Op2 := cmpI (fun i j => decide (i < j)) (fun a b => decide (a < b))
abbrev opLe : Op2 := cmpI (fun i j => decide (i ≤ j)) (fun a b => !decide (b < a))
abbrev opGt : Op2 := cmpI (fun i j => decide (j < i)) (fun a b => decide (b < a))
abbrev opGe : Op2 := cmpI (fun i j => decide (j ≤ i)) (fun a b => !decide (a < b))
theorem cmp_M {f : Value → Value → Sem Value} {p : Int → Int → Bool} {pt : List Nat → List Nat → Bool} (h1 : OpR X f (rI0 fun i j => .bl (p i j))) (h2 : OpR X f (fun x y H Q => ∃ i j, x = .str i ∧ y = .str j ∧ Q (.bl (pt i.cps.toList j.cps.toList)) H)) : OpM X f (cmpI p pt) := by
  intro pins s σ H x y v u Q I rx ry h
  obtain ⟨c, d, e, z, g, rd, re, hz, q⟩ := h
  have here := q H (Ext.refl c H) g
  unfold cmpI at hz
  split at hz
  · cases hz; cases rd; cases re
    exact h1 pins s σ H _ _ v u Q I rx ry ⟨_, _, rfl, rfl, here _ (.bl _)⟩
  · cases hz; cases rd; cases re
    exact h2 pins s σ H _ _ v u Q I rx ry ⟨_, _, rfl, rfl, here _ (.bl _)⟩
  · cases hz
theorem op_lt_M : OpM X (compareOp .Lt) opLt := cmp_M op_lt op_lt_str
theorem op_le_M : OpM X (compareOp .LtE) opLe := cmp_M op_le op_le_str
theorem op_gt_M : OpM X (compareOp .Gt) opGt := cmp_M op_gt op_gt_str
theorem op_ge_M : OpM X (compareOp .GtE) opGe := cmp_M op_ge op_ge_str
/-- == of data; of two texts, whatever their signs -/
def eqS : D → D → Option Bool
  | .str x, .str y => some (x == y)
  | _, _ => none
def opEq : Op2 := fun s d e => match pyA s d, pyA s e with
  | some x, some y => if SeqAt.shaped x = true ∧ SeqAt.shaped y = true then some (.bl (PyData.eqv x y)) else (eqS d e).map .bl
  | _, _ => none
def opNe : Op2 := fun s d e => match pyA s d, pyA s e with
  | some x, some y => if SeqAt.shaped x = true ∧ SeqAt.shaped y = true then some (.bl (!PyData.eqv x y)) else (eqS d e).map fun b => .bl (!b)
  | _, _ => none
theorem eq_strs {s : Sto} {x y : Str} : opEq s (.str x) (.str y) = some (.bl (x == y)) := by
  simp only [opEq, pyA, asL, pyD, eqS, PyData.eqv, Option.map_some, ite_self]
theorem ne_strs {s : Sto} {x y : Str} : opNe s (.str x) (.str y) = some (.bl (!(x == y))) := by
  simp only [opNe, pyA, asL, pyD, eqS, PyData.eqv, Option.map_some, ite_self]
theorem eqS_some {d e : D} {b : Bool} (h : eqS d e = some b) : ∃ x y, d = .str x ∧ e = .str y ∧ b = (x == y) := by
  unfold eqS at h
  split at h
  · exact ⟨_, _, rfl, rfl, (Option.some.inj h).symm⟩
  · cases h
theorem op_eq_M (hu : X.A.units + 64 < cLine) : OpM X (compareOp .Eq) opEq := by
  intro pins s σ H x y v u Q I rx ry h
  obtain ⟨c, d, e, z, g, rd, re, hz, q⟩ := h
  have here := q H (Ext.refl c H) g
  unfold opEq at hz
  split at hz
  · rename_i a b za zb
    split at hz
    · rename_i hs
      cases hz
      exact op_eqD hu pins s σ H _ _ v u Q I rx ry ⟨a, b, pyA_ok g rd za, pyA_ok g re zb, hs.1, hs.2, here _ (.bl _)⟩
    · obtain ⟨b, e1, e2⟩ := Option.map_eq_some_iff.mp hz
      obtain ⟨x, y, rfl, rfl, rfl⟩ := eqS_some e1
      subst e2
      cases rd; cases re
      exact op_eq pins s σ H _ _ v u Q I rx ry ⟨rfl, by rw [dec_str]; exact here _ (.bl _)⟩
  · cases hz
theorem op_ne_M (hu : X.A.units + 64 < cLine) : OpM X (compareOp .NotEq) opNe := by
  intro pins s σ H x y v u Q I rx ry h
  obtain ⟨c, d, e, z, g, rd, re, hz, q⟩ := h
  have here := q H (Ext.refl c H) g
  unfold opNe at hz
  split at hz
  · rename_i a b za zb
    split at hz
    · rename_i hs
      cases hz
      exact op_neD hu pins s σ H _ _ v u Q I rx ry ⟨a, b, pyA_ok g rd za, pyA_ok g re zb, hs.1, hs.2, here _ (.bl _)⟩
    · obtain ⟨b, e1, e2⟩ := Option.map_eq_some_iff.mp hz
      obtain ⟨x, y, rfl, rfl, rfl⟩ := eqS_some e1
      subst e2
      cases rd; cases re
      exact op_ne pins s σ H _ _ v u Q I rx ry ⟨rfl, by rw [dec_str]; exact here _ (.bl _)⟩
  · cases hz
/-- is None -/
def isNonD : D → Bool
  | .non => true
  | _ => false
theorem isNonD_ok {w : Wd} {H : Hp} {c : Ct} {d : D} {v : V} (r : RelD w H c d v) : decide (v = .non) = isNonD d := by
  cases r <;> simp [isNonD]
def opIs : Op2 := fun _ d e => match e with
  | .non => some (.bl (isNonD d))
  | _ => none
def opIsNot : Op2 := fun _ d e => match e with
  | .non => some (.bl (!isNonD d))
  | _ => none
theorem op_is_M : OpM X (compareOp .Is) opIs := by
  intro pins s σ H x y v u Q I rx ry h
  obtain ⟨c, d, e, z, g, rd, re, hz, q⟩ := h
  have here := q H (Ext.refl c H) g
  unfold opIs at hz
  split at hz
  · cases hz; cases re
    exact op_isN pins s σ H _ _ v u Q I rx ry ⟨rfl, by rw [isNonD_ok rd]; exact here _ (.bl _)⟩
  · cases hz
theorem op_isnot_M : OpM X (compareOp .IsNot) opIsNot := by
  intro pins s σ H x y v u Q I rx ry h
  obtain ⟨c, d, e, z, g, rd, re, hz, q⟩ := h
  have here := q H (Ext.refl c H) g
  unfold opIsNot at hz
  split at hz
  · cases hz; cases re
    exact op_notN pins s σ H _ _ v u Q I rx ry ⟨rfl, by rw [isNonD_ok rd]; exact here _ (.bl _)⟩
  · cases hz
/-- in: one sign in a text; data in a list -/
def inB (s : Sto) (d e : D) : Option Bool := match d, e with
  | .str x, .str y => match x.cps.toList with
    | [k] => some (decide (k ∈ y.cps.toList))
    | _ => some (!(Builtin.Str.occurrences y x 0 y.length 1).isEmpty)
  | d, e => match asL s e with
    | some xs => match pyDs xs, pyD d with
      | some ds, some y => if SeqAt.shaped y = true ∧ SeqAt.shaped (.list ds) = true then some (ds.any fun z => PyData.eqv z y) else none
      | _, _ => none
    | none => none
def opIn : Op2 := fun s d e => (inB s d e).map .bl
def opNotIn : Op2 := fun s d e => (inB s d e).map fun b => .bl (!b)
theorem one_sign {x : Str} {k : Nat} (h : x.cps.toList = [k]) : x = ⟨#[k]⟩ := by
  obtain ⟨a⟩ := x
  congr 1
  apply Array.ext'
  simpa using h
theorem op_in_M (hu : X.A.units + 65 < cLine) : OpM X (compareOp .In) opIn := by
  intro pins s σ H x y v u Q I rx ry h
  obtain ⟨c, d, e, z, g, rd, re, hz, q⟩ := h
  have here := q H (Ext.refl c H) g
  unfold opIn at hz
  cases hb : inB c.S d e with
  | none => rw [hb] at hz; cases hz
  | some b =>
    rw [hb] at hz
    cases hz
    have fin := here _ (.bl b)
    unfold inB at hb
    split at hb
    · cases rd; cases re
      split at hb
      · rename_i x y k hk
        cases hb
        have e := one_sign hk
        subst e
        exact op_in_sign pins s σ H _ _ v u Q I rx ry ⟨k, _, rfl, rfl, fin⟩
      · cases hb
        exact op_in_str pins s σ H _ _ v u Q I rx ry ⟨_, _, rfl, rfl, fin⟩
    · split at hb
      · rename_i xs zx
        split at hb
        · rename_i ds yd zd zy
          split at hb
          · rename_i hs
            cases hb
            obtain ⟨a, vs, rfl, ha, r1⟩ := asL_sq g re zx
            exact op_inD hu pins s σ H _ _ v u Q I rx ry ⟨yd, ds, pyD_ok rd zy, .lst ha (pyDs_ok r1 zd), hs.1, hs.2, fin⟩
          · cases hb
        · cases hb
      · cases hb
theorem op_notIn_M (hu : X.A.units + 65 < cLine) : OpM X (compareOp .NotIn) opNotIn := by
  intro pins s σ H x y v u Q I rx ry h
  obtain ⟨c, d, e, z, g, rd, re, hz, q⟩ := h
  have here := q H (Ext.refl c H) g
  unfold opNotIn at hz
  cases hb : inB c.S d e with
  | none => rw [hb] at hz; cases hz
  | some b =>
    rw [hb] at hz
    cases hz
    have fin := here _ (.bl (!b))
    unfold inB at hb
    split at hb
    · cases rd; cases re
      split at hb
      · rename_i x y k hk
        cases hb
        have e := one_sign hk
        subst e
        exact op_notIn_sign pins s σ H _ _ v u Q I rx ry ⟨k, _, rfl, rfl, fin⟩
      · cases hb
        exact op_notIn_str pins s σ H _ _ v u Q I rx ry ⟨_, _, rfl, rfl, fin⟩
    · split at hb
      · rename_i xs zx
        split at hb
        · rename_i ds yd zd zy
          split at hb
          · rename_i hs
            cases hb
            obtain ⟨a, vs, rfl, ha, r1⟩ := asL_sq g re zx
            exact op_notInD hu pins s σ H _ _ v u Q I rx ry ⟨yd, ds, pyD_ok rd zy, .lst ha (pyDs_ok r1 zd), hs.1, hs.2, fin⟩
          · cases hb
        · cases hb
      · cases hb
/-- -x -/
def unNeg : Sto → D → Option D := fun _ d => match d with
  | .int i => some (.int (-i))
  | .bl b => some (.int (-(b2n b)))
  | _ => none
theorem gives_neg_bool (b : Bool) : Gives (Builtin.«int.__neg__» ⟨[.bool b], []⟩) (.int (-(b2n b))) := by
  cases b <;> exact .of_eq rfl
theorem un_neg_M : UnR X (unaryOp .USub) (rU1 (Wx X) unNeg) := by
  intro pins s σ H x v Q I rx h
  obtain ⟨c, d, z, g, rd, hz, q⟩ := h
  have here := q H (Ext.refl c H) g
  unfold unNeg at hz
  split at hz
  · cases hz; cases rd
    exact un_neg pins s σ H _ v Q I rx ⟨_, rfl, here _ (.int _)⟩
  · rename_i b
    cases hz; cases rd; cases rx
    exact unaryOp_gives (op := .USub) (T := "bool") rfl rfl PySem.F.slot_bool_neg PySem.F.entry_int_neg (PySem.F.args_int_neg_1 _) (gives_neg_bool b) ⟨.int _, H, I.tok _, ⟨_, rfl⟩, here _ (.int _)⟩
  · cases hz
end
end Mi
end
section
set_option maxRecDepth 100000
set_option maxHeartbeats 1000000
namespace Mi
open PySem L2 PyProof.Rows
theorem RelDs.map_int {w : Wd} {H : Hp} {c : Ct} {ns : List Int} {vs : List V} (h : RelDs w H c (ns.map .int) vs) : vs = ns.map V.int := by
  induction ns generalizing vs with
  | nil => cases h; rfl
  | cons n ns ih => cases h with | cons r t => cases r; rw [ih t]; rfl
theorem RelDs.map_bl {w : Wd} {H : Hp} {c : Ct} {ns : List Bool} {vs : List V} (h : RelDs w H c (ns.map .bl) vs) : vs = ns.map V.bl := by
  induction ns generalizing vs with
  | nil => cases h; rfl
  | cons n ns ih => cases h with | cons r t => cases r; rw [ih t]; rfl
theorem RelDs.map_str {w : Wd} {H : Hp} {c : Ct} {ns : List Str} {vs : List V} (h : RelDs w H c (ns.map .str) vs) : vs = ns.map V.str := by
  induction ns generalizing vs with
  | nil => cases h; rfl
  | cons n ns ih => cases h with | cons r t => cases r; rw [ih t]; rfl
def allBl : List D → Option (List Bool)
  | [] => some []
  | .bl b :: r => (allBl r).map (b :: ·)
  | _ :: _ => none
def allInt : List D → Option (List Int)
  | [] => some []
  | .int b :: r => (allInt r).map (b :: ·)
  | _ :: _ => none
def allStr : List D → Option (List Str)
  | [] => some []
  | .str b :: r => (allStr r).map (b :: ·)
  | _ :: _ => none
theorem allBl_eq : ∀ {xs : List D} {bs : List Bool}, allBl xs = some bs → xs = bs.map .bl
  | [], bs, h => by cases h; rfl
  | d :: r, bs, h => by
    cases d with
    | bl b =>
      simp only [allBl] at h
      cases z : allBl r with
      | none => rw [z] at h; cases h
      | some cs => rw [z] at h; cases h; rw [allBl_eq z]; rfl
    | _ => simp [allBl] at h
theorem allInt_eq : ∀ {xs : List D} {bs : List Int}, allInt xs = some bs → xs = bs.map .int
  | [], bs, h => by cases h; rfl
  | d :: r, bs, h => by
    cases d with
    | int b =>
      simp only [allInt] at h
      cases z : allInt r with
      | none => rw [z] at h; cases h
      | some cs => rw [z] at h; cases h; rw [allInt_eq z]; rfl
    | _ => simp [allInt] at h
theorem allStr_eq : ∀ {xs : List D} {bs : List Str}, allStr xs = some bs → xs = bs.map .str
  | [], bs, h => by cases h; rfl
  | d :: r, bs, h => by
    cases d with
    | str b =>
      simp only [allStr] at h
      cases z : allStr r with
      | none => rw [z] at h; cases h
      | some cs => rw [z] at h; cases h; rw [allStr_eq z]; rfl
    | _ => simp [allStr] at h
theorem allBl_map (bs : List Bool) : allBl (bs.map .bl) = some bs := by
  induction bs with
  | nil => rfl
  | cons b r ih => simp [allBl, ih]
theorem allInt_map (bs : List Int) : allInt (bs.map .int) = some bs := by
  induction bs with
  | nil => rfl
  | cons b r ih => simp [allInt, ih]
theorem allStr_map (bs : List Str) : allStr (bs.map .str) = some bs := by
  induction bs with
  | nil => rfl
  | cons b r ih => simp [allStr, ih]
section
variable {X : Cx} {E : L2.St → XK} {pos : Pos} {a b : Expr} {fa fb fv : ET}
/-! ### len -/
def cbLen : Cb := fun s ds => match ds with
  | [.str x] => some (.int x.length)
  | [.tup xs] => some (.int xs.length)
  | [.scr ns] => some (.int ns.length)
  | [d] => (asL s d).map fun xs => .int xs.length
  | _ => none
theorem cb_len : CbM X (.builtin "len") cbLen := by
  intro pins s σ H xs us Q I r h
  obtain ⟨c, ds, z, g, rd, hz, q⟩ := h
  have here := q H (Ext.refl c H) g
  unfold cbLen at hz
  split at hz
  · cases hz
    cases rd with | cons r1 rn => cases rn; cases r1 with | str x hx => exact call_len pins s σ H _ us Q I r ⟨_, _, rfl, ⟨hx, rfl⟩, here _ (.int _)⟩
  · cases hz
    cases rd with
    | cons r1 rn =>
      cases rn
      obtain ⟨a, vs, rfl, hq, rs⟩ := tup_ok r1
      exact call_len pins s σ H _ us Q I r ⟨_, _, rfl, .inr ⟨vs, hq, rs.length⟩, here _ (.int _)⟩
  · cases hz
    cases rd with
    | cons r1 rn =>
      cases rn
      cases r1 with
      | scr hq => exact call_len pins s σ H _ us Q I r ⟨_, _, rfl, .inl ⟨_, hq.sq, by simp⟩, here _ (.int _)⟩
  · rename_i d _ _ _
    cases rd with
    | cons r1 rn =>
      cases rn
      cases z1 : asL c.S d with
      | none => rw [z1] at hz; cases hz
      | some ys =>
        rw [z1] at hz
        cases hz
        obtain ⟨a, vs, rfl, hq, rs⟩ := asL_sq g r1 z1
        exact call_len pins s σ H _ us Q I r ⟨_, _, rfl, .inl ⟨vs, hq, rs.length⟩, here _ (.int _)⟩
  · cases hz
/-! ### all, any -/
def cbAll : Cb := fun s ds => match ds with
  | [d] => ((asL s d).bind allBl).map fun bs => .bl (bs.all id)
  | _ => none
def cbAny : Cb := fun s ds => match ds with
  | [d] => ((asL s d).bind allBl).map fun bs => .bl (bs.any id)
  | _ => none
theorem cb_all (hc : X.calm = true) : CbM X (.builtin "all") cbAll := by
  intro pins s σ H xs us Q I r h
  obtain ⟨c, ds, z, g, rd, hz, q⟩ := h
  have here := q H (Ext.refl c H) g
  unfold cbAll at hz
  split at hz
  · rename_i d
    cases rd with
    | cons r1 rn =>
      cases rn
      cases z1 : asL c.S d with
      | none => rw [z1] at hz; cases hz
      | some ys =>
        rw [z1] at hz
        cases z2 : allBl ys with
        | none => simp [z2] at hz
        | some bs =>
          simp only [Option.bind_some, z2, Option.map_some, Option.some.injEq] at hz
          subst hz
          have e := allBl_eq z2
          subst e
          obtain ⟨a, vs, rfl, hq, rs⟩ := asL_sq g r1 z1
          have e := rs.map_bl
          subst e
          exact cr_all hc pins s σ H _ us Q I r ⟨a, bs, rfl, hq, here _ (.bl _)⟩
  · cases hz
theorem cb_any (hc : X.calm = true) : CbM X (.builtin "any") cbAny := by
  intro pins s σ H xs us Q I r h
  obtain ⟨c, ds, z, g, rd, hz, q⟩ := h
  have here := q H (Ext.refl c H) g
  unfold cbAny at hz
  split at hz
  · rename_i d
    cases rd with
    | cons r1 rn =>
      cases rn
      cases z1 : asL c.S d with
      | none => rw [z1] at hz; cases hz
      | some ys =>
        rw [z1] at hz
        cases z2 : allBl ys with
        | none => simp [z2] at hz
        | some bs =>
          simp only [Option.bind_some, z2, Option.map_some, Option.some.injEq] at hz
          subst hz
          have e := allBl_eq z2
          subst e
          obtain ⟨a, vs, rfl, hq, rs⟩ := asL_sq g r1 z1
          have e := rs.map_bl
          subst e
          exact cr_any hc pins s σ H _ us Q I r ⟨a, bs, rfl, hq, here _ (.bl _)⟩
  · cases hz
/-! ### abs, max, min, int, str, repr -/
def cbAbs : Cb := fun _ ds => match ds with
  | [.int i] => some (.int (if i < 0 then -i else i))
  | _ => none
theorem cb_abs : CbM X (.builtin "abs") cbAbs := by
  intro pins s σ H xs us Q I r h
  obtain ⟨c, ds, z, g, rd, hz, q⟩ := h
  have here := q H (Ext.refl c H) g
  unfold cbAbs at hz
  split at hz
  · cases hz
    cases rd with | cons r1 rn => cases rn; cases r1; exact call_abs pins s σ H _ us Q I r ⟨_, rfl, here _ (.int _)⟩
  · cases hz
def maxI : List Int → Int
  | [] => 0
  | [x] => x
  | x :: r => if maxI r ≤ x then x else maxI r
theorem maxI_max : ∀ (l : List Int), l ≠ [] → maxI l ∈ l ∧ ∀ y ∈ l, y ≤ maxI l
  | [], h => absurd rfl h
  | [x], _ => by simp [maxI]
  | x :: y :: r, _ => by
    obtain ⟨h1, h2⟩ := maxI_max (y :: r) (by simp)
    rw [maxI]
    split
    · rename_i hx
      refine ⟨by simp, fun z hz => ?_⟩
      rcases List.mem_cons.mp hz with rfl | hz
      · exact Int.le_refl _
      · exact Int.le_trans (h2 z hz) hx
    · rename_i hx
      refine ⟨List.mem_cons_of_mem _ h1, fun z hz => ?_⟩
      rcases List.mem_cons.mp hz with rfl | hz
      · omega
      · exact h2 z hz
    all_goals simp
def cbMax : Cb := fun s ds => match ds with
  | [.int i, .int j] => some (.int (if j > i then j else i))
  | [d] => match (asL s d).bind allInt with
    | some (n :: ns) => some (.int (maxI (n :: ns)))
    | _ => none
  | _ => none
theorem cb_max (hc : X.calm = true) : CbM X (.builtin "max") cbMax := by
  intro pins s σ H xs us Q I r h
  obtain ⟨c, ds, z, g, rd, hz, q⟩ := h
  have here := q H (Ext.refl c H) g
  unfold cbMax at hz
  split at hz
  · cases hz
    cases rd with
    | cons r1 rn => cases r1; cases rn with | cons r2 rn => cases r2; cases rn; exact call_max2 hc pins s σ H _ us Q I r ⟨_, _, rfl, here _ (.int _)⟩
  · rename_i d
    cases rd with
    | cons r1 rn =>
      cases rn
      split at hz
      · rename_i n ns zz
        cases hz
        cases z1 : asL c.S d with
        | none => rw [z1] at zz; cases zz
        | some ys =>
          rw [z1] at zz
          have e := allInt_eq (show allInt ys = some (n :: ns) from zz)
          subst e
          obtain ⟨a, vs, rfl, hq, rs⟩ := asL_sq g r1 z1
          have e := rs.map_int
          subst e
          refine cr_max hc pins s σ H _ us Q I r ⟨a, n :: ns, rfl, hq, by simp, fun m hm hle => ?_⟩
          obtain ⟨h1, h2⟩ := maxI_max (n :: ns) (by simp)
          have : m = maxI (n :: ns) := Int.le_antisymm (h2 m hm) (hle _ h1)
          subst this
          exact here _ (.int _)
      · cases hz
  · cases hz
def cbMin : Cb := fun _ ds => match ds with
  | [.int i, .int j] => some (.int (if j < i then j else i))
  | _ => none
theorem cb_min (hc : X.calm = true) : CbM X (.builtin "min") cbMin := by
  intro pins s σ H xs us Q I r h
  obtain ⟨c, ds, z, g, rd, hz, q⟩ := h
  have here := q H (Ext.refl c H) g
  unfold cbMin at hz
  split at hz
  · cases hz
    cases rd with
    | cons r1 rn => cases r1; cases rn with | cons r2 rn => cases r2; cases rn; exact call_min2 hc pins s σ H _ us Q I r ⟨_, _, rfl, here _ (.int _)⟩
  · cases hz
def cbInt : Cb := fun _ ds => match ds with
  | [.int i] => some (.int i)
  | [.bl k] => some (.int (if k then 1 else 0))
  | _ => none
theorem cb_int : CbM X (.type "int") cbInt := by
  intro pins s σ H xs us Q I r h
  obtain ⟨c, ds, z, g, rd, hz, q⟩ := h
  have here := q H (Ext.refl c H) g
  unfold cbInt at hz
  split at hz
  · cases hz
    cases rd with | cons r1 rn => cases rn; cases r1; exact call_int1 pins s σ H _ us Q I r (.inl ⟨_, rfl, here _ (.int _)⟩)
  · cases hz
    cases rd with | cons r1 rn => cases rn; cases r1; exact call_int1 pins s σ H _ us Q I r (.inr ⟨_, rfl, here _ (.int _)⟩)
  · cases hz
def boolStr (b : Bool) : Str := if b then "True" else "False"
def cbStr : Cb := fun _ ds => match ds with
  | [.int i] => if i.natAbs.log2 < 1920 ∧ (toString i : Str).length ≤ sizeLine then some (.str (toString i)) else none
  | [.bl k] => some (.str (boolStr k))
  | _ => none
theorem boolStr_len (k : Bool) : (boolStr k).length ≤ sizeLine := by cases k <;> decide
theorem cb_str : CbM X (.type "str") cbStr := by
  intro pins s σ H xs us Q I r h
  obtain ⟨c, ds, z, g, rd, hz, q⟩ := h
  have here := q H (Ext.refl c H) g
  unfold cbStr at hz
  split at hz
  · split at hz
    · rename_i hl
      cases hz
      cases rd with | cons r1 rn => cases rn; cases r1; exact call_str_int pins s σ H _ us Q I r ⟨_, rfl, hl.1, here _ (.str _ hl.2)⟩
    · cases hz
  · cases hz
    cases rd with
    | cons r1 rn =>
      cases rn; cases r1
      obtain ⟨u, rfl, rv⟩ := Vals.one r
      cases rv
      exact PySem.P.str_of_bool ⟨.str _, H, I.tok _, ⟨_, rfl⟩, here _ (.str _ (boolStr_len _))⟩
  · cases hz
def cbRepr : Cb := fun _ ds => match ds with
  | [.bl k] => some (.str (boolStr k))
  | _ => none
theorem cb_repr : CbM X (.builtin "repr") cbRepr := by
  intro pins s σ H xs us Q I r h
  obtain ⟨c, ds, z, g, rd, hz, q⟩ := h
  have here := q H (Ext.refl c H) g
  unfold cbRepr at hz
  split at hz
  · cases hz
    cases rd with
    | cons r1 rn =>
      cases rn; cases r1
      obtain ⟨u, rfl, rv⟩ := Vals.one r
      cases rv
      exact PySem.P.repr_of_bool ⟨.str _, H, I.tok _, ⟨_, rfl⟩, here _ (.str _ (boolStr_len _))⟩
  · cases hz
/-! ### tuple, list -/
def cbTuple : Cb := fun s ds => match ds with
  | [.tup xs] => some (.tup xs)
  | [d] => (asL s d).map .tup
  | _ => none
theorem cb_tuple : CbM X (.type "tuple") cbTuple := by
  intro pins s σ H xs us Q I r h
  obtain ⟨c, ds, z, g, rd, hz, q⟩ := h
  have here := q H (Ext.refl c H) g
  unfold cbTuple at hz
  split at hz
  · cases hz
    cases rd with
    | cons r1 rn =>
      cases rn
      obtain ⟨a, vs, rfl, hq, rs⟩ := tup_ok r1
      exact call_tuple_of pins s σ H _ us Q I r ⟨a, vs, rfl, .inr ⟨hq, here _ r1⟩⟩
  · rename_i d _
    cases rd with
    | cons r1 rn =>
      cases rn
      cases z1 : asL c.S d with
      | none => rw [z1] at hz; cases hz
      | some ys =>
        rw [z1] at hz
        cases hz
        obtain ⟨a, vs, rfl, hq, rs⟩ := asL_sq g r1 z1
        exact call_tuple_of pins s σ H _ us Q I r ⟨a, vs, rfl, .inl ⟨hq, fun p hp => q _ (Ext.fresh g hp) (g.fresh hp) _ (ft_new g hp rs)⟩⟩
  · cases hz
def cbList : Cb := fun s ds => match ds with
  | [.tup xs] => some (.lst xs)
  | [d] => (asL s d).map .lst
  | _ => none
theorem cb_list : CbM X (.type "list") cbList := by
  intro pins s σ H xs us Q I r h
  obtain ⟨c, ds, z, g, rd, hz, q⟩ := h
  have here := q H (Ext.refl c H) g
  unfold cbList at hz
  split at hz
  · cases hz
    cases rd with
    | cons r1 rn =>
      cases rn
      obtain ⟨a, vs, rfl, hq, rs⟩ := tup_ok r1
      exact call_list_of pins s σ H _ us Q I r ⟨a, vs, rfl, .inr hq, fun p hp => q _ (Ext.fresh g hp) (g.fresh hp) _ (fz_new g hp rs)⟩
  · rename_i d _
    cases rd with
    | cons r1 rn =>
      cases rn
      cases z1 : asL c.S d with
      | none => rw [z1] at hz; cases hz
      | some ys =>
        rw [z1] at hz
        cases hz
        obtain ⟨a, vs, rfl, hq, rs⟩ := asL_sq g r1 z1
        exact call_list_of pins s σ H _ us Q I r ⟨a, vs, rfl, .inl hq, fun p hp => q _ (Ext.fresh g hp) (g.fresh hp) _ (fz_new g hp rs)⟩
  · cases hz
/-! ### isinstance of a built-in class -/
def tyName (s : Sto) : D → Option String
  | .non => some "NoneType"
  | .bl _ => some "bool"
  | .int _ => some "int"
  | .str _ => some "str"
  | .tup _ => some "tuple"
  | .lst _ => some "list"
  | .dic _ => some "dict"
  | .ref n => match s[n]? with
    | some (.lst _ _) => some "list"
    | some (.dic _ _) => some "dict"
    | _ => none
  | _ => none
theorem tyX_rd {K : PySem.W.Frag} {H : Hp} {a : Addr} {kvs : List (Key × V)} (h : Rd H a (.dK kvs)) : TyX K H (.ref a) (.type "dict") := by
  rcases h with h | ⟨o, h⟩
  · exact .base (.dK h)
  · exact .fDict h
theorem tyName_ok {w : Wd} {H : Hp} {c : Ct} {d : D} {v : V} {n : String} (g : Good w H c) (r : RelD w H c d v) (h : tyName c.S d = some n) : TyX w.K H v (.type n) := by
  cases r with
  | non => cases h; exact .base .non
  | bl b => cases h; exact .base (.bl b)
  | int i => cases h; exact .base (.int i)
  | str x _ => cases h; exact .base (.str x)
  | tup hs _ =>
    cases h
    rcases hs with ⟨hs | ⟨o, hs⟩, _⟩ | ⟨o, its, n, hk, hc, _⟩
    · exact .base (.tup hs)
    · exact .fTuple hs
    · exact .kTuple hk hc
  | lst hs _ => cases h; exact .base (.lst hs.1)
  | dic hs _ _ => cases h; exact tyX_rd hs
  | ins => simp [tyName] at h
  | scr => simp [tyName] at h
  | cls => simp [tyName] at h
  | @ref m a hn =>
    simp only [tyName] at h
    cases e : c.S[m]? with
    | none => rw [e] at h; cases h
    | some o =>
      rw [e] at h
      obtain ⟨ho, q, ro⟩ := g.obj m a o hn e
      cases ro with
      | lst rs => cases h; exact .base (.lst q)
      | dic rs h1 h2 =>
        cases h
        exact tyX_rd (rd_of_unf q h1 rfl)
      | ins => cases h
def isiD (T : String) (s : Sto) (d : D) : Option D := match tyName s d with
  | some n => (kitB n T).map .bl
  | none => none
theorem me_isi {T : String} {x y : Str} {p p2 : Pos} (hg : Gl X x) (hm : X.mg x = none) (hv : bootBuiltins x = some (.builtin "isinstance")) (hg2 : Gl X y) (hm2 : X.mg y = none) (hv2 : bootBuiltins y = some (.type T)) (ha : ME X E a fa)
    (hn : x ≠ "__name__" := by decide) (hdb : (x == ("__debug__" : Str)) = false := by decide) (hn2 : y ≠ "__name__" := by decide) (hdb2 : (y == ("__debug__" : Str)) = false := by decide)
    (he : starEach [a, .Name y p2] X.env = (false, eval a X.env) :: starEach [.Name y p2] X.env := by rfl) (he2 : starEach [.Name y p2] X.env = (false, eval (.Name y p2) X.env) :: starEach [] X.env := by rfl)
    (hpl : (backTo pos (starEach [.Name y p2] X.env)).any (·.1) = false := by rfl) : ME X E (.Call (.Name x p) [a, .Name y p2] [] pos) (mUn (isiD T) fa) := by
  refine PE.imp (pe_callB call_isi hg hm hv (pa_cons ha (pa_cons (pe_bltn (v := .ty T) hg2 hm2 hv2 rfl hn2 hdb2) pa_nil he2) he) hn hdb he hpl) fun st H Q ⟨c, env, g, re, q⟩ => ?_
  refine ⟨c, env, g, re, (Fin.bind q).mono fun d c1 H1 e1 g1 q1 v rv => ?_⟩
  show rIsi X.K [v, .ty T] H1 Q
  cases z : tyName c1.S d with
  | none => simp only [isiD, z] at q1; exact q1.elim
  | some n =>
    cases z2 : kitB n T with
    | none => simp only [isiD, z, z2] at q1; exact q1.elim
    | some b =>
      simp only [isiD, z, z2] at q1
      exact ⟨v, .ty T, .type n, .type T, b, rfl, .ty T, tyName_ok g1 rv z, kit_ty z2, q1.here g1 rfl _ (.bl b)⟩
/-! ### subscripts -/
def opIx : Op2 := fun s d e => match e with
  | .int i => match d with
    | .tup xs => atI xs i
    | .str x => (atI x.cps.toList i).map fun k => .str ⟨#[k]⟩
    | .scr ns => (atI ns i).map .int
    | d => (asL s d).bind fun xs => atI xs i
  | _ => none
theorem RelDs.at {w : Wd} {H : Hp} {c : Ct} {ds : List D} {vs : List V} {i : Int} {d : D} (h : RelDs w H c ds vs) (e : atI ds i = some d) : ∃ v, atI vs i = some v ∧ RelD w H c d v := by
  unfold atI at e ⊢
  rw [← h.length]
  cases z : ixN ds.length i with
  | none => rw [z] at e; cases e
  | some j => rw [z] at e; exact h.get e
theorem ix_M : IxR X (rO (Wx X) opIx) := by
  intro value slice pins s σ H x y v u Q I rx ry h hs
  obtain ⟨c, d, e, z, g, rd, re, hz, q⟩ := h
  have here := q H (Ext.refl c H) g
  unfold opIx at hz
  split at hz
  · cases re
    split at hz
    · obtain ⟨a, vs, rfl, hq, rs⟩ := tup_ok rd
      obtain ⟨v', hv, rv⟩ := rs.at hz
      exact ix_seq value slice pins s σ H _ _ v u Q I rx ry (.inr (.inl ⟨a, vs, _, v', rfl, rfl, hq, hv, here _ rv⟩)) hs
    · rename_i x
      cases rd with
      | str _ hx =>
        cases z1 : atI x.cps.toList _ with
        | none => rw [z1] at hz; cases hz
        | some k =>
          rw [z1] at hz
          cases hz
          exact ix_seq value slice pins s σ H _ _ v u Q I rx ry (.inr (.inr ⟨x, _, k, rfl, rfl, hx, z1, here _ (.str _ (show 1 ≤ sizeLine by decide))⟩)) hs
    · rename_i ns
      cases rd with
      | scr hq =>
        cases z1 : atI ns _ with
        | none => rw [z1] at hz; cases hz
        | some k =>
          rw [z1] at hz
          cases hz
          refine ix_seq value slice pins s σ H _ _ v u Q I rx ry (.inl ⟨_, _, _, .int k, rfl, rfl, hq.sq, ?_, here _ (.int _)⟩) hs
          unfold atI at z1 ⊢
          rw [List.length_map]
          cases z2 : ixN ns.length _ with
          | none => rw [z2] at z1; cases z1
          | some j =>
            rw [z2] at z1
            show (ns.map V.int)[j]? = some (.int k)
            rw [List.getElem?_map, show ns[j]? = some k from z1]; rfl
    · cases z1 : asL c.S d with
      | none => rw [z1] at hz; cases hz
      | some ys =>
        rw [z1] at hz
        obtain ⟨a, vs, rfl, hq, rs⟩ := asL_sq g rd z1
        obtain ⟨v', hv, rv⟩ := rs.at hz
        exact ix_seq value slice pins s σ H _ _ v u Q I rx ry (.inl ⟨a, vs, _, v', rfl, rfl, hq, hv, here _ rv⟩) hs
  · cases hz
/-! ### slices -/
def cutD (xs : List D) (lo hi : Option Int) : List D := (xs.drop (HT.sIx xs.length 0 lo)).take (HT.sIx xs.length xs.length hi - HT.sIx xs.length 0 lo)
def slD (s : Sto) (d : D) (lo hi : Option Int) : Option D := match d with
  | .tup xs => some (.tup (cutD xs lo hi))
  | .str x => some (.str (cutS x lo hi))
  | d => (asL s d).map fun xs => .lst (cutD xs lo hi)
theorem RelDs.cut {w : Wd} {H : Hp} {c : Ct} {ds : List D} {vs : List V} (h : RelDs w H c ds vs) (lo hi : Option Int) : RelDs w H c (cutD ds lo hi) (cutV vs lo hi) := by
  unfold cutD cutV
  rw [h.length]
  exact (h.drop _).take _
theorem cutS_le (x : Str) (lo hi : Option Int) : (cutS x lo hi).length ≤ x.length := cutS_length x lo hi
theorem sl_M : SlR X (rS1 (Wx X) slD) := by
  intro pins s σ H x v vl vu lo hi sl Q I rx hs pl pu h
  obtain ⟨c, d, z, g, rd, hz, q⟩ := h
  have here := q H (Ext.refl c H) g
  unfold slD at hz
  split at hz
  · cases hz
    obtain ⟨a, vs, rfl, hq, rs⟩ := tup_ok rd
    refine sl_tupA pins s σ H _ v vl vu lo hi sl Q I rx hs pl pu ⟨a, vs, rfl, hq, fun hw => ?_, fun _ p hp => q _ (Ext.fresh g hp) (g.fresh hp) _ (ft_new g hp (rs.cut lo hi))⟩
    refine here _ ?_
    rename_i xs
    have e : cutD xs lo hi = xs := by
      unfold cutD
      rw [rs.length, hw.1, hw.2, List.drop_zero, Nat.sub_zero, ← rs.length, List.take_length]
    rw [e]
    exact rd
  · cases hz
    cases rd with
    | str _ hx => exact sl_str pins s σ H _ v vl vu lo hi sl Q I rx hs pl pu ⟨_, rfl, hx, here _ (.str _ (Nat.le_trans (cutS_le _ lo hi) hx))⟩
  · cases z1 : asL c.S d with
    | none => rw [z1] at hz; cases hz
    | some ys =>
      rw [z1] at hz
      cases hz
      obtain ⟨a, vs, rfl, hq, rs⟩ := asL_sq g rd z1
      exact sl_list pins s σ H _ v vl vu lo hi sl Q I rx hs pl pu ⟨a, vs, rfl, hq, fun p hp => q _ (Ext.fresh g hp) (g.fresh hp) _ (fz_new g hp (rs.cut lo hi))⟩
/-! ### xs[i] = e -/
def sSetIx (fv fo fi : ET) : SM := fun env s => (fv env s).st env fun v s1 => (fo env s1).st env fun o s2 => (fi env s2).st env fun i s3 => match o, i with
  | .ref n, .int k => match s3[n]? with
    | some (.lst true xs) => match ixN xs.length k with
      | some j => .fl (.nx env) (s3.set n (.lst true (xs.set j v)))
      | none => .no
    | _ => .no
  | _, _ => .no
theorem ms_setIx {o i e : Expr} {fo fi : ET} {ipos : Pos} (he : ME X E e fv) (ho : ME X E o fo) (hi : ME X E i fi)
    (ha : ∀ v, assign (.Subscript o i ipos) X.env v = (do
      let ov ← holding [v] (eval o X.env)
      let iv ← holding [v, ov] (eval i X.env)
      standAt ipos
      holding [v, ov, iv] (setItem ov iv v)
      release [v, ov, iv] []) := by intro _; rfl)
    (hs : swapsWithSole [.Subscript o i ipos] e pos.line X.env = pure false := by rfl) (hw : swappedStores [.Subscript o i ipos] e X.env = pure none := by rfl)
    (h1 : (assignEach [.Subscript o i ipos] X.env).map (·.2) = [assign (.Subscript o i ipos) X.env] := by rfl) : MS X E (.Assign [.Subscript o i ipos] e pos) (sSetIx fv fo fi) :=
  PS.imp (ps_asg he (pg_sub ho hi set_list ha) hs hw h1) fun En st H ⟨c, env, g, re, q⟩ => by
    refine ⟨c, env, g, re, (FinS.of_st re q).mono fun d c1 H1 e1 g1 q1 v rv => ?_⟩
    refine ⟨c1, env, g1, re.ext e1, (FinS.of_st (re.ext e1) q1).mono fun d2 c2 H2 e2 g2 q2 v2 rv2 => ?_⟩
    refine ⟨c2, env, g2, (re.ext e1).ext e2, (FinS.of_st ((re.ext e1).ext e2) q2).mono fun d3 c3 H3 e3 g3 q3 v3 rv3 => ?_⟩
    split at q3
    · rename_i n k
      split at q3
      · rename_i xs zx
        split at q3
        · rename_i j zj
          cases rv3
          have r2 := rv2.ext e3
          cases r2 with
          | @ref _ a hn =>
            obtain ⟨ho, hq, ro⟩ := g3.obj n a _ hn zx
            cases ro with
            | @lst _ _ vs rs =>
              refine ⟨a, vs, k, j, rfl, rfl, hq, by rw [← rs.length]; exact zj, ?_⟩
              have ex : Ext c3 H3 (c3.put n (.lst true (xs.set j d))) (upd H3 a (.lst (vs.set j v))) := Ext.wrote g3 hn zx rfl
              exact q3 (c3.put n (.lst true (xs.set j d))) _ ex (g3.wrote hn zx rfl (.lst ((rs.set ((rv.ext e2).ext e3)).ext ex))) rfl st ((((re.ext e1).ext e2).ext e3).ext ex)
        · exact q3.elim
      · exact q3.elim
    · exact q3.elim
/-! ### texts' methods -/
def mbUpper : Mb := fun _ d ds => match d, ds with
  | .str x, [] => if x.length ≤ 5592405 ∧ (Txt.upper x).length ≤ sizeLine then some (.str (Txt.upper x)) else none
  | _, _ => none
theorem mb_upper : MbM X "str.upper" mbUpper := by
  intro pins s σ H x xs v us Q I rx rs h
  obtain ⟨c, d, ds, z, g, rd, rds, hz, q⟩ := h
  have here := q H (Ext.refl c H) g
  unfold mbUpper at hz
  split at hz
  · split at hz
    · rename_i hl
      cases hz; cases rd; cases rds
      exact mt_upper pins s σ H _ _ v us Q I rx rs ⟨_, rfl, rfl, hl.1, here _ (.str _ hl.2)⟩
    · cases hz
  · cases hz
def mbJoin : Mb := fun s d ds => match d, ds with
  | .str x, [e] => match (asL s e).bind allStr with
    | some ys => if (ys.map (·.length)).sum + ys.length * x.length ≤ 16777216 ∧ (Txt.join x ys).length ≤ sizeLine then some (.str (Txt.join x ys)) else none
    | none => none
  | _, _ => none
theorem mb_join : MbM X "str.join" mbJoin := by
  intro pins s σ H x xs v us Q I rx rs h
  obtain ⟨c, d, ds, z, g, rd, rds, hz, q⟩ := h
  have here := q H (Ext.refl c H) g
  unfold mbJoin at hz
  split at hz
  · rename_i x e
    split at hz
    · rename_i ys zz
      split at hz
      · rename_i hl
        cases hz; cases rd
        cases rds with
        | cons r1 rn =>
          cases rn
          cases z1 : asL c.S e with
          | none => rw [z1] at zz; cases zz
          | some zs =>
            rw [z1] at zz
            have e := allStr_eq (show allStr zs = some ys from zz)
            subst e
            obtain ⟨a, vs, rfl, hq, rs'⟩ := asL_sq g r1 z1
            have e := rs'.map_str
            subst e
            exact mt_join pins s σ H _ _ v us Q I rx rs ⟨x, a, ys, rfl, rfl, .inl hq, hl.1, here _ (.str _ hl.2)⟩
      · cases hz
    · cases hz
  · cases hz
end
end Mi
end
section
set_option maxRecDepth 100000
set_option maxHeartbeats 1000000
namespace Mi
open PySem L2 PyProof.Rows
theorem hu65 {k : Nat} {A : Around} (r : RoomG k A) : A.units + 65 < cLine := by have := r.un; omega
section
variable {P : Program} {w : World} {K : PySem.W.Frag} {mg : Str → Option Value} {base : Heap} {k : Nat} {f : Addr} {fd : FuncData} {ps : List Str}
theorem fn_none : FnG P w K mg base CX0 k f fd ps (spM ⟨K, mg⟩ (fun _ _ => .no)) :=
  ⟨fun vs H Q E ⟨c, ds, g, r, q⟩ => q.elim, fun A outer s H args us vs Q E _ _ _ _ ⟨c, ds, g, r, q⟩ => q.elim⟩
end
section
variable {X : Cx} {E : L2.St → XK} {pos : Pos}
/-- {} that stays as it is -/
def mDic0 : ET := fun _ s => .ok (.dic []) s
theorem me_dic0 : ME X E (.Dict [] [] pos) mDic0 := PE.imp pe_dnewK fun st H Q ⟨c, env, g, re, q⟩ p hp => q.new g rfl hp _ (.dic (vs := []) (.inl upd_same) (nlv_of g hp) .nil)
/-- a, b, c = x, y, z -/
def sPar3 (i j l : Nat) (fs : AT) : SM := fun env s => (fs env s).lt env fun ds s1 => match ds with
  | [d, e, f] => .fl (.nx (((env.set i (some d)).set j (some e)).set l (some f))) s1
  | _ => .no
theorem ms_par3 {i j l : Nat} {x y z : Str} {a b c' : Expr} {fs : AT} {px py pz pt : Pos} {kt k2 pt2} (hc : X.calm = true) (hN : X.N.Nodup) (hi : X.N[i]? = some x) (hj : X.N[j]? = some y) (hl : X.N[l]? = some z) (hij : i ≠ j) (hil : i ≠ l) (hjl : j ≠ l)
    (hx : X.env.scope.names.lookup x = some .local) (hy : X.env.scope.names.lookup y = some .local) (hz : X.env.scope.names.lookup z = some .local) (ha : MA X E [a, b, c'] fs)
    (hw : swappedStores [.Tuple [.Name x px, .Name y py, .Name z pz] kt pt] (.Tuple [a, b, c'] k2 pt2) X.env = pure (some [x, y, z]) := by rfl) :
    MS X E (.Assign [.Tuple [.Name x px, .Name y py, .Name z pz] kt pt] (.Tuple [a, b, c'] k2 pt2) pos) (sPar3 i j l fs) := PS.imp (ps_par3 hc hN hi hj hl hij hil hjl hx hy hz ha hw) fun En st H ⟨c, env, gd, re, q⟩ => by
  refine ⟨c, env, gd, re, (FinS.of_lt re q).mono fun ds c1 H1 e1 g1 q1 vs rvs => ?_⟩
  split at q1
  · cases rvs with
    | cons rd rn =>
      cases rn with
      | cons rd2 rn =>
        cases rn with
        | cons rd3 rn =>
          cases rn
          exact ⟨_, _, _, rfl, q1 c1 H1 (Ext.refl _ _) g1 rfl _ ((((re.ext e1).set rd).set rd2).set rd3)⟩
  · exact q1.elim
end
end Mi
end
section
set_option maxRecDepth 100000
set_option maxHeartbeats 1000000
namespace Mi
open PySem L2 PyProof.Rows
/-! ### repr of data -/
def keyP : Key → PyData
  | .inl i => .int i
  | .inr x => .str x
/-- scalars -/
def pyF : D → Option PyData
  | .non => some .none
  | .bl b => some (.bool b)
  | .int i => some (.int i)
  | .str x => some (.str x)
  | _ => none
def pyFk : List (Key × D) → Option (List (PyData × PyData))
  | [] => some []
  | kv :: r => match pyF kv.2, pyFk r with
    | some x, some xs => some ((keyP kv.1, x) :: xs)
    | _, _ => none
mutual
/-- data without lists; a dict holds scalars -/
def pyN : D → Option PyData
  | .non => some .none
  | .bl b => some (.bool b)
  | .int i => some (.int i)
  | .str x => some (.str x)
  | .tup xs => match pyNs xs with
    | some ds => some (.tuple ds)
    | none => none
  | .dic kvs => match pyFk kvs with
    | some ds => some (.dict ds)
    | none => none
  | _ => none
def pyNs : List D → Option (List PyData)
  | [] => some []
  | d :: r => match pyN d, pyNs r with
    | some x, some xs => some (x :: xs)
    | _, _ => none
end
section
variable {X : Cx} {pins : List (Addr × Obj)} {σ : L2.St} {H : Hp} {s : Shared} {c : Ct}
theorem flat_reads {d : D} {v : V} {u : Value} {x : PyData} (r : RelD (Wx X) H c d v) (e : pyF d = some x) (rv : RelV v u) : Reads s.heap u x [] := by
  cases d with
  | non => cases e; cases r; cases rv; exact .none
  | bl b => cases e; cases r; cases rv; exact .bool b
  | int i => cases e; cases r; obtain ⟨t, rfl⟩ := rv; exact .int i t
  | str y => cases e; cases r; obtain ⟨t, rfl⟩ := rv; exact .str y t
  | _ => cases e
theorem key_reads {k : Key} {u : Value} (h : (mixKind X.prog X.w).is k u = true) : Reads s.heap u (keyP k) [] := by
  obtain ⟨i, t, rfl, rfl⟩ | ⟨x, t, rfl, rfl⟩ := keyIs_shape (k := k) (v := u) h
  · exact .int i t
  · exact .str x t
theorem flatK_reads : ∀ {kvs : List (Key × D)} {vs : List V} {ds : List (PyData × PyData)} {us : List (Key × Value)} {es : List DictEntry}, RelDs (Wx X) H c (kvs.map (·.2)) vs → pyFk kvs = some ds → KV ((kvs.map (·.1)).zip vs) us → Pairs (mixKind X.prog X.w) es us →
    ReadsAll s.heap (es.map (·.key)) (ds.map (·.1)) [] ∧ ReadsAll s.heap (es.map (·.val)) (ds.map (·.2)) []
  | [], _, _, _, _, r, e, kv, p => by
    cases r
    cases e
    cases kv
    cases p
    exact ⟨.nil, .nil⟩
  | kv0 :: kvs, _, _, _, _, r, e, kv, p => by
    rw [List.map_cons] at r
    cases r with
    | cons r1 r2 =>
      rw [List.map_cons, List.zip_cons_cons] at kv
      cases kv with
      | cons h1 h2 =>
        cases p with
        | cons p1 p2 p3 =>
          simp only [pyFk] at e
          split at e
          · rename_i x xs e1 e2
            cases e
            obtain ⟨q1, q2⟩ := flatK_reads r2 e2 h2 p3
            have k1 := key_reads (s := s) p1
            rw [← h1.1] at k1
            have v1 := flat_reads (s := s) r1 e1 (by have := h1.2; rw [← p2] at this; exact this)
            exact ⟨.cons (as := []) (bs := []) k1 q1, .cons (as := []) (bs := []) v1 q2⟩
          · cases e
mutual
theorem pyN_reads (I : L2.Inv X pins σ H s) : ∀ {d : D} {v : V} {u : Value} {x : PyData}, RelD (Wx X) H c d v → pyN d = some x → RelV v u → ∃ as, Reads s.heap u x as ∧ sysModules ∉ as
  | _, _, _, _, .non, e, rv => by cases e; cases rv; exact ⟨[], .none, by simp⟩
  | _, _, _, _, .bl b, e, rv => by cases e; cases rv; exact ⟨[], .bool b, by simp⟩
  | _, _, _, _, .int i, e, rv => by cases e; obtain ⟨t, rfl⟩ := rv; exact ⟨[], .int i t, by simp⟩
  | _, _, _, _, .str y _, e, rv => by cases e; obtain ⟨t, rfl⟩ := rv; exact ⟨[], .str y t, by simp⟩
  | _, _, _, _, @RelD.tup _ _ _ a xs vs hs rs, e, rv => by
    simp only [pyN] at e
    split at e
    · rename_i ds e1
      cases e
      cases rv
      obtain ⟨its, ri, ⟨o, ho, hc, n, hd⟩, _⟩ := I.tuple (FzT.sq hs)
      obtain ⟨as, hr, hn⟩ := pyNs_reads I rs e1 ri
      exact ⟨as, .tuple ho hc hd hr, hn⟩
    · cases e
  | _, _, _, _, @RelD.dic _ _ _ a kvs vs hs nl rs, e, rv => by
    simp only [pyN] at e
    split at e
    · rename_i ds e1
      cases e
      cases rv
      obtain ⟨z, hS, us, kv, o, es, ep, ho, hc, hd, _, pr, _⟩ := dk_rd I.hok hs
      obtain ⟨q1, q2⟩ := flatK_reads (s := s) rs e1 kv pr
      exact ⟨_, .dict ho hc.1 hd q1 q2, by
        have : sysModules ≠ a := fun e => by rw [e] at hS; simp at hS
        simpa using this⟩
    · cases e
  | _, _, _, _, .lst _ _, e, _ => by cases e
  | _, _, _, _, .ins .., e, _ => by cases e
  | _, _, _, _, .ref _, e, _ => by cases e
  | _, _, _, _, .scr _, e, _ => by cases e
  | _, _, _, _, .cls _, e, _ => by cases e
theorem pyNs_reads (I : L2.Inv X pins σ H s) : ∀ {ds : List D} {vs : List V} {us : List Value} {xs : List PyData}, RelDs (Wx X) H c ds vs → pyNs ds = some xs → Vals vs us → ∃ as, ReadsAll s.heap us xs as ∧ sysModules ∉ as
  | _, _, _, _, .nil, e, rv => by cases e; cases rv; exact ⟨[], .nil, by simp⟩
  | _, _, _, _, .cons r1 r2, e, rv => by
    simp only [pyNs] at e
    split at e
    · rename_i x xs e1 e2
      cases e
      cases rv with
      | cons v1 v2 =>
        obtain ⟨as, q1, n1⟩ := pyN_reads I r1 e1 v1
        obtain ⟨bs, q2, n2⟩ := pyNs_reads I r2 e2 v2
        exact ⟨as ++ bs, .cons q1 q2, fun z => (List.mem_append.mp z).elim n1 n2⟩
    · cases e
end
end
def shD (d : D) : Option PyData := match pyD d with
  | some x => some x
  | none => pyN d
def cbShow : Cb := fun _ ds => match ds with
  | [d] => match shD d with
    | some x => if x.showable = true ∧ x.depth ≤ 60 ∧ x.shown.length ≤ sizeLine then some (.str x.shown) else none
    | none => none
  | _ => none
mutual
theorem dp_nodict {K : PySem.W.Frag} {H : Hp} : ∀ {v : V} {x : PyData}, Dp K H v x → x.hasDict = false
  | _, _, .non => rfl
  | _, _, .bl b => rfl
  | _, _, .int i => rfl
  | _, _, .str x => rfl
  | _, _, .lst _ h => by simp only [PyData.hasDict]; exact dps_nodict h
  | _, _, .tup _ h => by simp only [PyData.hasDict]; exact dps_nodict h
theorem dps_nodict {K : PySem.W.Frag} {H : Hp} : ∀ {vs : List V} {xs : List PyData}, DpAll K H vs xs → PyData.hasDictAll xs = false
  | _, _, .nil => rfl
  | _, _, .cons h t => by simp only [PyData.hasDictAll, dp_nodict h, dps_nodict t, Bool.or_false]
end
theorem shD_reads {X : Cx} {pins : List (Addr × Obj)} {σ : L2.St} {H : Hp} {s : Shared} {c : Ct} (I : L2.Inv X pins σ H s) {d : D} {v : V} {u : Value} {x : PyData} (r : RelD (Wx X) H c d v) (e : shD d = some x) (rv : RelV v u) :
    ∃ as, Reads s.heap u x as ∧ (x.hasDict = true → sysModules ∉ as) := by
  unfold shD at e
  split at e
  · rename_i y z
    cases e
    have dp := pyD_ok r z
    obtain ⟨as, h⟩ := Dp.reads I x v u dp rv
    exact ⟨as, h, fun z => by rw [dp_nodict dp] at z; cases z⟩
  · obtain ⟨as, h, n⟩ := pyN_reads I r e rv
    exact ⟨as, h, fun _ => n⟩
theorem cb_show {X : Cx} {k : Nat} (hr : RoomG k X.A) : CbM X (.builtin "repr") cbShow := by
  intro pins s σ H xs us Q I r h
  obtain ⟨c, ds, z, g, rd, hz, q⟩ := h
  have here := q H (Ext.refl c H) g
  unfold cbShow at hz
  split at hz
  · rename_i d
    split at hz
    · rename_i x e
      split at hz
      · rename_i cond
        cases hz
        cases rd with
        | cons r1 rn =>
          cases rn
          obtain ⟨u, rfl, rv⟩ := Vals.one r
          have fin := here _ (.str _ cond.2.2)
          obtain ⟨as, rd, hs⟩ := shD_reads I r1 e rv
          have un := hr.un
          cases u with
          | ref a =>
            refine repr_of_reads' rd cond.1 hs hr.gd (by have := cond.2.1; omega) (fun _ _ y => y) (fun h' u tk hk => ⟨.str _, H, I.kept hk, ⟨u, rfl⟩, fin⟩) cond.2.2
          | none => cases rd; exact PySem.P.repr_of_none ⟨.str _, H, I.tok _, ⟨_, rfl⟩, fin⟩
          | bool b => cases rd; exact PySem.P.repr_of_bool ⟨.str _, H, I.tok _, ⟨_, rfl⟩, fin⟩
          | int i t => cases rd; exact PySem.P.repr_of_int (by simpa [PyData.showable] using cond.1) ⟨.str _, H, I.tok _, ⟨_, rfl⟩, fin⟩
          | str y t => cases rd; exact PySem.P.repr_of_str ⟨.str _, H, I.tok _, ⟨_, rfl⟩, fin⟩ cond.2.2
          | _ => cases rd
      · cases hz
    · cases hz
  · cases hz
end Mi
end
section
set_option maxRecDepth 100000
set_option maxHeartbeats 1000000
namespace Mi
open PySem L2 PyProof.Rows
/-! ### max(xs, default=i) -/
def maxDf (i : Int) (s : Sto) (d : D) : Option D := match (asL s d).bind allInt with
  | some [] => some (.int i)
  | some (n :: ns) => some (.int (maxI (n :: ns)))
  | none => none
theorem foldl_max : ∀ (ns : List Int) (n : Int), (ns.foldl max n ∈ n :: ns) ∧ ∀ y ∈ n :: ns, y ≤ ns.foldl max n
  | [], n => ⟨by simp, by simp⟩
  | m :: r, n => by
    obtain ⟨h1, h2⟩ := foldl_max r (max n m)
    rw [List.foldl_cons]
    refine ⟨?_, fun y hy => ?_⟩
    · rcases List.mem_cons.mp h1 with h | h
      · rw [h]
        rcases Int.le_total n m with z | z
        · rw [Int.max_eq_right z]; simp
        · rw [Int.max_eq_left z]; simp
      · exact List.mem_cons_of_mem _ (List.mem_cons_of_mem _ h)
    · have z := h2 (max n m) List.mem_cons_self
      rcases List.mem_cons.mp hy with rfl | hy
      · exact Int.le_trans (Int.le_max_left _ _) z
      · rcases List.mem_cons.mp hy with rfl | hy
        · exact Int.le_trans (Int.le_max_right _ _) z
        · exact h2 y (List.mem_cons_of_mem _ hy)
theorem foldl_maxI (n : Int) (ns : List Int) : ns.foldl max n = maxI (n :: ns) := by
  obtain ⟨h1, h2⟩ := foldl_max ns n
  obtain ⟨g1, g2⟩ := maxI_max (n :: ns) (by simp)
  exact Int.le_antisymm (g2 _ h1) (h2 _ g1)
def rMx (K : PySem.W.Frag) (i : Int) : List V → List V → Hp → VK → Prop := fun vs zs H Q => ∃ (a : Addr) (ns : List Int), vs = [.ref a] ∧ zs = [.int i] ∧ SqL K H a (ns.map V.int) ∧ Q (.int (match ns with | [] => i | n :: r => maxI (n :: r))) H
theorem ints_reads {h : Heap} : ∀ {ns : List Int} {us : List Value}, Vals (ns.map V.int) us → ReadsAll h us (ns.map PyData.int) []
  | [], _, .nil => .nil
  | n :: ns, _, .cons r t => by
    obtain ⟨tk, rfl⟩ := r
    exact .cons (as := []) (bs := []) (.int n tk) (ints_reads t)
theorem ints_depth : ∀ ns : List Int, PyData.depthAll (ns.map PyData.int) = 0
  | [] => rfl
  | n :: ns => by rw [List.map_cons, PyData.depthAll, ints_depth ns]; rfl
section
variable {X : Cx} {E : L2.St → XK} {pos p cp kp : Pos} {a : Expr} {fa : ET} {i : Int}
theorem cr_maxDf {k : Nat} (hc : X.calm = true) (hr : RoomG k X.A) : CallRK X (.builtin "max") [Str.ofString "default"] (rMx X.K i) := by
  intro pins s σ H vs zs us ws Q I r rz h
  obtain ⟨a, ns, rfl, rfl, hs, q⟩ := h
  obtain rfl := Vals.ref1 r
  obtain ⟨w1, rfl, tk, rfl⟩ := vals1 rz
  obtain ⟨its, rv, hl, _⟩ := I.list hs
  have un := hr.un
  refine PySem.W.max_list_default (I.ok.hd hc) hl.isList (ints_reads rv) ⟨fun x hx y hy => ?_, fun x hx => ?_⟩ (by rw [ints_depth]; omega) (fun e h' t' hk => ?_) fun y ys j v h' t' bs e hj rd hk => ?_
  · obtain ⟨n, _, rfl⟩ := List.mem_map.mp hx
    obtain ⟨m, _, rfl⟩ := List.mem_map.mp hy
    rfl
  · obtain ⟨n, _, rfl⟩ := List.mem_map.mp hx
    simp
  · have : ns = [] := by simpa using e
    subst this
    exact ⟨.int i, H, I.kept hk, ⟨_, rfl⟩, q⟩
  · cases ns with
    | nil => cases e
    | cons n r =>
      rw [List.map_cons] at e
      cases e
      rw [PySem.W.maxD_ints, foldl_maxI] at rd
      cases rd
      exact ⟨.int _, H, I.kept hk, ⟨_, rfl⟩, q⟩
theorem me_maxDf {k : Nat} {x : Str} {j : Nat} (hc : X.calm = true) (hr : RoomG k X.A) (hg : Gl X x) (hm : X.mg x = none) (hv : bootBuiltins x = some (.builtin "max")) (ha : ME X E a fa) (hn : x ≠ "__name__" := by decide) (hdb : (x == ("__debug__" : Str)) = false := by decide)
    (he1 : starEach [a] X.env = (false, eval a X.env) :: starEach [] X.env := by rfl)
    (he : backTo pos (starEach [a] X.env) = (false, eval a X.env) :: backTo pos (starEach [] X.env) := by rfl) (hpl : (backTo pos (starEach [a] X.env)).any (·.1) = false := by rfl)
    (hall : (backToKw pos (keywordEach [⟨some "default", .Constant (.int i) j cp, kp⟩] X.env)).all (·.1.isSome) = true := by rfl) (hnone : (backToKw pos (keywordEach [⟨some "default", .Constant (.int i) j cp, kp⟩] X.env)).any (·.1.isNone) = false := by rfl)
    (hks : (backToKw pos (keywordEach [⟨some "default", .Constant (.int i) j cp, kp⟩] X.env)).filterMap (·.1) = [Str.ofString "default"] := by rfl) :
    ME X E (.Call (.Name x p) [a] [⟨some "default", .Constant (.int i) j cp, kp⟩] pos) (mUn (maxDf i) fa) := by
  refine PE.imp (pe_callBK (cr_maxDf (i := i) hc hr) hg hm hv (pa_cons ha pa_nil he1) (pk_cons pe_int pk_nil) hn hdb he hpl hall hnone hks) fun st H Q ⟨c, env, g, re, q⟩ => ?_
  refine ⟨c, env, g, re, (Fin.bind q).mono fun d c1 H1 e1 g1 q1 v rv => ?_⟩
  show rMx X.K i [v] [.int i] H1 Q
  unfold maxDf at q1
  cases z : asL c1.S d with
  | none => rw [z] at q1; exact q1.elim
  | some xs =>
    rw [z, Option.bind_some] at q1
    cases z2 : allInt xs with
    | none => rw [z2] at q1; exact q1.elim
    | some ns =>
      rw [z2] at q1
      have e := allInt_eq z2
      subst e
      obtain ⟨b, vs, rfl, hq, rs⟩ := asL_sq g1 rv z
      have e := rs.map_int
      subst e
      refine ⟨b, ns, rfl, rfl, hq, ?_⟩
      cases ns with
      | nil => exact q1.here g1 rfl _ (.int _)
      | cons n r => exact q1.here g1 rfl _ (.int _)
end
end Mi
end
section
set_option maxRecDepth 100000
set_option maxHeartbeats 1000000
namespace Mi
open PySem L2 PyProof.Rows
/-! ### a dict locked while it is walked -/
section
variable {w : Wd} {c c' : Ct} {H H' : Hp} {d : Addr} {ks : List (Key × V)} {od : Obj}
theorem Tw.lock (h : H d = some (.dK ks)) : Tw c H c (upd H d (.frz od (.dK ks))) := ⟨fun _ _ h => h, fun _ h => .inl h, fun a o e _ => by
  by_cases z : a = d
  · subst z
    rw [h] at e
    cases e
    exact ⟨_, upd_same, .inr ⟨rfl, rfl⟩⟩
  · exact ⟨o, by rw [upd_ne z]; exact e, .refl o⟩⟩
theorem Tw.unlock (h : H d = some (.frz od (.dK ks))) : Tw c H c (upd H d (.dK ks)) := ⟨fun _ _ h => h, fun _ h => .inl h, fun a o e _ => by
  by_cases z : a = d
  · subst z
    rw [h] at e
    cases e
    exact ⟨_, upd_same, .inr ⟨rfl, rfl⟩⟩
  · exact ⟨o, by rw [upd_ne z]; exact e, .refl o⟩⟩
theorem Good.lock (g : Good w H c) (n : ¬ Lv c d) (h : H d = some (.dK ks)) : Good w (upd H d (.frz od (.dK ks))) c := by
  refine ⟨g.len, g.inj, fun m b o e1 e2 => ?_, fun b hb => ⟨?_, (g.gst b hb).2⟩⟩
  · obtain ⟨ho, q, r⟩ := g.obj m b o e1 e2
    have r2 := r.tw (Tw.lock (od := od) h)
    by_cases z : b = d
    · subst z
      rw [h] at q
      cases q
      refine ⟨_, upd_same, ?_⟩
      cases r2 with
      | dic rs h1 h2 => exact .dic rs h1 fun mt => absurd (.inl ⟨m, _, e1, e2, mt⟩) n
    · exact ⟨ho, by rw [upd_ne z]; exact q, r2⟩
  · by_cases z : b = d
    · rw [z]; exact ⟨_, upd_same⟩
    · rw [upd_ne z]; exact (g.gst b hb).1
theorem Good.unlock (g : Good w H c) (n : ¬ Lv c d) (h : H d = some (.frz od (.dK ks))) : Good w (upd H d (.dK ks)) c := by
  refine ⟨g.len, g.inj, fun m b o e1 e2 => ?_, fun b hb => ⟨?_, (g.gst b hb).2⟩⟩
  · obtain ⟨ho, q, r⟩ := g.obj m b o e1 e2
    have r2 := r.tw (Tw.unlock h)
    by_cases z : b = d
    · subst z
      rw [h] at q
      cases q
      refine ⟨_, upd_same, ?_⟩
      cases r2 with
      | dic rs h1 h2 => exact .dic rs h1 fun mt => absurd (.inl ⟨m, _, e1, e2, mt⟩) n
    · exact ⟨ho, by rw [upd_ne z]; exact q, r2⟩
  · by_cases z : b = d
    · rw [z]; exact ⟨_, upd_same⟩
    · rw [upd_ne z]; exact (g.gst b hb).1
theorem Ext.unlock (n : ¬ Lv c d) (h : H d = some (.dK ks)) (e : Ext c (upd H d (.frz od (.dK ks))) c' H') : Ext c H c' (upd H' d (.dK ks)) ∧ H' d = some (.frz od (.dK ks)) ∧ ¬ Lv c' d := by
  have ng : d ∉ c.gs := fun z => n (.inr z)
  refine ⟨⟨⟨e.p, fun a l => ?_, fun a o q nl => ?_⟩, e.gs, fun a ha => ?_⟩, e.keep d _ upd_same n, e.toTr.nlv upd_same n⟩
  · rcases e.lv a l with z | z
    · exact .inl z
    · by_cases ad : a = d
      · subst ad; rw [upd_same] at z; cases z
      · rw [upd_ne ad] at z; exact .inr z
  · by_cases ad : a = d
    · subst ad; rw [h] at q; cases q; exact upd_same
    · rw [upd_ne ad]; exact e.keep a o (by rw [upd_ne ad]; exact q) nl
  · have ad : a ≠ d := fun z => ng (by rw [← z]; exact ha)
    rw [upd_ne ad, e.gk a ha, upd_ne ad]
theorem Fin.locked {α : Type} {E : XK} {r : R α} {k : α → Ct → Hp → Prop} (hf : Fin w E c H r k) (hr : ∀ x S, r ≠ .ex x S) (n : ¬ Lv c d) (h : H d = some (.dK ks)) :
    Fin w E c (upd H d (.frz od (.dK ks))) r (fun a c' H' => H' d = some (.frz od (.dK ks)) ∧ Tw c' H' c' (upd H' d (.dK ks)) ∧ k a c' (upd H' d (.dK ks))) := by
  cases r with
  | no => exact hf
  | ex x S => exact absurd rfl (hr x S)
  | ok a S =>
    intro c1 H1 e1 g1 s1
    obtain ⟨e2, hd, nl⟩ := e1.unlock n h
    exact ⟨hd, Tw.unlock hd, hf c1 _ e2 (g1.unlock nl hd) s1⟩
end
/-! ### keys -/
def kD : Key → D
  | .inl i => .int i
  | .inr x => .str x
def keyOk : Key → Bool
  | .inl _ => true
  | .inr x => decide (x.length ≤ sizeLine)
theorem kD_rel {w : Wd} {H : Hp} {c : Ct} {k : Key} (h : keyOk k = true) : RelD w H c (kD k) (kV k) := by
  cases k with
  | inl i => exact .int i
  | inr x => exact .str x (of_decide_eq_true h)
def itK (i : Nat) : IT := fun env s => match env[i]? with
  | some (some (.dic kvs)) => if (kvs.all fun kv => keyOk kv.1) = true then .ok (kvs.map fun kv => kD kv.1, fun _ => True) s else .no
  | _ => .no
section
variable {w : Wd} {E : L2.St → XK} {st : L2.St} {H : Hp} {i : Nat} {d : Addr} {o : Obj} {ks : List (Key × V)}
theorem keys_at {R : It → Hp → Prop} (hst : st[i]? = some (some (.ref d))) (hf : H d = some (.frz o (.dK ks))) (h : tMI w E (itK i) st H R) : iKeys (tVar i) st H R := by
  obtain ⟨c, env, g, re, q⟩ := h
  refine ⟨.ref d, hst, d, o, rfl, .inl ⟨ks, hf, ?_⟩⟩
  unfold itK at q
  split at q
  · rename_i kvs e
    split at q
    · rename_i hk
      obtain ⟨v, hv, rd⟩ := re.get i _ e
      rw [hst] at hv
      cases hv
      cases rd with
      | @dic _ _ vs0 hs nl rs =>
        have ek : ks = (kvs.map (·.1)).zip vs0 := by
          rcases hs with hs | ⟨o2, hs⟩
          · rw [hf] at hs; cases hs
          · rw [hf] at hs; cases hs; rfl
        have len : ks.length = kvs.length := by rw [ek, List.length_zip, List.length_map, ← rs.length]; simp
        refine q c H (Ext.refl c H) g rfl _ ⟨fun c1 H1 t g1 _ j hj => ?_, fun c1 H1 t g1 _ j x hx y H2 hy => ?_, fun c1 H1 t g1 _ => ?_⟩
        · exact ⟨t.keep d _ hf nl, by rw [len]; simpa using hj⟩
        · obtain ⟨rfl, k, v, hkv, rfl⟩ := hy
          refine ⟨Ext.refl _ _, g1, ?_⟩
          rw [List.getElem?_map] at hx
          cases hq : kvs[j]? with
          | none => rw [hq] at hx; cases hx
          | some kv =>
            rw [hq] at hx
            cases hx
            rw [ek] at hkv
            have hk1 : k = kv.1 := by
              obtain ⟨a1, a2⟩ := List.getElem?_zip_eq_some.mp hkv
              rw [List.getElem?_map, hq] at a1
              exact (Option.some.inj a1).symm
            rw [hk1]
            exact kD_rel (List.all_eq_true.mp hk kv (List.mem_of_getElem? hq))
        · exact ⟨t.keep d _ hf nl, by rw [len, List.length_map]; exact Nat.le_refl _⟩
    · exact q.elim
  · exact q.elim
theorem lcK_M {g : Tg} {bt : BT} {fe : ET} {js vs : List Nat} {Q : VK} (hj : ∀ j ∈ js, j ∈ vs) (hst : st[i]? = some (some (.ref d))) (hf : H d = some (.frz o (.dK ks))) (h : tM w E (mLc (itK i) g bt fe vs) st H Q) :
    tLc (iKeys (tVar i)) (tMG w js g) (tMB w E00 bt) (tM w E00 fe) vs st H Q := keys_at hst hf (tLc_M hj h)
end
section
variable {X : Cx} {E : L2.St → XK} {pos p : Pos}
theorem PE.two {e : Expr} {t u : TE} (h : PE X e t) (k : PE X e u) : PE X e (fun st H Q => t st H Q ∨ u st H Q) := ⟨fun pins s σ H Q I q => q.elim (h.run pins s σ H Q I) (k.run pins s σ H Q I)⟩
theorem lc_noex {i : Nat} {g : Tg} {bt : BT} {fe : ET} {vs : List Nat} {env : Env} {s : Sto} (x : Xn) (S : Sto) : mLc (itK i) g bt fe vs env s ≠ .ex x S := fun h => by
  unfold mLc at h
  cases z : itK i env s with
  | no => rw [z] at h; cases h
  | ex x S => unfold itK at z; split at z <;> first | (split at z <;> cases z) | cases z
  | ok p S1 =>
    rw [z] at h
    simp only [bind_ok] at h
    cases z2 : lcGo p.2 g bt fe (wipeE env vs) p.1 [] S1 <;> rw [z2] at h <;> cases h
/-- [elt for x in d if ..], d a name whose dict is not written -/
theorem me_lcK {elt : Expr} {x : Str} {i : Nat} {ifs : List Expr} {scope : Scope} {own : List (Str × Nat)} {tg : Expr} {g : Tg} {js : List Nat} {bt : BT} {fe : ET} (hc : X.calm = true) (hN : X.N.Nodup) (hv : PE X (.Name x p) (tVar i)) (ok : BlkOk X.N X.env.scope scope own)
    (hg : ∀ s H C cl fp, MG (X.blk s H scope (compEnvC scope cl C X.env) fp) tg js g) (ht : ∀ s H C cl fp, MTs (X.blk s H scope (compEnvC scope cl C X.env) fp) E00 ifs bt)
    (he : ∀ s H C cl fp, ME (X.blk s H scope (compEnvC scope cl C X.env) fp) E00 elt fe) (hj : ∀ j ∈ js, j ∈ own.map (·.2) := by decide) (hs : ∀ y, foldedSetIterable (.Name x p) X.env y = pure y := by intro _; rfl) :
    ME X E (.ListComp elt [⟨tg, .Name x p, ifs, 0⟩] scope pos) (mLc (itK i) g bt fe (own.map (·.2))) := by
  have base : PE X (.ListComp elt [⟨tg, .Name x p, ifs, 0⟩] scope pos) (tLc (iKeys (tVar i)) (tMG (Wx X) js g) (tMB (Wx X) E00 bt) (tM (Wx X) E00 fe) (own.map (·.2))) := pe_lc hc hN (pi_keys hv) ok hg ht he hs
  refine PE.imp (PE.two base (pe_lock base)) fun st H Q h => ?_
  obtain ⟨c, env, gd, re, q⟩ := id h
  cases e : env[i]? with
  | none => simp only [mLc, itK, e] at q; exact q.elim
  | some od =>
    cases od with
    | none => simp only [mLc, itK, e] at q; exact q.elim
    | some dd =>
      cases dd with
      | dic kvs =>
        obtain ⟨v, hv2, rd⟩ := re.get i _ e
        cases rd with
        | @dic d _ vs hs2 nl rs =>
          rcases hs2 with hs2 | ⟨o, hs2⟩
          · refine .inr ⟨d, _, hs2, True.intro, fun ob => ?_⟩
            refine lcK_M hj hv2 upd_same ⟨c, env, gd.lock nl hs2, ⟨re.len, fun j x hx => ?_⟩, (q.locked (od := ob) (fun x S => lc_noex x S) nl hs2).mono fun y c1 H1 e1 g1 z v2 rv2 => ⟨z.1, z.2.2 v2 (rv2.tw z.2.1)⟩⟩
            obtain ⟨u, hu, ru⟩ := re.get j x hx
            exact ⟨u, hu, ru.tw (Tw.lock hs2)⟩
          · exact .inl (lcK_M hj hv2 hs2 h)
      | _ => simp only [mLc, itK, e] at q; exact q.elim
end
end Mi
end
section
set_option maxRecDepth 100000
set_option maxHeartbeats 1000000
namespace Mi
open PySem L2 PyProof.Rows
/-! ### tables -/
abbrev KVD (w : Wd) (H : Hp) (c : Ct) : List (Key × D) → List (Key × V) → Prop := Paired fun p q => p.1 = q.1 ∧ RelD w H c p.2 q.2
theorem KVD.of {w : Wd} {H : Hp} {c : Ct} : ∀ {kvs : List (Key × D)} {vs : List V}, RelDs w H c (kvs.map (·.2)) vs → KVD w H c kvs ((kvs.map (·.1)).zip vs)
  | [], _, .nil => .nil
  | kv :: r, _, .cons h t => .cons ⟨rfl, h⟩ (KVD.of t)
theorem KVD.to {w : Wd} {H : Hp} {c : Ct} : ∀ {kvs : List (Key × D)} {ks : List (Key × V)}, KVD w H c kvs ks → ∃ vs, ks = (kvs.map (·.1)).zip vs ∧ RelDs w H c (kvs.map (·.2)) vs
  | [], _, .nil => ⟨[], rfl, .nil⟩
  | kv :: r, _, .cons (b := b) h t => by
    obtain ⟨vs, e, rs⟩ := KVD.to t
    obtain ⟨b1, b2⟩ := b
    have h1 : kv.1 = b1 := h.1
    exact ⟨b2 :: vs, by rw [List.map_cons, List.zip_cons_cons, ← e, h1], .cons h.2 rs⟩
theorem KVD.tw {w : Wd} {H H' : Hp} {c c' : Ct} (e : Tw c H c' H') : ∀ {kvs : List (Key × D)} {ks : List (Key × V)}, KVD w H c kvs ks → KVD w H' c' kvs ks
  | _, _, .nil => .nil
  | _, _, .cons h t => .cons ⟨h.1, h.2.tw e⟩ (KVD.tw e t)
theorem KVD.keys {w : Wd} {H : Hp} {c : Ct} : ∀ {kvs : List (Key × D)} {ks : List (Key × V)}, KVD w H c kvs ks → kvs.map (·.1) = ks.map (·.1)
  | _, _, .nil => rfl
  | _, _, .cons h t => by rw [List.map_cons, List.map_cons, h.1, KVD.keys t]
theorem KVD.length {w : Wd} {H : Hp} {c : Ct} {kvs : List (Key × D)} {ks : List (Key × V)} (h : KVD w H c kvs ks) : kvs.length = ks.length := Paired.length h
def putD (kvs : List (Key × D)) (k : Key) (v : D) : List (Key × D) :=
  if (kvs.any fun kv => decide (kv.1 = k)) = true then kvs.map (fun kv => if kv.1 = k then (kv.1, v) else kv) else kvs ++ [(k, v)]
def valD (kvs : List (Key × D)) (k : Key) : Option D := (kvs.find? fun kv => decide (kv.1 = k)).map (·.2)
theorem KVD.val {w : Wd} {H : Hp} {c : Ct} {k : Key} : ∀ {kvs : List (Key × D)} {ks : List (Key × V)}, KVD w H c kvs ks → (valD kvs k = none ∧ valV ks k = none) ∨ ∃ d v, valD kvs k = some d ∧ valV ks k = some v ∧ RelD w H c d v
  | _, _, .nil => .inl ⟨rfl, rfl⟩
  | _, _, .cons (a := a) (b := b) h t => by
    by_cases e : a.1 = k
    · exact .inr ⟨a.2, b.2, by simp [valD, List.find?_cons, e], valV_pos (by rw [← h.1]; exact e), h.2⟩
    · have e2 : ¬ b.1 = k := by rw [← h.1]; exact e
      have z := KVD.val (k := k) t
      have v1 : ∀ r, valD (a :: r) k = valD r k := fun r => by simp [valD, List.find?_cons, e]
      rw [v1, valV_neg e2]
      exact z
theorem KVD.any {w : Wd} {H : Hp} {c : Ct} {k : Key} : ∀ {kvs : List (Key × D)} {ks : List (Key × V)}, KVD w H c kvs ks → (kvs.any fun kv => decide (kv.1 = k)) = ks.any fun kv => decide (kv.1 = k)
  | _, _, .nil => rfl
  | _, _, .cons h t => by rw [List.any_cons, List.any_cons, h.1, KVD.any t]
theorem KVD.app {w : Wd} {H : Hp} {c : Ct} {k : Key} {d : D} {v : V} (r : RelD w H c d v) : ∀ {kvs : List (Key × D)} {ks : List (Key × V)}, KVD w H c kvs ks → KVD w H c (kvs ++ [(k, d)]) (ks ++ [(k, v)])
  | _, _, .nil => .cons ⟨rfl, r⟩ .nil
  | _, _, .cons h t => .cons h (KVD.app r t)
theorem KVD.repl {w : Wd} {H : Hp} {c : Ct} {k : Key} {d : D} {v : V} (r : RelD w H c d v) : ∀ {kvs : List (Key × D)} {ks : List (Key × V)}, KVD w H c kvs ks →
    KVD w H c (kvs.map fun kv => if kv.1 = k then (kv.1, d) else kv) (ks.map fun kv => if kv.1 = k then (kv.1, v) else kv)
  | _, _, .nil => .nil
  | _, _, .cons (a := a) (b := b) h t => by
    refine .cons ?_ (KVD.repl r t)
    by_cases e : a.1 = k
    · have e2 : b.1 = k := by rw [← h.1]; exact e
      simp only [if_pos e, if_pos e2]
      exact ⟨h.1, r⟩
    · have e2 : ¬ b.1 = k := by rw [← h.1]; exact e
      simp only [if_neg e, if_neg e2]
      exact h
theorem KVD.put {w : Wd} {H : Hp} {c : Ct} {k : Key} {d : D} {v : V} {kvs : List (Key × D)} {ks : List (Key × V)} (h : KVD w H c kvs ks) (r : RelD w H c d v) : KVD w H c (putD kvs k d) (putK ks k v) := by
  unfold putD putK
  rw [← KVD.any h]
  split
  · exact KVD.repl r h
  · exact KVD.app r h
def keyOf : D → Option Key
  | .int i => some (.inl i)
  | .str x => some (.inr x)
  | _ => none
theorem keyOf_ok {w : Wd} {H : Hp} {c : Ct} {d : D} {v : V} {k : Key} (r : RelD w H c d v) (h : keyOf d = some k) : v = kV k := by
  cases d with
  | int i => cases h; cases r; rfl
  | str x => cases h; cases r; rfl
  | _ => cases h
/-! ### {k: v for ..} -/
open Classical in
noncomputable def dcGo (G : Sto → Prop) (g : Tg) (bt : BT) (fk fv : ET) (env : Env) : List D → List (Key × D) → Sto → R (List (Key × D))
  | [], acc, s => if G s then .ok acc s else .no
  | d :: r, acc, s => if G s then (match g d env with
      | some env2 => (bt env2 s).bind fun b s1 => match b with
        | true => (fk env2 s1).bind fun k s2 => (fv env2 s2).bind fun v s3 => match keyOf k with
          | some key => if acc.length < sizeLine then dcGo G g bt fk fv env r (putD acc key v) s3 else .no
          | none => .no
        | false => dcGo G g bt fk fv env r acc s1
      | none => .no) else .no
noncomputable def mDc (it : IT) (g : Tg) (bt : BT) (fk fv : ET) (vs : List Nat) : ET := fun env s => (it env s).bind fun p s1 => (dcGo p.2 g bt fk fv (wipeE env vs) p.1 [] s1).quiet.bind fun ds s2 => .ok (.dic ds) s2
theorem dcGo_nil {G : Sto → Prop} {g : Tg} {bt : BT} {fk fv : ET} {env : Env} {acc out : List (Key × D)} {s S : Sto} (h : dcGo G g bt fk fv env [] acc s = .ok out S) : G s ∧ out = acc ∧ S = s := by
  rw [dcGo] at h
  split at h
  · rename_i hG; cases h; exact ⟨hG, rfl, rfl⟩
  · cases h
theorem dcGo_cons {G : Sto → Prop} {g : Tg} {bt : BT} {fk fv : ET} {env : Env} {d : D} {r : List D} {acc out : List (Key × D)} {s S : Sto} (h : dcGo G g bt fk fv env (d :: r) acc s = .ok out S) :
    G s ∧ ∃ env2, g d env = some env2 ∧ ∃ b s1, bt env2 s = .ok b s1 ∧ ((b = false ∧ dcGo G g bt fk fv env r acc s1 = .ok out S) ∨
      (b = true ∧ ∃ k s2, fk env2 s1 = .ok k s2 ∧ ∃ v s3, fv env2 s2 = .ok v s3 ∧ ∃ key, keyOf k = some key ∧ acc.length < sizeLine ∧ dcGo G g bt fk fv env r (putD acc key v) s3 = .ok out S)) := by
  rw [dcGo] at h
  split at h
  · rename_i hG
    refine ⟨hG, ?_⟩
    split at h
    · rename_i env2 he
      refine ⟨env2, he, ?_⟩
      cases z : bt env2 s with
      | no => rw [z] at h; cases h
      | ex x S1 => rw [z] at h; cases h
      | ok b s1 =>
        rw [z] at h
        refine ⟨b, s1, rfl, ?_⟩
        cases b with
        | false => exact .inl ⟨rfl, h⟩
        | true =>
          simp only [bind_ok] at h
          cases z2 : fk env2 s1 with
          | no => rw [z2] at h; cases h
          | ex x S1 => rw [z2] at h; cases h
          | ok k s2 =>
            rw [z2] at h
            simp only [bind_ok] at h
            cases z3 : fv env2 s2 with
            | no => rw [z3] at h; cases h
            | ex x S1 => rw [z3] at h; cases h
            | ok v s3 =>
              rw [z3] at h
              simp only [bind_ok] at h
              split at h
              · rename_i key hkey
                split at h
                · rename_i hl
                  exact .inr ⟨rfl, k, s2, rfl, v, s3, z3, key, hkey, hl, h⟩
                · cases h
              · cases h
    · cases h
  · cases h
section
variable {X : Cx} {E : L2.St → XK} {pos : Pos} {tg : Expr}
theorem tDc_M {w : Wd} {it : IT} {g : Tg} {bt : BT} {fk fv : ET} {js vs : List Nat} {st : L2.St} {H : Hp} {Q : VK} (hj : ∀ j ∈ js, j ∈ vs) (h : tM w E (mDc it g bt fk fv vs) st H Q) :
    tDc (tMI w E it) (tMG w js g) (tMB w E00 bt) (tM w E00 fk) (tM w E00 fv) vs st H Q := by
  obtain ⟨c, env, gd, re, q⟩ := h
  refine ⟨c, env, gd, re, (Fin.bind q).mono fun p c1 H1 e1 g1 q1 J WJ Dd hD => ?_⟩
  cases z : dcGo p.2 g bt fk fv (wipeE env vs) p.1 [] c1.S with
  | no => rw [z] at q1; exact q1.elim
  | ex x S => rw [z] at q1; exact q1.elim
  | ok out S =>
    rw [z] at q1
    have fin : ∀ c' H', Ext c1 H1 c' H' → Good w H' c' → c'.S = S → ∀ v, RelD w H' c' (.dic out) v → Q v H' := q1
    clear q1 q
    refine ⟨fun i m H' => m = p.1.length - i ∧ i ≤ p.1.length ∧ ∃ c' acc vacc, Good w H' c' ∧ Tr c1 H1 c' H' ∧ c'.gs = Dd :: c1.gs ∧ (∀ b ∈ c1.gs, H' b = H1 b) ∧ H' Dd = some (.dK vacc) ∧ KVD w H' c' acc vacc ∧ dcGo p.2 g bt fk fv (wipeE env vs) (p.1.drop i) acc c'.S = .ok out S,
      ⟨p.1.length, by simp, Nat.zero_le _, c1.gh Dd, [], [], g1.gh hD, Tr.gh hD, rfl, fun b hb => upd_ne (g1.gne hD hb), upd_same, .nil, z⟩, ?_⟩
    rintro i m H2 ⟨rfl, hi, c2, acc, vacc, g2, t2, gs2, gk2, hD2, ra, run⟩
    have nlD : ∀ (l : List Addr), l = c1.gs → ¬ Lv (c2.ug l) Dd := fun l el lv => by
      rcases lv with ⟨n, o, en, eo, mo⟩ | lv
      · have := (g2.gst Dd (by rw [gs2]; simp)).2
        exact this (List.mem_of_getElem? (show c2.p[n]? = some Dd from en))
      · rw [el] at lv
        exact g1.gne hD (show Dd ∈ c1.gs from lv) rfl
    by_cases hlt : i < p.1.length
    · rw [List.drop_eq_getElem_cons hlt] at run
      obtain ⟨hG, env2, he2, b, s1, hb, alt⟩ := dcGo_cons run
      refine .inr ⟨WJ.go c2 H2 t2 g2 hG i hlt, fun H' => ∃ c' acc vacc, Good w H' c' ∧ Tr c1 H1 c' H' ∧ c'.gs = Dd :: c1.gs ∧ (∀ b ∈ c1.gs, H' b = H1 b) ∧ H' Dd = some (.dK vacc) ∧ KVD w H' c' acc vacc ∧ dcGo p.2 g bt fk fv (wipeE env vs) (p.1.drop (i + 1)) acc c'.S = .ok out S,
        fun H' hN => ⟨p.1.length - (i + 1), by omega, rfl, hlt, hN⟩, fun x H3 hy => ?_⟩
      obtain ⟨e3, g3, rx⟩ := WJ.yld c2 H2 t2 g2 hG i _ (List.getElem?_eq_getElem hlt) x H3 hy
      have t3 := t2.trans e3.toTr
      refine ⟨c2, _, wipeE env vs, env2, g3, rx, ((re.tr e1.toTr).tr t3).wipe vs, he2, fun st2 on re2 => ⟨wipe_only on hj, c2, env2, g3, re2, E00_elim hb fun c4 H4 e4 g4 s4 => ?_⟩⟩
      have gk4 : ∀ b ∈ c1.gs, H4 b = H1 b := fun b hb => ((e4.gk b (by rw [gs2]; exact List.mem_cons_of_mem _ hb)).trans (e3.gk b (by rw [gs2]; exact List.mem_cons_of_mem _ hb))).trans (gk2 b hb)
      have hD4 : H4 Dd = some (.dK vacc) := ((e4.gk Dd (by rw [gs2]; simp)).trans (e3.gk Dd (by rw [gs2]; simp))).trans hD2
      have ra4 : KVD w H4 c4 acc vacc := KVD.tw e4.toTr.tw (KVD.tw e3.toTr.tw ra)
      rcases alt with ⟨rfl, run2⟩ | ⟨rfl, k, s2, hfk, v, s3, hfv, key, hkey, hl, run2⟩
      · exact iteF ⟨c4, acc, vacc, g4, t3.trans e4.toTr, e4.gs.trans gs2, gk4, hD4, ra4, by rw [s4]; exact run2⟩
      · refine iteT ⟨c4, env2, g4, re2.ext e4, E00_elim (by rw [s4]; exact hfk) fun c5 H5 e5 g5 s5 kv rk => ?_⟩
        refine ⟨c5, env2, g5, (re2.ext e4).ext e5, E00_elim (by rw [s5]; exact hfv) fun c6 H6 e6 g6 s6 vv rv => ?_⟩
        have hD6 : H6 Dd = some (.dK vacc) := ((e6.gk Dd (by rw [e5.gs, e4.gs, gs2]; simp)).trans (e5.gk Dd (by rw [e4.gs, gs2]; simp))).trans hD4
        have gs6 : c6.gs = Dd :: c1.gs := e6.gs.trans (e5.gs.trans (e4.gs.trans gs2))
        have mem6 : Dd ∈ c6.gs := by rw [gs6]; simp
        have ek := keyOf_ok rk hkey
        refine ⟨vacc, key, ek, hD6, by rw [← KVD.length ra4]; exact hl, c6, putD acc key v, putK vacc key vv, g6.grow mem6, (((t3.trans e4.toTr).trans e5.toTr).trans e6.toTr).trans (Tr.grow mem6), gs6, fun b hb => ?_, upd_same, ?_, by rw [s6]; exact run2⟩
        · rw [upd_ne (fun zz => g1.gne hD hb zz)]
          exact ((e6.gk b (by rw [e5.gs, e4.gs, gs2]; exact List.mem_cons_of_mem _ hb)).trans (e5.gk b (by rw [e4.gs, gs2]; exact List.mem_cons_of_mem _ hb))).trans (gk4 b hb)
        · exact KVD.tw (Tr.grow mem6).tw (KVD.put (KVD.tw e6.toTr.tw (KVD.tw e5.toTr.tw ra4)) rv)
    · have hi' : i = p.1.length := by omega
      subst hi'
      rw [List.drop_length] at run
      obtain ⟨hG, rfl, rfl⟩ := dcGo_nil run
      refine .inl ⟨WJ.stop c2 H2 t2 g2 hG, ?_⟩
      have sub : ∀ b ∈ c1.gs, b ∈ c2.gs := fun b hb => by rw [gs2]; exact List.mem_cons_of_mem _ hb
      have tu : Tr c2 H2 (c2.ug c1.gs) H2 := Tr.ug sub
      obtain ⟨vs2, e2, rs2⟩ := KVD.to (KVD.tw tu.tw ra)
      refine fin (c2.ug c1.gs) H2 ⟨t2.trans tu, rfl, gk2⟩ (g2.ug sub) rfl _ (.dic (.inl (by rw [hD2, e2])) (nlD _ rfl) rs2)
theorem me_dc {kx vx iter : Expr} {ifs : List Expr} {scope : Scope} {own : List (Str × Nat)} {it : IT} {g : Tg} {js : List Nat} {bt : BT} {fk fv : ET} (hc : X.calm = true) (hN : X.N.Nodup) (hi : MI X E tg iter it) (ok : BlkOk X.N X.env.scope scope own)
    (hg : ∀ s H C cl fp, MG (X.blk s H scope (compEnvC scope cl C X.env) fp) tg js g) (ht : ∀ s H C cl fp, MTs (X.blk s H scope (compEnvC scope cl C X.env) fp) E00 ifs bt)
    (hk : ∀ s H C cl fp, ME (X.blk s H scope (compEnvC scope cl C X.env) fp) E00 kx fk) (he : ∀ s H C cl fp, ME (X.blk s H scope (compEnvC scope cl C X.env) fp) E00 vx fv) (hj : ∀ j ∈ js, j ∈ own.map (·.2) := by decide)
    (hs : ∀ x, foldedSetIterable iter X.env x = pure x := by intro _; rfl) :
    ME X E (.DictComp kx vx [⟨tg, iter, ifs, 0⟩] scope pos) (mDc it g bt fk fv (own.map (·.2))) := PE.imp (pe_dc hc hN hi ok hg ht hk he hs) fun _ _ _ => tDc_M hj
end
end Mi
end
section
set_option maxRecDepth 100000
set_option maxHeartbeats 1000000
namespace Mi
open PySem L2 PyProof.Rows
/-! ### texts in order -/
def leS (a b : Str) : Bool := !PySem.Spec.ltCps b.cps.toList a.cps.toList
theorem leS_iff {a b : Str} : leS a b = true ↔ a.cps.toList ≤ b.cps.toList := by
  unfold leS
  rw [ltCps_eq, Bool.not_eq_true', decide_eq_false_iff_not]
  exact Iff.rfl
theorem leS_trans {a b c : Str} (h : leS a b = true) (k : leS b c = true) : leS a c = true := leS_iff.mpr (List.le_trans (leS_iff.mp h) (leS_iff.mp k))
theorem leS_total (a b : Str) : (leS a b || leS b a) = true := by
  rw [Bool.or_eq_true, leS_iff, leS_iff]
  exact List.le_total _ _
theorem leS_anti {a b : Str} (h : leS a b = true) (k : leS b a = true) : a = b := by
  have := List.le_antisymm (leS_iff.mp h) (leS_iff.mp k)
  exact TL.ext_tl this
def srtS (l : List Str) : List Str := l.mergeSort leS
theorem risingS_pair : ∀ {l : List Str} {p : Str}, risingS p l = true → (p :: l).Pairwise (fun a b => leS a b = true)
  | [], p, _ => by simp
  | x :: r, p, h => by
    simp only [risingS, Bool.and_eq_true] at h
    have ih := risingS_pair h.2
    have hx : leS p x = true := h.1
    refine List.pairwise_cons.mpr ⟨fun y hy => ?_, ih⟩
    rcases List.mem_cons.mp hy with rfl | hy
    · exact hx
    · exact leS_trans hx ((List.pairwise_cons.mp ih).1 y hy)
theorem sortedS_pair {l : List Str} (h : sortedS l = true) : l.Pairwise (fun a b => leS a b = true) := by
  cases l with
  | nil => simp
  | cons x r => exact risingS_pair h
theorem sorted_one : ∀ {ys zs : List Str}, ys.Perm zs → ys.Pairwise (fun a b => leS a b = true) → zs.Pairwise (fun a b => leS a b = true) → ys = zs
  | [], zs, h, _, _ => (List.nil_perm.mp h).symm
  | y :: ys, [], h, _, _ => absurd (List.perm_nil.mp h) (by simp)
  | y :: ys, z :: zs, h, hy, hz => by
    have e : y = z := by
      have m1 : y ∈ z :: zs := h.mem_iff.mp List.mem_cons_self
      have m2 : z ∈ y :: ys := h.mem_iff.mpr List.mem_cons_self
      rcases List.mem_cons.mp m1 with e | m1
      · exact e
      · rcases List.mem_cons.mp m2 with e | m2
        · exact e.symm
        · exact leS_anti ((List.pairwise_cons.mp hy).1 z m2) ((List.pairwise_cons.mp hz).1 y m1)
    subst e
    rw [sorted_one (List.perm_cons y |>.mp h) (List.pairwise_cons.mp hy).2 (List.pairwise_cons.mp hz).2]
theorem srtS_eq {ks ys : List Str} (p : ys.Perm ks) (h : sortedS ys = true) : ys = srtS ks :=
  sorted_one (p.trans (List.mergeSort_perm ks leS).symm) (sortedS_pair h) (List.pairwise_mergeSort (le := leS) (fun a b c (h : leS a b = true) (k : leS b c = true) => leS_trans h k) leS_total ks)
def strKeys : List (Key × D) → Option (List Str)
  | [] => some []
  | kv :: r => match kv.1, strKeys r with
    | .inr x, some xs => some (x :: xs)
    | _, _ => none
theorem strKeys_eq : ∀ {kvs : List (Key × D)} {ks : List Str}, strKeys kvs = some ks → kvs.map (·.1) = ks.map Sum.inr
  | [], _, h => by cases h; rfl
  | kv :: r, _, h => by
    simp only [strKeys] at h
    split at h
    · rename_i x xs e1 e2
      cases h
      rw [List.map_cons, List.map_cons, e1, strKeys_eq e2]
    · cases h
/-- sorted(d), len(d) of a dict that is not written -/
def cbSortD : Cb := fun _ ds => match ds with
  | [.dic kvs] => match strKeys kvs with
    | some ks => if ks.length < 64 ∧ ks.all (fun x => decide (x.length ≤ sizeLine)) = true then some (.lst ((srtS ks).map .str)) else none
    | none => none
  | _ => none
def cbLenD : Cb := fun s ds => match ds with
  | [.dic kvs] => some (.int kvs.length)
  | ds => cbLen s ds
section
variable {X : Cx} {E : L2.St → XK} {pos p : Pos}
theorem strs_rel {w : Wd} {H : Hp} {c : Ct} : ∀ {xs : List Str}, (∀ x ∈ xs, x.length ≤ sizeLine) → RelDs w H c (xs.map .str) (xs.map V.str)
  | [], _ => .nil
  | x :: r, h => .cons (.str x (h x List.mem_cons_self)) (strs_rel fun y hy => h y (List.mem_cons_of_mem _ hy))
theorem cb_sortD (hc : X.calm = true) : CbM X (.builtin "sorted") cbSortD := by
  intro pins s σ H xs us Q I r h
  obtain ⟨c, ds, z, g, rd, hz, q⟩ := h
  unfold cbSortD at hz
  split at hz
  · rename_i kvs
    split at hz
    · rename_i ks e
      split at hz
      · rename_i cond
        cases hz
        cases rd with
        | cons r1 rn =>
          cases rn
          cases r1 with
          | @dic a _ vs hs nl rs =>
            have len : (kvs.map (·.1)).length = vs.length := by rw [List.length_map, ← rs.length, List.length_map]
            refine call_sortedD hc pins s σ H _ us Q I r ⟨a, _, ks, rfl, hs, ?_, cond.1, fun ys t pm sr ht => ?_⟩
            · rw [List.map_fst_zip (by omega), strKeys_eq e]
            · have ey := srtS_eq pm sr
              rw [ey]
              have ok : ∀ x ∈ srtS ks, x.length ≤ sizeLine := fun x hx => by
                have : x ∈ ks := pm.mem_iff.mp (by rw [ey]; exact hx)
                exact of_decide_eq_true (List.all_eq_true.mp cond.2 x this)
              exact q _ (Ext.fresh g ht) (g.fresh ht) _ (.lst ⟨upd_same, fun lv => nlv_of (H := H) g ht lv⟩ (strs_rel ok))
      · cases hz
    · cases hz
  · cases hz
theorem cb_lenD : CbM X (.builtin "len") cbLenD := by
  intro pins s σ H xs us Q I r h
  obtain ⟨c, ds, z, g, rd, hz, q⟩ := h
  unfold cbLenD at hz
  split at hz
  · rename_i kvs
    cases hz
    have here := q H (Ext.refl c H) g
    cases rd with
    | cons r1 rn =>
      cases rn
      cases r1 with
      | @dic a _ vs hs nl rs =>
        obtain ⟨u, rfl, rv⟩ := Vals.one r
        obtain rfl : u = Value.ref a := rv
        have len : ((kvs.map (·.1)).zip vs).length = kvs.length := by rw [List.length_zip, List.length_map, ← rs.length, List.length_map, Nat.min_self]
        refine d_len I hs fun t s' I' => ⟨.int _, H, I', ⟨t, rfl⟩, ?_⟩
        rw [len]
        exact here _ (.int _)
  · exact cb_len pins s σ H xs us Q I r ⟨c, ds, z, g, rd, hz, q⟩
/-- d[k], d a dict that is not written -/
def opDget : Op2 := fun _ d e => match d, keyOf e with
  | .dic kvs, some k => valD kvs k
  | _, _ => none
theorem me_dget {o i : Expr} {fo fi : ET} {k : Nat} (hr : RoomG k X.A) (ho : ME X E o fo) (hi : ME X E i fi) (hs : NoSl i) : ME X E (.Subscript o i pos) (mOp opDget fo fi) := by
  refine PE.imp (pe_dget (by have := hr.un; omega) ho hi hs) fun st H Q ⟨c, env, g, re, q⟩ => ?_
  refine ⟨c, env, g, re, (Fin.bind q).mono fun d c1 H1 e1 g1 q1 v rv => ?_⟩
  refine ⟨c1, env, g1, re.ext e1, (Fin.bind q1).mono fun d2 c2 H2 e2 g2 q2 v2 rv2 => ?_⟩
  have r1 := rv.ext e2
  cases z : opDget c2.S d d2 with
  | none => rw [z] at q2; exact q2.elim
  | some y =>
    rw [z] at q2
    unfold opDget at z
    split at z
    · rename_i kvs key ek
      cases r1 with
      | @dic a _ vs hs2 nl rs =>
        rcases KVD.val (k := key) (KVD.of rs) with ⟨n1, _⟩ | ⟨d3, v3, h1, h2, r3⟩
        · rw [n1] at z; cases z
        · rw [h1] at z
          cases z
          refine ⟨a, v3, rfl, .inl ⟨_, key, hs2, keyOf_ok rv2 ek, h2.symm⟩, q2.here g2 rfl _ r3⟩
    · cases z
end
end Mi
end
section
set_option maxRecDepth 100000
set_option maxHeartbeats 1000000
namespace Mi
open PySem PySem.Spec PyProof.Rows L2 StX Kw
theorem Fin.on {α : Type} {w : Wd} {E : XK} {c c1 : Ct} {H H1 : Hp} {r : R α} {k : α → Ct → Hp → Prop} (h : Fin w E c H r k) (e : Ext c H c1 H1) : Fin w E c1 H1 r k := by
  cases r with
  | no => exact h
  | ex x S => exact fun c' H' cls dd e' => h c' H' cls dd (e.trans e')
  | ok a S => exact fun c' H' e' => h c' H' (e.trans e')
theorem upd_upd {H : Hp} {p : Addr} {a b : HO} : upd (upd H p a) p b = upd H p b := by
  funext x
  by_cases e : x = p
  · rw [e, upd_same, upd_same]
  · rw [upd_ne e, upd_ne e, upd_ne e]
theorem keyed_zip {ks : List Str} {vs : List V} : keyed (ks.zip vs) = (ks.map Sum.inr).zip vs := by
  induction ks generalizing vs with
  | nil => rfl
  | cons k r ih =>
    cases vs with
    | nil => rfl
    | cons v t => rw [List.zip_cons_cons, List.map_cons, List.zip_cons_cons, ← ih]; rfl
/-- a new instance of the class nm, its dict of keywords kvs, then __init__'s mirror -/
def mkK (nm pa : Str) (F : FT) (kvs : List (Key × D)) (s : Sto) : R D := match strKeys kvs with
  | some ks => if ks.all (fun k => decide (k ≠ pa)) = true ∧ ks.length ≤ 1000 then (F [.ref s.length, .dic kvs] (s ++ [.ins true nm []])).quiet.bind fun v s2 => match v with
      | .non => .ok (.ref s.length) s2
      | _ => .no
    else .no
  | none => .no
def spK (w : Wd) (pa : Str) (F : FT) : SpK := fun vs kvs H Q E => ∃ v, vs = [v] ∧ (∀ kv ∈ kvs, kv.1 ≠ pa) ∧ (kvs.map (·.1)).Nodup ∧ kvs.length ≤ sizeLine ∧ ∀ d, H d = none → spM w F [v, .ref d] (upd H d (.dK (keyed kvs))) Q E
theorem mkK_spec {w : Wd} {E : XK} {nm pa : Str} {F : FT} {kvs : List (Key × D)} {c : Ct} {H : Hp} {C x dx : Addr} {vs : List V} {ks : List Str} {Q : VK} (g : Good w H c) (hC : w.mg nm = some (.ref C)) (rs : RelDs w H c (kvs.map (·.2)) vs) (ek : strKeys kvs = some ks)
    (q : Fin w E c H (mkK nm pa F kvs c.S) (fun d c' H' => ∀ v, RelD w H' c' d v → Q v H')) (nd : ((ks.zip vs).map (·.1)).Nodup) (hx : H x = none) (hdx : H dx = none) (hne : dx ≠ x) :
    spK w pa F [.ref x] (ks.zip vs) (upd (upd H dx (.own x)) x (.ins C dx [])) (fun v H2 => v = .non ∧ Q (.ref x) H2) E0 := by
  simp only [mkK, ek] at q
  split at q
  · rename_i cond
    have lks : ks.length = vs.length := by
      have := congrArg List.length (strKeys_eq ek)
      rw [List.length_map, List.length_map] at this
      rw [← this, ← rs.length, List.length_map]
    have sl : sizeLine = 16777216 := sizeLine_eq
    refine ⟨.ref x, rfl, fun kv hkv => ?_, nd, by rw [List.length_zip]; omega, fun d hd => ?_⟩
    · exact of_decide_eq_true (List.all_eq_true.mp cond.1 _ (List.of_mem_zip hkv).1)
    have g1 : Good w (upd H dx (.own x)) c := g.fresh hdx
    have e1 : Ext c H c (upd H dx (.own x)) := Ext.fresh g hdx
    have hx1 : upd H dx (.own x) x = none := by rw [upd_ne (Ne.symm hne)]; exact hx
    have e2 : Ext c (upd H dx (.own x)) (c.push x (.ins true nm [])) (upd (upd H dx (.own x)) x (.ins C dx [])) := Ext.pushed g1 hx1
    have g2 : Good w (upd (upd H dx (.own x)) x (.ins C dx [])) (c.push x (.ins true nm [])) := g1.pushed hx1 (.ins (fs := []) (vs := []) hC .nil)
    have e3 : Ext (c.push x (.ins true nm [])) _ (c.push x (.ins true nm [])) (upd (upd (upd H dx (.own x)) x (.ins C dx [])) d (.dK (keyed (ks.zip vs)))) := Ext.fresh g2 hd
    have g3 : Good w (upd (upd (upd H dx (.own x)) x (.ins C dx [])) d (.dK (keyed (ks.zip vs)))) (c.push x (.ins true nm [])) := g2.fresh hd
    have et := (e1.trans e2).trans e3
    refine ⟨c.push x (.ins true nm []), [.ref c.S.length, .dic kvs], g3, ?_, ?_⟩
    · have hp : (c.push x (.ins true nm [])).p[c.S.length]? = some x := by
        show (c.p ++ [x])[c.S.length]? = some x
        rw [← g.len]
        exact List.getElem?_concat_length
      refine .cons (.ref hp) (.cons (.dic (vs := vs) (.inl ?_) (nlv_of g2 hd) (rs.ext et)) .nil)
      rw [upd_same, strKeys_eq ek, keyed_zip]
    · have q2 := (Fin.bind (q.on et)).quiet (E' := E0)
      refine q2.mono fun y c2 H2 e4 g4 z u ru => ?_
      cases y with
      | non =>
        cases ru
        refine ⟨rfl, z.here g4 rfl _ (.ref ?_)⟩
        have hp : (c.push x (.ins true nm [])).p[c.S.length]? = some x := by
          show (c.p ++ [x])[c.S.length]? = some x
          rw [← g.len]
          exact List.getElem?_concat_length
        exact e4.p _ _ hp
      | _ => exact z.elim
  · exact q.elim
section
variable {X : Cx} {E : L2.St → XK} {pos p kp : Pos} {nm pa : Str} {F : FT} {C f : Addr} {k : Nat}
/-- C() -/
def mMk0 (nm pa : Str) (F : FT) : ET := fun _ s => mkK nm pa F [] s
theorem me_mk0 (M : Mk X.K C f) (G : FnK X.prog X.w X.K X.mg X.base CX0 k f (spK (Wx X) pa F)) (hr : RoomG (k + 1) X.A) (hg : Gl X nm) (hm : X.mg nm = some (.ref C)) (hdb : (nm == ("__debug__" : Str)) = false := by decide) :
    ME X E (.Call (.Name nm p) [] [] pos) (mMk0 nm pa F) := PE.imp (pe_makeK0 M G hr hg hm pass0 hdb) fun st H Q ⟨c, env, g, re, q⟩ => by
  intro x dx hx hdx hne
  exact mkK_spec (kvs := []) (ks := []) (vs := []) g hm .nil rfl q (by simp) hx hdx hne
/-- c(**d), c and d names: a class, a dict that is not written -/
def mMkV (nm pa : Str) (F : FT) (j i : Nat) : ET := fun env s => match env[j]?, env[i]? with
  | some (some (.cls nm')), some (some (.dic kvs)) => if nm' = nm then mkK nm pa F kvs s else .no
  | _, _ => .no
theorem me_mkV {x1 x2 : Str} {p1 p2 : Pos} {j i : Nat} (hj : PE X (.Name x1 p1) (tVar j)) (hi : PE X (.Name x2 p2) (tVar i)) (M : Mk X.K C f) (G : FnK X.prog X.w X.K X.mg X.base CX0 k f (spK (Wx X) pa F)) (hr : RoomG (k + 1) X.A) (hm : X.mg nm = some (.ref C))
    (ht : eval (.Call (.Name x1 p1) [] [⟨none, .Name x2 p2, kp⟩] pos) X.env = (do callWith pos (← eval (.Name x1 p1) X.env) [] (backTo pos (starEach [] X.env)) (backToKw pos (keywordEach [⟨none, .Name x2 p2, kp⟩] X.env))) := by rfl) :
    ME X E (.Call (.Name x1 p1) [] [⟨none, .Name x2 p2, kp⟩] pos) (mMkV nm pa F j i) := PE.imp (pe_makeDD hj M G hr pass0 hi ht) fun st H Q ⟨c, env, g, re, q⟩ => by
  unfold mMkV at q
  split at q
  · rename_i nm' kvs h1 h2
    split at q
    · rename_i en
      subst en
      obtain ⟨v1, hv1, r1⟩ := re.get j _ h1
      obtain ⟨v2, hv2, r2⟩ := re.get i _ h2
      cases r1 with
      | cls hC =>
        rw [show (Wx X).mg nm' = X.mg nm' from rfl, hm] at hC
        cases hC
        refine ⟨_, hv1, rfl, fun t ht0 => ⟨_, hv2, upd_same, ?_⟩⟩
        cases r2 with
        | @dic a _ vs hs nl rs =>
          cases ek : strKeys kvs with
          | none => simp only [mkK, ek] at q; exact q.elim
          | some ks =>
            have at' : a ≠ t := fun z => by
              subst z
              rcases hs with hs | ⟨o, hs⟩ <;> (rw [ht0] at hs; cases hs)
            have hrd : Rd (upd H t (.dK [])) a (.dK (keyed (ks.zip vs))) := by
              rw [keyed_zip, ← strKeys_eq ek]
              rcases hs with hs | ⟨o, hs⟩
              · exact .inl (by rw [upd_ne at']; exact hs)
              · exact .inr ⟨o, by rw [upd_ne at']; exact hs⟩
            refine ⟨a, ks.zip vs, rfl, at', hrd, fun nd x dx hx hdx hne => ?_⟩
            rw [upd_upd] at hx hdx ⊢
            exact mkK_spec (g.fresh ht0) hm (rs.ext (Ext.fresh g ht0)) ek (q.on (Ext.fresh g ht0)) nd hx hdx hne
    · exact q.elim
  · exact q.elim
end
end Mi
end
section
set_option maxRecDepth 100000
set_option maxHeartbeats 1000000
namespace Mi
open PySem PySem.Spec PyProof.Rows L2 StX Kw
/-! ### fields -/
abbrev FVD (w : Wd) (H : Hp) (c : Ct) : List (Str × D) → List (Str × V) → Prop := Paired fun p q => p.1 = q.1 ∧ RelD w H c p.2 q.2
theorem FVD.of {w : Wd} {H : Hp} {c : Ct} : ∀ {fs : List (Str × D)} {vs : List V}, RelDs w H c (fs.map (·.2)) vs → FVD w H c fs ((fs.map (·.1)).zip vs)
  | [], _, .nil => .nil
  | kv :: r, _, .cons h t => .cons ⟨rfl, h⟩ (FVD.of t)
theorem FVD.to {w : Wd} {H : Hp} {c : Ct} : ∀ {fs : List (Str × D)} {ks : List (Str × V)}, FVD w H c fs ks → ∃ vs, ks = (fs.map (·.1)).zip vs ∧ RelDs w H c (fs.map (·.2)) vs
  | [], _, .nil => ⟨[], rfl, .nil⟩
  | kv :: r, _, .cons (b := b) h t => by
    obtain ⟨vs, e, rs⟩ := FVD.to t
    obtain ⟨b1, b2⟩ := b
    have h1 : kv.1 = b1 := h.1
    exact ⟨b2 :: vs, by rw [List.map_cons, List.zip_cons_cons, ← e, h1], .cons h.2 rs⟩
theorem FVD.tw {w : Wd} {H H' : Hp} {c c' : Ct} (e : Tw c H c' H') : ∀ {fs : List (Str × D)} {ks : List (Str × V)}, FVD w H c fs ks → FVD w H' c' fs ks
  | _, _, .nil => .nil
  | _, _, .cons h t => .cons ⟨h.1, h.2.tw e⟩ (FVD.tw e t)
def putFD (f : Str) (v : D) : List (Str × D) → List (Str × D)
  | [] => [(f, v)]
  | (g, x) :: r => if g = f then (g, v) :: r else (g, x) :: putFD f v r
theorem FVD.put {w : Wd} {H : Hp} {c : Ct} {f : Str} {d : D} {v : V} (r : RelD w H c d v) : ∀ {fs : List (Str × D)} {ks : List (Str × V)}, FVD w H c fs ks → FVD w H c (putFD f d fs) (putF f v ks)
  | _, _, .nil => .cons ⟨rfl, r⟩ .nil
  | _, _, .cons (a := a) (b := b) h t => by
    obtain ⟨a1, a2⟩ := a
    obtain ⟨b1, b2⟩ := b
    have h1 : a1 = b1 := h.1
    subst h1
    simp only [putFD, putF]
    split
    · exact .cons ⟨rfl, r⟩ t
    · exact .cons h (FVD.put r t)
theorem FVD.get {w : Wd} {H : Hp} {c : Ct} {f : Str} {d : D} : ∀ {fs : List (Str × D)} {ks : List (Str × V)}, FVD w H c fs ks → fs.lookup f = some d → ∃ v, ks.lookup f = some v ∧ RelD w H c d v
  | _, _, .nil, e => by cases e
  | _, _, .cons (a := a) (b := b) h t, e => by
    obtain ⟨a1, a2⟩ := a
    obtain ⟨b1, b2⟩ := b
    have h1 : a1 = b1 := h.1
    subst h1
    rw [List.lookup_cons] at e ⊢
    cases q : f == a1 with
    | true => rw [q] at e; cases e; exact ⟨b2, rfl, h.2⟩
    | false => rw [q] at e; exact FVD.get t e
theorem FVD.length {w : Wd} {H : Hp} {c : Ct} {fs : List (Str × D)} {ks : List (Str × V)} (h : FVD w H c fs ks) : fs.length = ks.length := Paired.length h
/-- o.f = e, o an instance of the class nm that may be written -/
def sSetF (nm f : Str) (fv fo : ET) : SM := fun env s => (fv env s).st env fun v s1 => (fo env s1).st env fun o s2 => match o with
  | .ref n => match s2[n]? with
    | some (.ins true nm' fs) => if nm' = nm ∧ fs.length < 1000 then .fl (.nx env) (s2.set n (.ins true nm (putFD f v fs))) else .no
    | _ => .no
  | _ => .no
/-- o.f, an instance of the class nm -/
def fldD (nm f : Str) (s : Sto) (d : D) : Option D := match d with
  | .ref n => match s[n]? with
    | some (.ins _ nm' fs) => if nm' = nm then fs.lookup f else none
    | _ => none
  | .ins nm' fs => if nm' = nm then fs.lookup f else none
  | _ => none
section
variable {X : Cx} {E : L2.St → XK} {pos p ap : Pos} {nm f : Str} {C : Addr} {fa fv fo : ET} {o e : Expr}
theorem ms_setF (he : ME X E e fv) (ho : ME X E o fo) (hm : X.mg nm = some (.ref C)) (hC : Cls X.K C) (hN : NoAttr X.K C f) (hs : swapsWith e (some (.Attribute o f ap)) pos.line X.env = pure false := by rfl) :
    MS X E (.Assign [.Attribute o f ap] e pos) (sSetF nm f fv fo) := PS.imp (ps_fld ho he hs) fun En st H ⟨c, env, g, re, q⟩ => by
  refine ⟨c, env, g, re, (FinS.of_st re q).mono fun d c1 H1 e1 g1 q1 v rv => ?_⟩
  refine ⟨c1, env, g1, re.ext e1, (FinS.of_st (re.ext e1) q1).mono fun d2 c2 H2 e2 g2 q2 v2 rv2 => ?_⟩
  split at q2
  · rename_i n
    split at q2
    · rename_i nm' fs zx
      split at q2
      · rename_i cond
        obtain ⟨en, hl⟩ := cond
        subst en
        cases rv2 with
        | @ref _ a hn =>
          obtain ⟨ho2, hq, ro⟩ := g2.obj n a _ hn zx
          cases ro with
          | @ins _ C' dx _ _ vs hm' rs =>
            rw [show (Wx X).mg nm' = X.mg nm' from rfl, hm] at hm'
            cases hm'
            have fv0 := FVD.of rs
            refine ⟨a, C, dx, _, rfl, hq, hC, hN, by rw [← FVD.length fv0]; exact hl, ?_⟩
            obtain ⟨vs2, e3, rs3⟩ := FVD.to (FVD.put (f := f) (rv.ext e2) fv0)
            rw [e3]
            have ex : Ext c2 H2 (c2.put n (.ins true nm' (putFD f d fs))) (upd H2 a (.ins C dx (((putFD f d fs).map (·.1)).zip vs2))) := Ext.wrote g2 hn zx rfl
            exact q2 (c2.put n (.ins true nm' (putFD f d fs))) _ ex (g2.wrote hn zx rfl (.ins hm (rs3.ext ex))) rfl st (((re.ext e1).ext e2).ext ex)
      · exact q2.elim
    · exact q2.elim
  · exact q2.elim
theorem me_fld (ho : ME X E o fa) (hm : X.mg nm = some (.ref C)) (hC : Cls X.K C) (hN : NoAttr X.K C f) (hb : attributeBase o f X.env (eval o X.env) = eval o X.env := by rfl) : ME X E (.Attribute o f pos) (mUn (fldD nm f) fa) := by
  refine PE.imp (pe_fld ho hb) fun st H Q ⟨c, env, g, re, q⟩ => ?_
  refine ⟨c, env, g, re, (Fin.bind q).mono fun d c1 H1 e1 g1 q1 v rv => ?_⟩
  cases z : fldD nm f c1.S d with
  | none => rw [z] at q1; exact q1.elim
  | some y =>
    rw [z] at q1
    unfold fldD at z
    split at z
    · rename_i n
      split at z
      · rename_i m nm' fs zx
        split at z
        · rename_i en
          subst en
          cases rv with
          | @ref _ a hn =>
            obtain ⟨ho2, hq, ro⟩ := g1.obj n a _ hn zx
            cases ro with
            | @ins _ C' dx _ _ vs hm' rs =>
              rw [show (Wx X).mg nm' = X.mg nm' from rfl, hm] at hm'
              cases hm'
              obtain ⟨v2, hv2, r2⟩ := FVD.get (FVD.of rs) z
              exact ⟨a, C, dx, _, v2, rfl, hq, hC, hN, hv2, q1.here g1 rfl _ r2⟩
        · cases z
      · cases z
    · rename_i nm' fs
      split at z
      · rename_i en
        subst en
        cases rv with
        | @ins a C' dx _ _ vs hq hm' nl rs =>
          rw [show (Wx X).mg nm' = X.mg nm' from rfl, hm] at hm'
          cases hm'
          obtain ⟨v2, hv2, r2⟩ := FVD.get (FVD.of rs) z
          exact ⟨a, C, dx, _, v2, rfl, hq, hC, hN, hv2, q1.here g1 rfl _ r2⟩
      · cases z
    · cases z
end
/-! ### a def with keywords keeps its mirror -/
section
variable {P : Program} {w : World} {K : PySem.W.Frag} {mg : Str → Option Value} {base : Heap}
theorem body_mir {N : List Str} {n : Nat} {Xc : Cx} {sts : List Stmt} {body : SM} {vs : List V} {H : Hp} {Q : VK} {E : XK} (hX : Xc.K = K) (hm : Xc.mg = mg) (h : spM ⟨K, mg⟩ (mFun N.length n body) vs H Q E) (_hb : MSs Xc E00 sts body) :
    tMS ⟨K, mg⟩ E00 body { nx := fun _ H' => Q .non H', rt := Q } (start N vs) H := by
  obtain ⟨c, ds, g, r, q⟩ := h
  by_cases e : ds.length = n
  · refine ⟨c, _, g, r.start N, ?_⟩
    rw [mFun, if_pos e] at q
    rw [← e] at q
    cases z : body (ds.map some ++ List.replicate (N.length - ds.length) none) c.S with
    | no => rw [z] at q; exact q.elim
    | ex x en S1 => rw [z] at q; exact fun c' H' cls dd st' e' g' s' re' rx => q c' H' cls dd e' g' s' rx
    | fl fl S1 =>
      rw [z] at q
      intro c1 H1 e1 g1 s1
      cases fl with
      | nx en => exact fun st' re' => q c1 H1 e1 g1 s1 _ .non
      | rt d => exact fun v rv => q c1 H1 e1 g1 s1 v rv
      | bk en => exact q.elim
      | ct en => exact q.elim
  · rw [mfun_len e (d := .non) (s' := [])] at q; exact q.elim
theorem fn_mirK {x qual : Str} {st : Stmt} {f : Addr} {oc : Value} {od an : Option Addr} {osl : Array (Option Value)} {kV doc pm cdv ct : Value} {N : List Str} {k : Nat} {body : SM} {pa pk : Arg}
    (lk : K.lookup f = some ⟨oc, od, .func (PySem.W.fnOf x qual (defArgs st) (defBody st) (defScope st) .none kV doc pm an cdv ct), osl⟩) (hcd : PySem.W.codeIn K cdv qual = true) (S : FnScope N [pa.arg, pk.arg] (defScope st))
    (hp : defArgs st = { posonlyargs := [], args := [pa], vararg := none, kwonlyargs := [], kw_defaults := [], kwarg := some pk, defaults := [] })
    (hb : ∀ (A : Around) (outer : List PySem.Env) (s : Shared) (H : Hp) (E : XK), RoomG k (A.deeper (envOfC qual (defScope st) s.heap.objs.size f cdv)) →
      MSs (cxOf CX0 P w K mg base N qual (defScope st) f cdv A outer s H E).nox E00 (defBody st) body) : FnK P w K mg base CX0 (k + 1) f (spK ⟨K, mg⟩ pa.arg (mFun N.length 2 body)) :=
  fn_kw1 (sp := spM ⟨K, mg⟩ (mFun N.length 2 body)) lk hcd S cxUp_none hp fun A outer s H vs Q E hr h => ⟨_, (hb A outer s H E hr).nox, body_mir rfl rfl h (hb A outer s H E hr)⟩
end
end Mi
end
section
set_option maxRecDepth 100000
set_option maxHeartbeats 1000000
namespace Mi
open PySem PySem.Spec PyProof.Rows L2 StX Kw ClX
section
variable {X : Cx} {CX : CXT} {k : Nat} {C p g : Addr} {mc : Value} {sp : Sp} {o e : Expr} {es : List Expr} {m : Str} {pos apos : Pos} {ta : TE} {t : TA} {pl : Sem Bool} {fd : FuncData} {ps : List Str}
theorem code_fnG {E : XK} {pins : List (Addr × Obj)} {σ : L2.St} {H : Hp} {s : Shared} {Q : VK} {us : List Value} {vs : List V} (F : FnG X.prog X.w X.K X.mg X.base CX k g fd ps sp) (hr : RoomG k X.A) (hb : Binds X.K fd ps []) (hx : Passes CX X E)
    (I : Inv X pins σ H s) (r : Vals vs us) (h : sp vs H Q E) :
    codeAny (model X.prog X.w) X.A (.call (.ref g) ⟨us, []⟩) (fun r s' => match r with | .ok (.ret v) => EP X pins σ Q v s' | .ok _ => False | .error e => X.xe e s') s := by
  have hl : (us ++ []).length = ps.length := by rw [List.append_nil]; exact r.length.symm.trans (F.len _ _ _ _ h)
  have hb2 := hb s us I.kIn hl
  rw [List.append_nil] at hb2
  refine codeAny_mono (F.run X.A X.stack s H ⟨us, []⟩ _ _ Q E hr I.env0 hb2 r h) fun res s2 y => ?_
  cases res with
  | error x => exact hx pins σ H s x s2 I y
  | ok fl =>
    cases fl with
    | ret u => exact I.after y
    | next => exact y.elim
    | brk => exact y.elim
    | cont => exact y.elim
theorem pe_cmG {E : XK} (he : PE X o ta) (r : CRead X.K C mc) (c : CMet X.K C mc m p g) (F : FnG X.prog X.w X.K X.mg X.base CX k g fd ps sp) (hr : RoomG k X.A) (hb : Binds X.K fd ps []) (hx : Passes CX X E) (ha : PA X (e :: es) t)
    (hst : starEach (e :: es) X.env = (false, eval e X.env) :: starEach es X.env := by rfl) (hpl : (backTo pos (starEach es X.env)).any (·.1) = false := by rfl)
    (ht : eval (.Call (.Attribute o m apos) (e :: es) [] pos) X.env = (do
      let ov ← eval o X.env
      standAt apos.atName
      let (f, first) ← holding [ov] (getMethod ov m pl)
      callWith pos f first (backTo pos (starEach (e :: es) X.env)) (backToKw pos (keywordEach [] X.env))) := by rfl) :
    PE X (.Call (.Attribute o m apos) (e :: es) [] pos) (tCMeth C sp E ta t) := by
  refine ⟨fun pins s σ H Q I h => PySem.W.methodCall_KW (pl := pl) (thn (he.run pins s σ H _ I h) fun u s1 ⟨x, H1, I1, rx, ex, q⟩ => ?_) ht⟩
  subst ex
  obtain rfl : u = Value.ref C := rx
  refine getmethcm_ok I1 r c fun s2 I2 => callwith_cm I2 (base_none I1 (Nat.le_refl _)) c.fi (thn (ha.run pos _ s2 σ H1 _ I2 q) fun us s3 z => ?_) hst hpl
  obtain ⟨vs, H2, I3, rv, q2⟩ := z
  refine ⟨⟨pin_at I3, I3.kIn⟩, thn (wpAny_call (PySem.W.method_call (pin_at I3) (code_fnG (us := .ref C :: us) (vs := .ref C :: vs) F hr hb hx I3 (.cons rfl rv) q2))) fun _ _ y => unpinE y⟩
end
/-- C.m(..), m a classmethod of the class nm -/
def mCm (nm : Str) (F : FT) (fs : AT) : ET := fun env s => (fs env s).bind fun ds s1 => (F (.cls nm :: ds) s1).quiet
section
variable {X : Cx} {E : L2.St → XK} {k : Nat} {C p g : Addr} {mc : Value} {a e : Expr} {es : List Expr} {m nm : Str} {pos apos p1 : Pos} {pl : Sem Bool} {fd : FuncData} {ps : List Str} {F : FT} {fs : AT} {fa : ET}
theorem me_cm (hg : Gl X nm) (hm : X.mg nm = some (.ref C)) (r : CRead X.K C mc) (c : CMet X.K C mc m p g) (G : FnG X.prog X.w X.K X.mg X.base CX0 k g fd ps (spM (Wx X) F)) (hr : RoomG k X.A) (hb : Binds X.K fd ps []) (ha : MA X E (a :: es) fs)
    (hdb : (nm == ("__debug__" : Str)) = false := by decide)
    (hst : starEach (a :: es) X.env = (false, eval a X.env) :: starEach es X.env := by rfl) (hpl : (backTo pos (starEach es X.env)).any (·.1) = false := by rfl)
    (ht : eval (.Call (.Attribute (.Name nm p1) m apos) (a :: es) [] pos) X.env = (do
      let ov ← eval (.Name nm p1) X.env
      standAt apos.atName
      let (f, first) ← holding [ov] (getMethod ov m pl)
      callWith pos f first (backTo pos (starEach (a :: es) X.env)) (backToKw pos (keywordEach [] X.env))) := by rfl) :
    ME X E (.Call (.Attribute (.Name nm p1) m apos) (a :: es) [] pos) (mCm nm F fs) := by
  refine PE.imp (pe_cmG (pl := pl) (pe_glob (v := .ref C) hg hm rfl hdb) r c G hr hb pass0 ha hst hpl ht) fun st H Q ⟨c, env, g, re, q⟩ => ?_
  refine ⟨rfl, c, env, g, re, (Fin.bind q).mono fun ds c1 H1 e1 g1 q1 vs rvs => ?_⟩
  exact ⟨c1, .cls nm :: ds, g1, .cons (.cls hm) rvs, q1.quiet⟩
end
/-! ### isinstance, of instances too -/
structure ClF (K : PySem.W.Frag) (mg : Str → Option Value) (nm : Str) (C : Addr) : Prop where
  mgx : mg nm = some (.ref C)
  cl : Cls K C
  ca : PySem.W.findIn K (.ref C) "__class__" = some (some (.builtin "object.__class__"))
  cg : PySem.W.specialIn K (.builtin "object.__class__") "__get__" = some (some (.builtin "getset_descriptor.__get__"))
  ct : PySem.W.takesIn K (.builtin "object.__class__") = some true
  cm : PySem.W.mroIn K C (.type "object") = some true
def clsD (s : Sto) : D → Option Str
  | .ref n => match s[n]? with
    | some (.ins _ nm _) => some nm
    | _ => none
  | .ins nm _ => some nm
  | _ => none
def isiX (nm : Str) (T : String) (s : Sto) (d : D) : Option D := match clsD s d with
  | some nm' => if nm' = nm then some (.bl false) else none
  | none => isiD T s d
theorem clsD_ok {w : Wd} {H : Hp} {c : Ct} {d : D} {v : V} {nm : Str} {C : Addr} (g : Good w H c) (r : RelD w H c d v) (h : clsD c.S d = some nm) (F : ClF w.K w.mg nm C) : TyX w.K H v (.ref C) := by
  cases r with
  | @ref n a hn =>
    simp only [clsD] at h
    split at h
    · rename_i m nm' fs e
      cases h
      obtain ⟨ho, q, ro⟩ := g.obj n a _ hn e
      cases ro with
      | ins hm rs =>
        rw [F.mgx] at hm
        cases hm
        exact .base (.ins q F.cl F.ca F.cg F.ct F.cm)
    · cases h
  | ins hq hm nl rs =>
    cases h
    rw [F.mgx] at hm
    cases hm
    exact .base (.ins hq F.cl F.ca F.cg F.ct F.cm)
  | _ => simp [clsD] at h
section
variable {X : Cx} {E : L2.St → XK} {a : Expr} {pos p p2 : Pos} {fa : ET} {nm : Str} {C : Addr} {T : String} {x y : Str}
theorem me_isiX (F : ClF X.K X.mg nm C) (kt : PySem.W.kitOne X.K (.ref C) (.type T) = some false) (hg : Gl X x) (hm : X.mg x = none) (hv : bootBuiltins x = some (.builtin "isinstance")) (hg2 : Gl X y) (hm2 : X.mg y = none) (hv2 : bootBuiltins y = some (.type T)) (ha : ME X E a fa)
    (hn : x ≠ "__name__" := by decide) (hdb : (x == ("__debug__" : Str)) = false := by decide) (hn2 : y ≠ "__name__" := by decide) (hdb2 : (y == ("__debug__" : Str)) = false := by decide)
    (he : starEach [a, .Name y p2] X.env = (false, eval a X.env) :: starEach [.Name y p2] X.env := by rfl) (he2 : starEach [.Name y p2] X.env = (false, eval (.Name y p2) X.env) :: starEach [] X.env := by rfl)
    (hpl : (backTo pos (starEach [.Name y p2] X.env)).any (·.1) = false := by rfl) : ME X E (.Call (.Name x p) [a, .Name y p2] [] pos) (mUn (isiX nm T) fa) := by
  refine PE.imp (pe_callB call_isi hg hm hv (pa_cons ha (pa_cons (pe_bltn (v := .ty T) hg2 hm2 hv2 rfl hn2 hdb2) pa_nil he2) he) hn hdb he hpl) fun st H Q ⟨c, env, g, re, q⟩ => ?_
  refine ⟨c, env, g, re, (Fin.bind q).mono fun d c1 H1 e1 g1 q1 v rv => ?_⟩
  show rIsi X.K [v, .ty T] H1 Q
  cases z0 : clsD c1.S d with
  | some nm' =>
    simp only [isiX, z0] at q1
    by_cases en : nm' = nm
    · subst en
      rw [if_pos rfl] at q1
      exact ⟨v, .ty T, .ref C, .type T, false, rfl, .ty T, clsD_ok g1 rv z0 F, kt, q1.here g1 rfl _ (.bl false)⟩
    · rw [if_neg en] at q1; exact q1.elim
  | none =>
    cases z : tyName c1.S d with
    | none => simp only [isiX, isiD, z0, z] at q1; exact q1.elim
    | some n =>
      cases z2 : kitB n T with
      | none => simp only [isiX, isiD, z0, z, z2] at q1; exact q1.elim
      | some b =>
        simp only [isiX, isiD, z0, z, z2] at q1
        exact ⟨v, .ty T, .type n, .type T, b, rfl, .ty T, tyName_ok g1 rv z, kit_ty z2, q1.here g1 rfl _ (.bl b)⟩
end
/-! ### lists that may be written: a + b as a new one, append -/
def mAddR (fa fb : ET) : ET := fun env s => (fa env s).bind fun d s1 => (fb env s1).bind fun e s2 => match asL s2 d, asL s2 e with
  | some xs, some ys => if xs.length + ys.length ≤ sizeLine then .ok (.ref s2.length) (s2 ++ [.lst true (xs ++ ys)]) else .no
  | _, _ => .no
def mApp (fo fv : ET) : ET := fun env s => (fo env s).bind fun o s1 => match o with
  | .ref n => match s1[n]? with
    | some (.lst true _) => (fv env s1).bind fun v s2 => match s2[n]? with
      | some (.lst true xs) => if xs.length < sizeLine then .ok .non (s2.set n (.lst true (xs ++ [v]))) else .no
      | _ => .no
    | _ => .no
  | _ => .no
section
variable {X : Cx} {E : L2.St → XK} {a b : Expr} {pos apos : Pos} {fa fb : ET}
theorem me_app (ho : ME X E b fa) (ha : ME X E a fb)
    (hbase : attributeBase b "append" X.env (eval b X.env) = eval b X.env := by rfl)
    (hfew : ((backTo pos (starEach [a] X.env)).all (fun x => !x.1) && (backToKw pos (keywordEach [] X.env)).all (fun x => x.1.isSome)
      && decide ([a].length + ([] : List Keyword).length + (if ([] : List Keyword).isEmpty then 0 else 1) < 30)) = true := by rfl)
    (hline : (apos.endLine == pos.line) = true := by rfl) (hs : starEach [a] X.env = (false, eval a X.env) :: starEach [] X.env := by rfl) (hplain : (backTo pos (starEach [] X.env)).any (·.1) = false := by rfl) :
    ME X E (.Call (.Attribute b "append" apos) [a] [] pos) (mApp fa fb) := PE.imp (pe_bm PySem.F.plainAttrs_list PySem.F.slot_list_append PySem.F.type_list_append mt_append ho (pa_cons ha pa_nil hs) hbase hfew hline hs hplain) fun st H Q ⟨c, env, g, re, q⟩ => by
  refine ⟨c, env, g, re, (Fin.bind q).mono fun d c1 H1 e1 g1 q1 v rv => ?_⟩
  split at q1
  · rename_i n
    split at q1
    · rename_i zs z1
      cases rv with
      | @ref _ l hn =>
        obtain ⟨ho1, hq1, ro1⟩ := g1.obj n l _ hn z1
        cases ro1 with
        | @lst _ _ vs1 rs1 =>
          refine ⟨.inl ⟨rfl, vs1, .inl (.inl hq1)⟩, c1, env, g1, re.ext e1, (Fin.bind q1).mono fun y c2 H2 e2 g2 q2 u ru => ?_⟩
          split at q2
          · rename_i xs z2
            split at q2
            · rename_i hl
              have hn2 := e2.p _ _ hn
              obtain ⟨ho2, hq2, ro2⟩ := g2.obj n l _ hn2 z2
              cases ro2 with
              | @lst _ _ vs2 rs2 =>
                refine ⟨l, vs2, u, rfl, rfl, hq2, by rw [← rs2.length]; exact hl, ?_⟩
                have ex : Ext c2 H2 (c2.put n (.lst true (xs ++ [y]))) (upd H2 l (.lst (vs2 ++ [u]))) := Ext.wrote g2 hn2 z2 rfl
                exact q2 (c2.put n (.lst true (xs ++ [y]))) _ ex (g2.wrote hn2 z2 rfl (.lst ((rs2.append (.cons ru .nil)).ext ex))) rfl _ .non
            · exact q2.elim
          · exact q2.elim
    · exact q1.elim
  · exact q1.elim
/-- xs + ys, a new list that may be written -/
theorem me_addR (ha : ME X E a fa) (hb : ME X E b fb) : ME X E (.BinOp a .Add b pos) (mAddR fa fb) := by
  refine PE.imp (pe_op op_cat ha hb) fun st H Q ⟨c, env, g, re, q⟩ => ?_
  refine ⟨c, env, g, re, (Fin.bind q).mono fun d c1 H1 e1 g1 q1 v rv => ?_⟩
  refine ⟨c1, env, g1, re.ext e1, (Fin.bind q1).mono fun y c2 H2 e2 g2 q2 u ru => ?_⟩
  have r1 := rv.ext e2
  split at q2
  · rename_i xs ys z1 z2
    split at q2
    · rename_i hl
      obtain ⟨l, vs, rfl, hq1, rs1⟩ := asL_ok g2 r1 z1
      obtain ⟨l2, us, rfl, hq2, rs2⟩ := asL_ok g2 ru z2
      refine ⟨l, l2, vs, us, rfl, rfl, hq1, hq2, by rw [← rs1.length, ← rs2.length]; exact hl, fun p hp => ?_⟩
      exact q2 (c2.push p (.lst true (xs ++ ys))) _ (Ext.pushed g2 hp) (g2.pushed hp (.lst ((rs1.append rs2).ext (Ext.pushed g2 hp)))) rfl _ (ref_new g2)
    · exact q2.elim
  · exact q2.elim
end
end Mi
end
section
set_option maxRecDepth 100000
set_option maxHeartbeats 1000000
namespace Mi
open PySem PySem.Spec PyProof.Rows L2 StX Kw ClX
/-- {'k': e} -/
def mDic1 (x : Str) (fv : ET) : ET := fun env s => (fv env s).bind fun v s2 => .ok (.dic [(.inr x, v)]) s2
section
variable {X : Cx} {E : L2.St → XK} {e : Expr} {pos cp : Pos} {fv : ET} {x : Str} {j : Nat}
theorem me_dic1 (he : ME X E e fv) (hne : ∀ env s y S, fv env s ≠ .ex y S) : ME X E (.Dict [some (.Constant (.str x) j cp)] [e] pos) (mDic1 x fv) := by
  refine PE.imp (pe_disp (pps_cons pe_str he pps_nil) rfl rfl (by simp) (by simp)) fun st H Q ⟨c, env, g, re, q⟩ => ?_
  intro p hp
  cases zf : fv env c.S with
  | no => simp only [mDic1, zf] at q; exact q.elim
  | ex y S => exact absurd zf (hne env c.S y S)
  | ok d S =>
    simp only [mDic1, zf, bind_ok] at q
    refine ⟨c.gh p, env, g.gh hp, re.tr (Tr.gh hp), ?_⟩
    show Fin _ _ _ _ (fv env c.S) _
    rw [zf]
    intro c1 H1 e1 g1 s1 v rv
    have gs1 : c1.gs = p :: c.gs := e1.gs
    have mem : p ∈ c1.gs := by rw [gs1]; exact List.mem_cons_self
    have sub : ∀ b ∈ c.gs, b ∈ c1.gs := fun b hb => by rw [gs1]; exact List.mem_cons_of_mem _ hb
    refine ⟨by rw [e1.gk p (show p ∈ p :: c.gs from List.mem_cons_self), upd_same], [(.inr x, v)], rfl, by simp, ?_⟩
    have nl : ¬ Lv (c1.ug c.gs) p := by
      rintro (⟨n, o, en, _, _⟩ | h)
      · exact (g1.gst p mem).2 (List.mem_of_getElem? (show c1.p[n]? = some p from en))
      · exact g.gne hp (show p ∈ c.gs from h) rfl
    have sub2 : ∀ b ∈ c.gs, b ∈ c1.gs := sub
    have t2 : Tr c1 H1 (c1.ug c.gs) (upd H1 p (.dK [(.inr x, v)])) := (Tr.grow mem).trans (Tr.ug sub2)
    have ex : Ext c H (c1.ug c.gs) (upd H1 p (.dK [(.inr x, v)])) := ⟨((Tr.gh hp).trans e1.toTr).trans t2, rfl, fun b hb => by
      have bp : b ≠ p := g.gne hp hb
      rw [upd_ne bp, e1.gk b (List.mem_cons_of_mem _ hb), upd_ne bp]⟩
    exact q _ _ ex ((g1.grow mem).ug sub2) s1 _ (.dic (vs := [v]) (.inl upd_same) nl (.cons (rv.tr t2) .nil))
end
end Mi
end
section
set_option maxRecDepth 100000
set_option maxHeartbeats 1000000
namespace Mi
open PySem L2
/-! ### a calculus of what a mirror reaches -/
def Wp {α : Type} (r : R α) (Q : α → Sto → Prop) : Prop := match r with
  | .ok a s => Q a s
  | _ => False
def WpS (r : SR) (Q : Fl → Sto → Prop) : Prop := match r with
  | .fl f s => Q f s
  | _ => False
section
variable {α β : Type} {r : R α} {Q Q' : α → Sto → Prop} {s : Sto} {env : Env}
@[simp] theorem Wp_ok {a : α} : Wp (.ok a s) Q = Q a s := rfl
@[simp] theorem Wp_no : Wp (.no : R α) Q = False := rfl
@[simp] theorem Wp_ex {x : Xn} : Wp (.ex x s : R α) Q = False := rfl
@[simp] theorem Wp_bind {g : α → Sto → R β} {Q : β → Sto → Prop} : Wp (r.bind g) Q = Wp r fun a s => Wp (g a s) Q := by cases r <;> rfl
@[simp] theorem Wp_quiet : Wp r.quiet Q = Wp r Q := by cases r <;> rfl
theorem Wp.mono (h : Wp r Q) (i : ∀ a s, Q a s → Q' a s) : Wp r Q' := by
  cases r with
  | ok a s => exact i a s h
  | ex x s => exact h
  | no => exact h
theorem Wp.out (h : Wp r Q) : ∃ a s, r = .ok a s ∧ Q a s := by
  cases r with
  | ok a s => exact ⟨a, s, rfl, h⟩
  | ex x s => exact h.elim
  | no => exact h.elim
theorem Wp_ite {c : Prop} [Decidable c] {r' : R α} : Wp (if c then r else r') Q = if c then Wp r Q else Wp r' Q := by split <;> rfl
theorem WpS.mono {r : SR} {Q Q' : Fl → Sto → Prop} (h : WpS r Q) (i : ∀ a s, Q a s → Q' a s) : WpS r Q' := by
  cases r with
  | fl a s => exact i a s h
  | ex x e s => exact h
  | no => exact h
@[simp] theorem WpS_fl {f : Fl} {Q : Fl → Sto → Prop} : WpS (.fl f s) Q = Q f s := rfl
@[simp] theorem WpS_no {Q : Fl → Sto → Prop} : WpS .no Q = False := rfl
@[simp] theorem WpS_st {r : R D} {g : D → Sto → SR} {Q : Fl → Sto → Prop} : WpS (r.st env g) Q = Wp r fun d s => WpS (g d s) Q := by cases r <;> rfl
@[simp] theorem WpS_bt {r : R Bool} {g : Bool → Sto → SR} {Q : Fl → Sto → Prop} : WpS (r.bt env g) Q = Wp r fun d s => WpS (g d s) Q := by cases r <;> rfl
@[simp] theorem WpS_lt {r : R (List D)} {g : List D → Sto → SR} {Q : Fl → Sto → Prop} : WpS (r.lt env g) Q = Wp r fun d s => WpS (g d s) Q := by cases r <;> rfl
@[simp] theorem WpS_it {r : R (List D × (Sto → Prop))} {g : List D × (Sto → Prop) → Sto → SR} {Q : Fl → Sto → Prop} : WpS (r.it env g) Q = Wp r fun d s => WpS (g d s) Q := by cases r <;> rfl
/-- behind a statement -/
def Nx (g : Env → Sto → Prop) (Q : Fl → Sto → Prop) : Fl → Sto → Prop := fun f s => match f with
  | .nx e => g e s
  | f => Q f s
@[simp] theorem Nx_nx {g : Env → Sto → Prop} {Q : Fl → Sto → Prop} {e : Env} : Nx g Q (.nx e) s = g e s := rfl
@[simp] theorem Nx_rt {g : Env → Sto → Prop} {Q : Fl → Sto → Prop} {d : D} : Nx g Q (.rt d) s = Q (.rt d) s := rfl
@[simp] theorem Nx_bk {g : Env → Sto → Prop} {Q : Fl → Sto → Prop} {d : Env} : Nx g Q (.bk d) s = Q (.bk d) s := rfl
@[simp] theorem Nx_ct {g : Env → Sto → Prop} {Q : Fl → Sto → Prop} {d : Env} : Nx g Q (.ct d) s = Q (.ct d) s := rfl
@[simp] theorem WpS_then {r : SR} {g : Env → Sto → SR} {Q : Fl → Sto → Prop} : WpS (r.then g) Q = WpS r (Nx (fun e s => WpS (g e s) Q) Q) := by
  cases r with
  | fl f s => cases f <;> rfl
  | ex x e s => rfl
  | no => rfl
end
section
variable {env : Env} {s : Sto} {Q : D → Sto → Prop} {Qb : Bool → Sto → Prop} {Qa : List D → Sto → Prop} {Qs : Fl → Sto → Prop}
@[simp] theorem mVar_ap {i : Nat} : Wp (mVar i env s) Q = ∃ d, env[i]? = some (some d) ∧ Q d s := by
  unfold mVar
  cases h : env[i]? with
  | none => simp
  | some o => cases o <;> simp
@[simp] theorem mC_ap {d : D} : mC d env s = .ok d s := rfl
@[simp] theorem mOp_ap {op : Op2} {fa fb : ET} : Wp (mOp op fa fb env s) Q = Wp (fa env s) fun d s1 => Wp (fb env s1) fun e s2 => ∃ z, op s2 d e = some z ∧ Q z s2 := by
  simp only [mOp, Wp_bind]
  congr; funext d s1; congr; funext e s2
  cases op s2 d e <;> simp
@[simp] theorem mUn_ap {op : Sto → D → Option D} {fa : ET} : Wp (mUn op fa env s) Q = Wp (fa env s) fun d s1 => ∃ z, op s1 d = some z ∧ Q z s1 := by
  simp only [mUn, Wp_bind]
  congr; funext d s1
  cases op s1 d <;> simp
@[simp] theorem mB_ap {fa : ET} : Wp (mB fa env s) Qb = Wp (fa env s) fun d s1 => ∃ b, d = .bl b ∧ Qb b s1 := by
  simp only [mB, Wp_bind]
  congr; funext d s1
  cases d <;> simp
@[simp] theorem mTru_ap {fa : ET} : Wp (mTru fa env s) Qb = Wp (fa env s) fun d s1 => ∃ b, truD s1 d = some b ∧ Qb b s1 := by
  simp only [mTru, Wp_bind]
  congr; funext d s1
  cases truD s1 d <;> simp
@[simp] theorem mAnd_ap {fa fb : ET} : Wp (mAnd fa fb env s) Q = Wp (fa env s) fun d s1 => (truD s1 d = some true ∧ Wp (fb env s1) Q) ∨ (truD s1 d = some false ∧ Q d s1) := by
  simp only [mAnd, Wp_bind]
  congr; funext d s1
  cases truD s1 d with
  | none => simp
  | some b => cases b <;> simp
@[simp] theorem mOr_ap {fa fb : ET} : Wp (mOr fa fb env s) Q = Wp (fa env s) fun d s1 => (truD s1 d = some false ∧ Wp (fb env s1) Q) ∨ (truD s1 d = some true ∧ Q d s1) := by
  simp only [mOr, Wp_bind]
  congr; funext d s1
  cases truD s1 d with
  | none => simp
  | some b => cases b <;> simp
@[simp] theorem mNot_ap {fa : ET} : Wp (mNot fa env s) Q = Wp (fa env s) fun d s1 => ∃ b, truD s1 d = some b ∧ Q (.bl (!b)) s1 := by
  simp only [mNot, Wp_bind]
  congr; funext d s1
  cases truD s1 d <;> simp
@[simp] theorem bAnd_ap {fa fb : BT} : Wp (bAnd fa fb env s) Qb = Wp (fa env s) fun b s1 => if b then Wp (fb env s1) Qb else Qb false s1 := by
  simp only [bAnd, Wp_bind]
  congr; funext b s1
  cases b <;> simp
@[simp] theorem bOr_ap {fa fb : BT} : Wp (bOr fa fb env s) Qb = Wp (fa env s) fun b s1 => if b then Qb true s1 else Wp (fb env s1) Qb := by
  simp only [bOr, Wp_bind]
  congr; funext b s1
  cases b <;> simp
@[simp] theorem bNot_ap {fa : BT} : Wp (bNot fa env s) Qb = Wp (fa env s) fun b s1 => Qb (!b) s1 := by simp [bNot]
@[simp] theorem bYes_ap : bYes env s = .ok true s := rfl
@[simp] theorem mIf_ap {bc : BT} {fa fb : ET} : Wp (mIf bc fa fb env s) Q = Wp (bc env s) fun b s1 => if b then Wp (fa env s1) Q else Wp (fb env s1) Q := by
  simp only [mIf, Wp_bind]
  congr; funext b s1
  cases b <;> simp
@[simp] theorem mNil_ap : mNil env s = .ok [] s := rfl
@[simp] theorem mCons_ap {fa : ET} {fs : AT} : Wp (mCons fa fs env s) Qa = Wp (fa env s) fun d s1 => Wp (fs env s1) fun ds s2 => Qa (d :: ds) s2 := by simp [mCons]
@[simp] theorem mTup_ap {fs : AT} : Wp (mTup fs env s) Q = Wp (fs env s) fun ds s1 => ds.length ≤ sizeLine ∧ Q (.tup ds) s1 := by
  simp only [mTup, Wp_bind]
  congr; funext ds s1
  split
  · rename_i h; simp [h]
  · rename_i h; simp [h]
@[simp] theorem mLst_ap {fs : AT} : Wp (mLst fs env s) Q = Wp (fs env s) fun ds s1 => ds.length ≤ sizeLine ∧ Q (.lst ds) s1 := by
  simp only [mLst, Wp_bind]
  congr; funext ds s1
  split
  · rename_i h; simp [h]
  · rename_i h; simp [h]
@[simp] theorem mLstR_ap {fs : AT} : Wp (mLstR fs env s) Q = Wp (fs env s) fun ds s1 => ds.length ≤ sizeLine ∧ Q (.ref s1.length) (s1 ++ [.lst true ds]) := by
  simp only [mLstR, Wp_bind]
  congr; funext ds s1
  split
  · rename_i h; simp [h]
  · rename_i h; simp [h]
@[simp] theorem mDic0_ap : mDic0 env s = .ok (.dic []) s := rfl
@[simp] theorem mCall_ap {F : FT} {fs : AT} : Wp (mCall F fs env s) Q = Wp (fs env s) fun ds s1 => Wp (F ds s1) Q := by simp [mCall]
@[simp] theorem mCb_ap {cb : Cb} {fs : AT} : Wp (mCb cb fs env s) Q = Wp (fs env s) fun ds s1 => ∃ z, cb s1 ds = some z ∧ Q z s1 := by
  simp only [mCb, Wp_bind]
  congr; funext ds s1
  cases cb s1 ds <;> simp
@[simp] theorem mMb_ap {mb : Mb} {fa : ET} {fs : AT} : Wp (mMb mb fa fs env s) Q = Wp (fa env s) fun d s1 => Wp (fs env s1) fun ds s2 => ∃ z, mb s2 d ds = some z ∧ Q z s2 := by
  simp only [mMb, Wp_bind]
  congr; funext d s1; congr; funext ds s2
  cases mb s2 d ds <;> simp
@[simp] theorem mStr_ap {fa : ET} : Wp (mStr fa env s) Q = Wp (fa env s) fun d s1 => ∃ x, d = .str x ∧ Q (.str x) s1 := by
  simp only [mStr, Wp_bind]
  congr; funext d s1
  cases d <;> simp
@[simp] theorem mRevT_ap {fa : ET} : Wp (mRevT fa env s) Q = Wp (fa env s) fun d s1 => ∃ xs, d = .tup xs ∧ Q (.tup xs.reverse) s1 := by
  simp only [mRevT, Wp_bind]
  congr; funext d s1
  cases d <;> simp
@[simp] theorem mPart_ap {fa : ET} {Qo : Option Int → Sto → Prop} : Wp (mPart fa env s) Qo = Wp (fa env s) fun d s1 => ∃ i, d = .int i ∧ Qo (some i) s1 := by
  simp only [mPart, Wp_bind]
  congr; funext d s1
  cases d <;> simp
@[simp] theorem mNoPart_ap : mNoPart env s = .ok none s := rfl
@[simp] theorem mSl_ap {op : Sto → D → Option Int → Option Int → Option D} {fa : ET} {fl fh : PT1} : Wp (mSl op fa fl fh env s) Q = Wp (fa env s) fun d s1 => Wp (fl env s1) fun l s2 => Wp (fh env s2) fun h s3 => ∃ z, op s3 d l h = some z ∧ Q z s3 := by
  simp only [mSl, Wp_bind]
  congr; funext d s1; congr; funext l s2; congr; funext h s3
  cases op s3 d l h <;> simp
@[simp] theorem mChain_ap {op op' : Op2} {fa fb fc : ET} : Wp (mChain op op' fa fb fc env s) Q = Wp (fa env s) fun d s1 => Wp (fb env s1) fun e s2 =>
    (op s2 d e = some (.bl true) ∧ Wp (fc env s2) fun k s3 => ∃ z, op' s3 e k = some z ∧ Q z s3) ∨ (op s2 d e = some (.bl false) ∧ Q (.bl false) s2) := by
  simp only [mChain, Wp_bind]
  congr; funext d s1; congr; funext e s2
  cases h : op s2 d e with
  | none => simp
  | some z =>
    cases z with
    | bl b =>
      cases b with
      | false => simp
      | true =>
        have : (fun a s => Wp (match op' s e a with | some z => R.ok z s | none => R.no) Q) = fun k s3 => ∃ z, op' s3 e k = some z ∧ Q z s3 := by
          funext k s3
          cases op' s3 e k <;> simp
        simp only [Wp_bind, true_and, Option.some.injEq, D.bl.injEq, Bool.true_eq_false, false_and, or_false]
        exact propext ⟨fun q => q.mono fun k s3 z => by rw [← congrFun (congrFun this k) s3]; exact z, fun q => q.mono fun k s3 z => by rw [← congrFun (congrFun this k) s3] at z; exact z⟩
    | _ => simp
/-! walked things -/
variable {Qi : List D × (Sto → Prop) → Sto → Prop}
@[simp] theorem itL_ap {fa : ET} : Wp (itL fa env s) Qi = Wp (fa env s) fun d s1 => ∃ xs, asL s1 d = some xs ∧ Qi (xs, stays d xs) s1 := by
  simp only [itL, Wp_bind]
  congr; funext d s1
  cases asL s1 d <;> simp
@[simp] theorem itT_ap {fa : ET} : Wp (itT fa env s) Qi = Wp (fa env s) fun d s1 => ∃ xs, d = .tup xs ∧ Qi (xs, fun _ => True) s1 := by
  simp only [itT, Wp_bind]
  congr; funext d s1
  cases d <;> simp
@[simp] theorem itS_ap {fa : ET} : Wp (itS fa env s) Qi = Wp (fa env s) fun d s1 => ∃ x, d = .str x ∧ Qi (signs x, fun _ => True) s1 := by
  simp only [itS, Wp_bind]
  congr; funext d s1
  cases d <;> simp
@[simp] theorem itR1_ap {fs : AT} : Wp (itR1 fs env s) Qi = Wp (fs env s) fun ds s1 => ∃ j, ds = [.int j] ∧ (-(2 ^ 62) ≤ j ∧ j < 2 ^ 62) ∧ Qi (rangeD 0 j.toNat, fun _ => True) s1 := by
  simp only [itR1, Wp_bind]
  congr; funext ds s1
  split
  · rename_i j
    split
    · rename_i h
      refine propext ⟨fun q => ⟨j, rfl, h, q⟩, fun ⟨j', e, h', q⟩ => ?_⟩
      cases e; exact q
    · rename_i h
      refine propext ⟨fun q => q.elim, fun ⟨j', e, h', q⟩ => ?_⟩
      cases e; exact absurd h' h
  · rename_i h
    refine propext ⟨fun q => q.elim, fun ⟨j', e, h', q⟩ => absurd e (h j')⟩
/-! statements -/
@[simp] theorem sNil_ap : sNil env s = .fl (.nx env) s := rfl
@[simp] theorem sSeq_ap {f g : SM} : sSeq f g env s = (f env s).then g := rfl
@[simp] theorem sIf_ap {bc : BT} {f g : SM} : WpS (sIf bc f g env s) Qs = Wp (bc env s) fun b s1 => if b then WpS (f env s1) Qs else WpS (g env s1) Qs := by
  simp only [sIf, WpS_bt]
  congr; funext b s1
  cases b <;> simp
@[simp] theorem sRet_ap {fa : ET} : WpS (sRet fa env s) Qs = Wp (fa env s) fun d s1 => Qs (.rt d) s1 := by simp [sRet]
@[simp] theorem sRetN_ap : sRetN env s = .fl (.rt .non) s := rfl
@[simp] theorem sBrk_ap : sBrk env s = .fl (.bk env) s := rfl
@[simp] theorem sCnt_ap : sCnt env s = .fl (.ct env) s := rfl
@[simp] theorem sExp_ap {fa : ET} : WpS (sExp fa env s) Qs = Wp (fa env s) fun d s1 => Qs (.nx env) s1 := by simp [sExp]
@[simp] theorem sAsg_ap {fa : ET} {g : Tg} : WpS (sAsg fa g env s) Qs = Wp (fa env s) fun d s1 => ∃ e, g d env = some e ∧ Qs (.nx e) s1 := by
  simp only [sAsg, WpS_st]
  congr; funext d s1
  cases g d env <;> simp
@[simp] theorem sPar_ap {i j : Nat} {fs : AT} : WpS (sPar i j fs env s) Qs = Wp (fs env s) fun ds s1 => ∃ d e, ds = [d, e] ∧ Qs (.nx ((env.set i (some d)).set j (some e))) s1 := by
  simp only [sPar, WpS_lt]
  congr; funext ds s1
  split
  · rename_i d e
    refine propext ⟨fun q => ⟨d, e, rfl, q⟩, fun ⟨d', e', z, q⟩ => ?_⟩
    cases z; exact q
  · rename_i h
    refine propext ⟨fun q => q.elim, fun ⟨d', e', z, q⟩ => absurd z (h d' e')⟩
@[simp] theorem sPar3_ap {i j l : Nat} {fs : AT} : WpS (sPar3 i j l fs env s) Qs = Wp (fs env s) fun ds s1 => ∃ d e f, ds = [d, e, f] ∧ Qs (.nx (((env.set i (some d)).set j (some e)).set l (some f))) s1 := by
  simp only [sPar3, WpS_lt]
  congr; funext ds s1
  split
  · rename_i d e f
    refine propext ⟨fun q => ⟨d, e, f, rfl, q⟩, fun ⟨d', e', f', z, q⟩ => ?_⟩
    cases z; exact q
  · rename_i h
    refine propext ⟨fun q => q.elim, fun ⟨d', e', f', z, q⟩ => absurd z (h d' e' f')⟩
@[simp] theorem tgN_ap {i : Nat} {d : D} : tgN i d env = some (env.set i (some d)) := rfl
@[simp] theorem tgNil_ap : tgNil [] env = some env := rfl
@[simp] theorem tgCons_ap {g : Tg} {r : Tgs} {d : D} {ds : List D} : tgCons g r (d :: ds) env = (g d env).bind (r ds) := by
  simp only [tgCons]
  cases g d env <;> rfl
@[simp] theorem tgT_ap {n : Nat} {r : Tgs} {ds : List D} (h : ds.length = n) : tgT n r (.tup ds) env = r ds env := by simp [tgT, h]
@[simp] theorem mFun_ap {N n : Nat} {b : SM} {ds : List D} (h : ds.length = n) : Wp (mFun N n b ds s) Q = WpS (b (ds.map some ++ List.replicate (N - n) none) s) (fun f s1 => match f with | .rt d => Q d s1 | .nx _ => Q .non s1 | _ => False) := by
  simp only [mFun, h, if_true]
  cases b (ds.map some ++ List.replicate (N - n) none) s with
  | fl f s => cases f <;> rfl
  | ex x e s => rfl
  | no => rfl
@[simp] theorem sSetIx_ap {fv fo fi : ET} : WpS (sSetIx fv fo fi env s) Qs = Wp (fv env s) fun v s1 => Wp (fo env s1) fun o s2 => Wp (fi env s2) fun i s3 => ∃ n k xs j, o = .ref n ∧ i = .int k ∧ s3[n]? = some (.lst true xs) ∧ ixN xs.length k = some j ∧ Qs (.nx env) (s3.set n (.lst true (xs.set j v))) := by
  simp only [sSetIx, WpS_st]
  congr; funext v s1; congr; funext o s2; congr; funext i s3
  cases o with
  | ref n =>
    cases i with
    | int k =>
      simp
      cases h : s3[n]? with
      | none => simp
      | some ob =>
        cases ob with
        | lst m xs =>
          cases m with
          | false => simp
          | true =>
            simp
            cases h2 : ixN xs.length k <;> simp
        | _ => simp
    | _ => simp
  | _ => simp
/-! loops, by what holds of what is left -/
theorem Wp_lcGo {G : Sto → Prop} {g : Tg} {bt : BT} {fe : ET} {env : Env} {Q : List D → Sto → Prop} (I : List D → List D → Sto → Prop) (hG : ∀ r acc s, I r acc s → G s)
    (step : ∀ d r acc s, I (d :: r) acc s → ∃ env2, g d env = some env2 ∧ Wp (bt env2 s) fun b s1 => if b then Wp (fe env2 s1) (fun y s2 => acc.length < sizeLine ∧ I r (acc ++ [y]) s2) else I r acc s1)
    (fin : ∀ acc s, I [] acc s → Q acc s) : ∀ (ds acc : List D) (s : Sto), I ds acc s → Wp (lcGo G g bt fe env ds acc s) Q
  | [], acc, s, h => by
    rw [lcGo, if_pos (hG _ _ _ h)]
    exact fin acc s h
  | d :: r, acc, s, h => by
    rw [lcGo, if_pos (hG _ _ _ h)]
    obtain ⟨env2, e, q⟩ := step d r acc s h
    rw [e]
    simp only [Wp_bind]
    refine q.mono fun b s1 q1 => ?_
    cases b with
    | false => exact Wp_lcGo I hG step fin r acc s1 (by simpa using q1)
    | true =>
      simp only [if_true] at q1
      simp only [Wp_bind]
      refine q1.mono fun y s2 q2 => ?_
      rw [if_pos q2.1]
      exact Wp_lcGo I hG step fin r _ s2 q2.2
theorem Wp_mLc {it : IT} {g : Tg} {bt : BT} {fe : ET} {vs : List Nat} {env : Env} {s : Sto} {Q : D → Sto → Prop} : Wp (mLc it g bt fe vs env s) Q = Wp (it env s) fun p s1 => Wp (lcGo p.2 g bt fe (wipeE env vs) p.1 [] s1) fun ds s2 => Q (.lst ds) s2 := by
  simp [mLc]
theorem WpS_forGo {G : Sto → Prop} {g : Tg} {body : SM} {Q : Fl → Sto → Prop} (I : List D → Env → Sto → Prop) (hG : ∀ r e s, I r e s → G s)
    (step : ∀ d r e s, I (d :: r) e s → ∃ env2, g d e = some env2 ∧ WpS (body env2 s) fun f s1 => match f with
      | .nx e => I r e s1
      | .ct e => I r e s1
      | .bk e => Q (.nx e) s1
      | .rt v => Q (.rt v) s1)
    (fin : ∀ e s, I [] e s → Q (.nx e) s) : ∀ (ds : List D) (e : Env) (s : Sto), I ds e s → WpS (forGo G g body ds e s) Q
  | [], e, s, h => by
    rw [forGo, if_pos (hG _ _ _ h)]
    exact fin e s h
  | d :: r, e, s, h => by
    rw [forGo, if_pos (hG _ _ _ h)]
    obtain ⟨env2, eq, q⟩ := step d r e s h
    rw [eq]
    simp only
    cases z : body env2 s with
    | no => rw [z] at q; exact q.elim
    | ex x e s => rw [z] at q; exact q.elim
    | fl f s1 =>
      rw [z] at q
      cases f with
      | nx e => exact WpS_forGo I hG step fin r e s1 q
      | ct e => exact WpS_forGo I hG step fin r e s1 q
      | bk e => exact q
      | rt v => exact q
/-- statement by statement: K holds between -/
theorem seqK {f g : SM} {env : Env} {s : Sto} {Q : Fl → Sto → Prop} (K : Env → Sto → Prop) (h1 : WpS (f env s) (Nx K Q)) (h2 : ∀ e s, K e s → WpS (g e s) Q) : WpS (sSeq f g env s) Q := by
  rw [sSeq_ap, WpS_then]
  exact h1.mono fun fl s1 h => by
    cases fl with
    | nx e => exact h2 e s1 h
    | rt d => exact h
    | bk e => exact h
    | ct e => exact h
@[simp] theorem sFor_ap {it : IT} {g : Tg} {b : SM} : WpS (sFor it g b env s) Qs = Wp (it env s) fun p s1 => WpS (forGo p.2 g b p.1 env s1) Qs := by simp [sFor]
end
end Mi
end
section
set_option maxRecDepth 100000
namespace Mi
open PySem L2
theorem kit_NoneType_bool : kitB "NoneType" "bool" = some false := by decide +kernel
theorem kit_NoneType_int : kitB "NoneType" "int" = some false := by decide +kernel
theorem kit_NoneType_str : kitB "NoneType" "str" = some false := by decide +kernel
theorem kit_NoneType_tuple : kitB "NoneType" "tuple" = some false := by decide +kernel
theorem kit_NoneType_list : kitB "NoneType" "list" = some false := by decide +kernel
theorem kit_NoneType_dict : kitB "NoneType" "dict" = some false := by decide +kernel
theorem kit_bool_bool : kitB "bool" "bool" = some true := by decide +kernel
theorem kit_bool_int : kitB "bool" "int" = some true := by decide +kernel
theorem kit_bool_str : kitB "bool" "str" = some false := by decide +kernel
theorem kit_bool_tuple : kitB "bool" "tuple" = some false := by decide +kernel
theorem kit_bool_list : kitB "bool" "list" = some false := by decide +kernel
theorem kit_bool_dict : kitB "bool" "dict" = some false := by decide +kernel
theorem kit_int_bool : kitB "int" "bool" = some false := by decide +kernel
theorem kit_int_int : kitB "int" "int" = some true := by decide +kernel
theorem kit_int_str : kitB "int" "str" = some false := by decide +kernel
theorem kit_int_tuple : kitB "int" "tuple" = some false := by decide +kernel
theorem kit_int_list : kitB "int" "list" = some false := by decide +kernel
theorem kit_int_dict : kitB "int" "dict" = some false := by decide +kernel
theorem kit_str_bool : kitB "str" "bool" = some false := by decide +kernel
theorem kit_str_int : kitB "str" "int" = some false := by decide +kernel
theorem kit_str_str : kitB "str" "str" = some true := by decide +kernel
theorem kit_str_tuple : kitB "str" "tuple" = some false := by decide +kernel
theorem kit_str_list : kitB "str" "list" = some false := by decide +kernel
theorem kit_str_dict : kitB "str" "dict" = some false := by decide +kernel
theorem kit_tuple_bool : kitB "tuple" "bool" = some false := by decide +kernel
theorem kit_tuple_int : kitB "tuple" "int" = some false := by decide +kernel
theorem kit_tuple_str : kitB "tuple" "str" = some false := by decide +kernel
theorem kit_tuple_tuple : kitB "tuple" "tuple" = some true := by decide +kernel
theorem kit_tuple_list : kitB "tuple" "list" = some false := by decide +kernel
theorem kit_tuple_dict : kitB "tuple" "dict" = some false := by decide +kernel
theorem kit_list_bool : kitB "list" "bool" = some false := by decide +kernel
theorem kit_list_int : kitB "list" "int" = some false := by decide +kernel
theorem kit_list_str : kitB "list" "str" = some false := by decide +kernel
theorem kit_list_tuple : kitB "list" "tuple" = some false := by decide +kernel
theorem kit_list_list : kitB "list" "list" = some true := by decide +kernel
theorem kit_list_dict : kitB "list" "dict" = some false := by decide +kernel
theorem kit_dict_bool : kitB "dict" "bool" = some false := by decide +kernel
theorem kit_dict_int : kitB "dict" "int" = some false := by decide +kernel
theorem kit_dict_str : kitB "dict" "str" = some false := by decide +kernel
theorem kit_dict_tuple : kitB "dict" "tuple" = some false := by decide +kernel
theorem kit_dict_list : kitB "dict" "list" = some false := by decide +kernel
theorem kit_dict_dict : kitB "dict" "dict" = some true := by decide +kernel
@[simp] theorem isi_NoneType_bool {s : Sto} : isiD "bool" s (.non) = some (.bl false) := by simp only [isiD, tyName, kit_NoneType_bool]; rfl
@[simp] theorem isi_NoneType_int {s : Sto} : isiD "int" s (.non) = some (.bl false) := by simp only [isiD, tyName, kit_NoneType_int]; rfl
@[simp] theorem isi_NoneType_str {s : Sto} : isiD "str" s (.non) = some (.bl false) := by simp only [isiD, tyName, kit_NoneType_str]; rfl
@[simp] theorem isi_NoneType_tuple {s : Sto} : isiD "tuple" s (.non) = some (.bl false) := by simp only [isiD, tyName, kit_NoneType_tuple]; rfl
@[simp] theorem isi_NoneType_list {s : Sto} : isiD "list" s (.non) = some (.bl false) := by simp only [isiD, tyName, kit_NoneType_list]; rfl
@[simp] theorem isi_NoneType_dict {s : Sto} : isiD "dict" s (.non) = some (.bl false) := by simp only [isiD, tyName, kit_NoneType_dict]; rfl
@[simp] theorem isi_bool_bool {s : Sto} {b : Bool} : isiD "bool" s (.bl b) = some (.bl true) := by simp only [isiD, tyName, kit_bool_bool]; rfl
@[simp] theorem isi_bool_int {s : Sto} {b : Bool} : isiD "int" s (.bl b) = some (.bl true) := by simp only [isiD, tyName, kit_bool_int]; rfl
@[simp] theorem isi_bool_str {s : Sto} {b : Bool} : isiD "str" s (.bl b) = some (.bl false) := by simp only [isiD, tyName, kit_bool_str]; rfl
@[simp] theorem isi_bool_tuple {s : Sto} {b : Bool} : isiD "tuple" s (.bl b) = some (.bl false) := by simp only [isiD, tyName, kit_bool_tuple]; rfl
@[simp] theorem isi_bool_list {s : Sto} {b : Bool} : isiD "list" s (.bl b) = some (.bl false) := by simp only [isiD, tyName, kit_bool_list]; rfl
@[simp] theorem isi_bool_dict {s : Sto} {b : Bool} : isiD "dict" s (.bl b) = some (.bl false) := by simp only [isiD, tyName, kit_bool_dict]; rfl
@[simp] theorem isi_int_bool {s : Sto} {i : Int} : isiD "bool" s (.int i) = some (.bl false) := by simp only [isiD, tyName, kit_int_bool]; rfl
@[simp] theorem isi_int_int {s : Sto} {i : Int} : isiD "int" s (.int i) = some (.bl true) := by simp only [isiD, tyName, kit_int_int]; rfl
@[simp] theorem isi_int_str {s : Sto} {i : Int} : isiD "str" s (.int i) = some (.bl false) := by simp only [isiD, tyName, kit_int_str]; rfl
@[simp] theorem isi_int_tuple {s : Sto} {i : Int} : isiD "tuple" s (.int i) = some (.bl false) := by simp only [isiD, tyName, kit_int_tuple]; rfl
@[simp] theorem isi_int_list {s : Sto} {i : Int} : isiD "list" s (.int i) = some (.bl false) := by simp only [isiD, tyName, kit_int_list]; rfl
@[simp] theorem isi_int_dict {s : Sto} {i : Int} : isiD "dict" s (.int i) = some (.bl false) := by simp only [isiD, tyName, kit_int_dict]; rfl
@[simp] theorem isi_str_bool {s : Sto} {x : Str} : isiD "bool" s (.str x) = some (.bl false) := by simp only [isiD, tyName, kit_str_bool]; rfl
@[simp] theorem isi_str_int {s : Sto} {x : Str} : isiD "int" s (.str x) = some (.bl false) := by simp only [isiD, tyName, kit_str_int]; rfl
@[simp] theorem isi_str_str {s : Sto} {x : Str} : isiD "str" s (.str x) = some (.bl true) := by simp only [isiD, tyName, kit_str_str]; rfl
@[simp] theorem isi_str_tuple {s : Sto} {x : Str} : isiD "tuple" s (.str x) = some (.bl false) := by simp only [isiD, tyName, kit_str_tuple]; rfl
@[simp] theorem isi_str_list {s : Sto} {x : Str} : isiD "list" s (.str x) = some (.bl false) := by simp only [isiD, tyName, kit_str_list]; rfl
@[simp] theorem isi_str_dict {s : Sto} {x : Str} : isiD "dict" s (.str x) = some (.bl false) := by simp only [isiD, tyName, kit_str_dict]; rfl
@[simp] theorem isi_tuple_bool {s : Sto} {xs : List D} : isiD "bool" s (.tup xs) = some (.bl false) := by simp only [isiD, tyName, kit_tuple_bool]; rfl
@[simp] theorem isi_tuple_int {s : Sto} {xs : List D} : isiD "int" s (.tup xs) = some (.bl false) := by simp only [isiD, tyName, kit_tuple_int]; rfl
@[simp] theorem isi_tuple_str {s : Sto} {xs : List D} : isiD "str" s (.tup xs) = some (.bl false) := by simp only [isiD, tyName, kit_tuple_str]; rfl
@[simp] theorem isi_tuple_tuple {s : Sto} {xs : List D} : isiD "tuple" s (.tup xs) = some (.bl true) := by simp only [isiD, tyName, kit_tuple_tuple]; rfl
@[simp] theorem isi_tuple_list {s : Sto} {xs : List D} : isiD "list" s (.tup xs) = some (.bl false) := by simp only [isiD, tyName, kit_tuple_list]; rfl
@[simp] theorem isi_tuple_dict {s : Sto} {xs : List D} : isiD "dict" s (.tup xs) = some (.bl false) := by simp only [isiD, tyName, kit_tuple_dict]; rfl
@[simp] theorem isi_list_bool {s : Sto} {xs : List D} : isiD "bool" s (.lst xs) = some (.bl false) := by simp only [isiD, tyName, kit_list_bool]; rfl
@[simp] theorem isi_list_int {s : Sto} {xs : List D} : isiD "int" s (.lst xs) = some (.bl false) := by simp only [isiD, tyName, kit_list_int]; rfl
@[simp] theorem isi_list_str {s : Sto} {xs : List D} : isiD "str" s (.lst xs) = some (.bl false) := by simp only [isiD, tyName, kit_list_str]; rfl
@[simp] theorem isi_list_tuple {s : Sto} {xs : List D} : isiD "tuple" s (.lst xs) = some (.bl false) := by simp only [isiD, tyName, kit_list_tuple]; rfl
@[simp] theorem isi_list_list {s : Sto} {xs : List D} : isiD "list" s (.lst xs) = some (.bl true) := by simp only [isiD, tyName, kit_list_list]; rfl
@[simp] theorem isi_list_dict {s : Sto} {xs : List D} : isiD "dict" s (.lst xs) = some (.bl false) := by simp only [isiD, tyName, kit_list_dict]; rfl
@[simp] theorem isi_dict_bool {s : Sto} {kvs : List (Key × D)} : isiD "bool" s (.dic kvs) = some (.bl false) := by simp only [isiD, tyName, kit_dict_bool]; rfl
@[simp] theorem isi_dict_int {s : Sto} {kvs : List (Key × D)} : isiD "int" s (.dic kvs) = some (.bl false) := by simp only [isiD, tyName, kit_dict_int]; rfl
@[simp] theorem isi_dict_str {s : Sto} {kvs : List (Key × D)} : isiD "str" s (.dic kvs) = some (.bl false) := by simp only [isiD, tyName, kit_dict_str]; rfl
@[simp] theorem isi_dict_tuple {s : Sto} {kvs : List (Key × D)} : isiD "tuple" s (.dic kvs) = some (.bl false) := by simp only [isiD, tyName, kit_dict_tuple]; rfl
@[simp] theorem isi_dict_list {s : Sto} {kvs : List (Key × D)} : isiD "list" s (.dic kvs) = some (.bl false) := by simp only [isiD, tyName, kit_dict_list]; rfl
@[simp] theorem isi_dict_dict {s : Sto} {kvs : List (Key × D)} : isiD "dict" s (.dic kvs) = some (.bl true) := by simp only [isiD, tyName, kit_dict_dict]; rfl
@[simp] theorem tru_bl {s : Sto} {b : Bool} : truD s (.bl b) = some b := rfl
@[simp] theorem tru_non {s : Sto} : truD s .non = some false := rfl
end Mi
end
section
set_option maxRecDepth 100000
set_option maxHeartbeats 1000000
namespace Mi
open PySem PySem.Spec PyProof.Rows L2 StX Kw ClX
/-- what is not reached -/
def sNo : SM := fun _ _ => .no
theorem ms_no {X : Cx} {E : L2.St → XK} {st : Stmt} : MS X E st sNo := PS.imp ps_never fun En st H ⟨c, env, g, re, q⟩ => q
theorem mC_noex {d : D} {env : Env} {s : Sto} {y : Xn} {S : Sto} : mC d env s ≠ .ex y S := fun h => by cases h
theorem mk_noex {nm pa : Str} {F : FT} {env : Env} {s : Sto} {y : Xn} {S : Sto} : mMk0 nm pa F env s ≠ .ex y S := fun h => by
  simp only [mMk0, mkK, strKeys] at h
  split at h
  · cases z : F [.ref s.length, .dic []] (s ++ [.ins true nm []]) with
    | no => rw [z] at h; cases h
    | ex x S1 => rw [z] at h; cases h
    | ok v S1 =>
      rw [z] at h
      simp only [quiet_ok, bind_ok] at h
      split at h <;> cases h
  · cases h
end Mi
end
section
set_option maxRecDepth 100000
set_option maxHeartbeats 1000000
namespace Mi
open PySem PySem.Spec PyProof.Rows L2 StX Kw ClX
section
variable {X : Cx}
theorem ps_setDc {i : Nat} {y : Str} {py : Pos} {kx vx tg iter : Expr} {ifs : List Expr} {scope : Scope} {own : List (Str × Nat)} {pos spos : Pos} {wi : TI} {g : TG} {tt : TT} {tk tv : TE} (hc : X.calm = true) (hN : X.N.Nodup) (hy : X.N[i]? = some y) (hyl : X.env.scope.names.lookup y = some .local)
    (hsw : swapsWith (.DictComp kx vx [⟨tg, iter, ifs, 0⟩] scope pos) (some (.Name y py)) spos.line X.env = pure true) (hi : PI X tg iter wi) (ok : BlkOk X.N X.env.scope scope own)
    (hg : ∀ (s : Shared) (H : Hp) (C : Addr) (cl : List (Str × Addr)) (fp : List Addr), PG (X.blk s H scope (compEnvC scope cl C X.env) fp) tg g) (ht : ∀ (s : Shared) (H : Hp) (C : Addr) (cl : List (Str × Addr)) (fp : List Addr), PTs (X.blk s H scope (compEnvC scope cl C X.env) fp) ifs tt)
    (hk : ∀ (s : Shared) (H : Hp) (C : Addr) (cl : List (Str × Addr)) (fp : List Addr), PE (X.blk s H scope (compEnvC scope cl C X.env) fp) kx tk)
    (he : ∀ (s : Shared) (H : Hp) (C : Addr) (cl : List (Str × Addr)) (fp : List Addr), PE (X.blk s H scope (compEnvC scope cl C X.env) fp) vx tv) (hs : ∀ x, foldedSetIterable iter X.env x = pure x := by intro _; rfl) :
    PS X (.Assign [.Name y py] (.DictComp kx vx [⟨tg, iter, ifs, 0⟩] scope pos) spos) (tAsg (tDc wi g tt tk tv (own.map (·.2))) (gName i)) := by
  refine ⟨fun pins s σ H D I h => ?_⟩
  rw [exec_Assign_Name_used _ _ _ _ hsw]
  refine wpAny_bind (wpAny_standAt (wpAny_bind ?_))
  show wpAny _ X.A (do let _ ← comprehension (.DictComp kx vx [⟨tg, iter, ifs, 0⟩] scope pos) scope X.env (firstIterPos [⟨tg, iter, ifs, 0⟩] pos) newDict false (eval iter X.env) (some (assign (.Name y py) X.env))) _ _ s
  have h2 : tDc wi g tt tk tv (own.map (·.2)) σ H (fun x H1 => gName i x σ H1 D.nx) := h
  refine wpAny_bind (thn (dc_core (Qf := fun _ s' => SP X pins D .next s') hc hN I hi ok hg ht hk he hs h2 fun L C s' m H' J q hn f => ?_) fun _ s' hq => wpAny_pure (wpAny_pure hq))
  show wpAny _ _ (assign (.Name y py) X.env (.ref L)) _ _ _
  refine wpAny_assign_Name (store_ok2 (v := V.ref L) J hN hy (.inl hyl) rfl (fun s2 J2 z => ?_) (.inr hyl))
  obtain ⟨b, sb, hb⟩ := z
  obtain ⟨f0, f1, f2, f3, f4, f5⟩ := f
  have ne : C ≠ b := by
    rcases hb with hb | hb
    · rw [hb]; exact f1
    · exact fun e => f4 y b hb e.symm
  exact ⟨m, hn.sameBut sb ne, fun h3 sb3 => ⟨_, H', J2.turned (t' := s2.toks) (fun b o hb e => (sb3.2 b hb).trans e) f0 f1 f3 f4 f5, q⟩⟩
theorem swD_true {kx vx : Expr} {gs : List Comprehension} {scope : Scope} {pos py : Pos} {y : Str} {l : Nat} {env : PySem.Env} (hk : env.scope.kind = .function) (hy : env.scope.names.lookup y = some .local) (hl : (py.line == pos.line) = true)
    (ha : (scope.names.any fun (n, k) => n == y && (k == .local || k == .cell)) = false) : swapsWith (.DictComp kx vx gs scope pos) (some (.Name y py)) l env = pure true := by
  have k1 : env.kindOf y = some .local := hy
  have k2 : env.blockKind = .function := by unfold Env.blockKind; rw [hk]; rfl
  unfold swapsWith
  simp only [k1, k2, ha, Expr.pos, hl]
  rfl
end
section
variable {X : Cx} {E : L2.St → XK} {pos lpos : Pos} {tg : Expr}
theorem ms_setDc {i : Nat} {y : Str} {py : Pos} {kx vx iter : Expr} {ifs : List Expr} {scope : Scope} {own : List (Str × Nat)} {it : IT} {g : Tg} {js : List Nat} {bt : BT} {fk fv : ET} (hc : X.calm = true) (hN : X.N.Nodup) (hy : X.N[i]? = some y) (hyl : X.env.scope.names.lookup y = some .local)
    (hsw : swapsWith (.DictComp kx vx [⟨tg, iter, ifs, 0⟩] scope lpos) (some (.Name y py)) pos.line X.env = pure true) (hi : MI X E tg iter it) (ok : BlkOk X.N X.env.scope scope own)
    (hg : ∀ s H C cl fp, MG (X.blk s H scope (compEnvC scope cl C X.env) fp) tg js g) (ht : ∀ s H C cl fp, MTs (X.blk s H scope (compEnvC scope cl C X.env) fp) E00 ifs bt)
    (hk : ∀ s H C cl fp, ME (X.blk s H scope (compEnvC scope cl C X.env) fp) E00 kx fk) (he : ∀ s H C cl fp, ME (X.blk s H scope (compEnvC scope cl C X.env) fp) E00 vx fv) (hj : ∀ j ∈ js, j ∈ own.map (·.2) := by decide)
    (hs : ∀ x, foldedSetIterable iter X.env x = pure x := by intro _; rfl) :
    MS X E (.Assign [.Name y py] (.DictComp kx vx [⟨tg, iter, ifs, 0⟩] scope lpos) pos) (sAsg (mDc it g bt fk fv (own.map (·.2))) (tgN i)) := PS.imp (ps_setDc hc hN hy hyl hsw hi ok hg ht hk he hs) fun En st H ⟨c, env, gd, re, q⟩ => by
  refine tDc_M hj ⟨c, env, gd, re, (FinS.of_st re q).mono fun d c1 H1 e1 g1 q1 v rv => ?_⟩
  exact q1 c1 H1 (Ext.refl _ _) g1 rfl _ ((re.ext e1).set rv)
end
end Mi
end
section
namespace Mi
open PySem
theorem kit_own {K : PySem.W.Frag} {C : Addr} {T : String} (hm : PySem.W.kitMeta T = true) (h : PySem.W.mroIn K C (.type T) = some false) : PySem.W.kitOne K (.ref C) (.type T) = some false := by
  unfold PySem.W.kitOne
  rw [if_neg (by intro z; cases (beq_iff_eq.mp z))]
  show (if PySem.W.kitMeta T = true then PySem.W.subIn K (.ref C) (.type T) else none) = some false
  rw [if_pos hm]
  exact h
theorem km_int : PySem.W.kitMeta "int" = true := by decide +kernel
theorem km_bool : PySem.W.kitMeta "bool" = true := by decide +kernel
theorem km_str : PySem.W.kitMeta "str" = true := by decide +kernel
theorem km_tuple : PySem.W.kitMeta "tuple" = true := by decide +kernel
theorem km_list : PySem.W.kitMeta "list" = true := by decide +kernel
theorem km_dict : PySem.W.kitMeta "dict" = true := by decide +kernel
end Mi
end
section
set_option maxRecDepth 100000
set_option maxHeartbeats 4000000
namespace K01
open PySem L2 PyProof.Rows Mi
def inCls (st : Stmt) (j : Nat) : Stmt := match st with
  | .ClassDef _ _ _ body _ _ _ _ _ _ _ => body.getD j (.Pass ⟨0, 0, 0, 0⟩)
  | st => st
def top (i : Nat) : Stmt := PySem.Challenge.pw_laterknown_k01_values_of_any_value.main.body.getD i (.Pass ⟨0, 0, 0, 0⟩)
abbrev s_is_integer : Stmt := top 18
abbrev N_is_integer : List Str := ["value"]
abbrev s_is_name : Stmt := top 19
abbrev N_is_name : List Str := ["value", "sign"]
abbrev s_is_text : Stmt := top 20
abbrev N_is_text : List Str := ["value", "sign"]
abbrev s_is_marked : Stmt := top 21
abbrev N_is_marked : List Str := ["value", "mark", "sign"]
abbrev s_is_id : Stmt := top 22
abbrev N_is_id : List Str := ["value"]
abbrev s_is_unknown : Stmt := top 23
abbrev N_is_unknown : List Str := ["value"]
abbrev s_is_plain : Stmt := top 24
abbrev N_is_plain : List Str := ["value"]
abbrev s_depth_of : Stmt := top 25
abbrev N_depth_of : List Str := ["value", "depths", "part"]
abbrev s_is_value : Stmt := top 26
abbrev N_is_value : List Str := ["value", "depth"]
abbrev s_check_parts : Stmt := top 28
abbrev N_check_parts : List Str := ["fields", "name"]
abbrev s_Record___init__ : Stmt := inCls (top 29) 0
abbrev N_Record___init__ : List Str := ["this_record", "fields", "name"]
abbrev s_Record_of : Stmt := inCls (top 29) 1
abbrev N_Record_of : List Str := ["cls", "pairs", "found", "name", "part"]
abbrev s__law_pot : Stmt := top 31
abbrev N__law_pot : List Str := ["_law_script", "_law_k", "_law_cell", "_law_great"]
abbrev s__law_take : Stmt := top 32
abbrev N__law_take : List Str := ["_law_pot_here", "_law_size", "_law_prime", "_law_mixed", "_law_digit"]
abbrev s__law_pick : Stmt := top 33
abbrev N__law_pick : List Str := ["_law_pot_here", "_law_some"]
abbrev s__law_sort : Stmt := top 34
abbrev N__law_sort : List Str := ["_law_thing", "_law_signs", "_law_word", "_law_most", "_law_text", "_law_is_short", "_law_sign"]
abbrev s__law_deep : Stmt := top 35
abbrev N__law_deep : List Str := ["_law_thing", "_law_some", "_law_part"]
abbrev s__law_plain : Stmt := top 36
abbrev N__law_plain : List Str := ["_law_pot_here", "_law_text", "_law_some", "_law_marked", "_law_turn"]
abbrev s__law_value : Stmt := top 37
abbrev N__law_value : List Str := ["_law_pot_here", "_law_deep_here", "_law_many", "_law_turn"]
abbrev s__law_near : Stmt := top 38
abbrev N__law_near : List Str := ["_law_pot_here", "_law_part", "_law_some", "_law_others"]
abbrev s__law_bent : Stmt := top 39
abbrev N__law_bent : List Str := ["_law_pot_here", "_law_thing", "_law_deep_here", "_law_at"]
abbrev s__law_asked : Stmt := top 40
abbrev N__law_asked : List Str := ["_law_thing", "_law_kept_as", "_law_deep_here"]
abbrev s__law_by_hand : Stmt := top 41
abbrev N__law_by_hand : List Str := ["_law_some", "_law_signs", "_law_sign"]
abbrev s__law_right : Stmt := top 42
abbrev N__law_right : List Str := ["_law_pot_here", "_law_turn", "_law_thing", "_law_again"]
abbrev s_law : Stmt := top 43
abbrev N_law : List Str := ["_law_script", "_law_k", "_law_thing"]
/-- a def of the text as it stands behind the top -/
structure Fn (K : PySem.W.Frag) (mg : Str → Option Value) (x : Str) (st : Stmt) (ps : List Str) where
  f : Addr
  fd : FuncData
  fu : Fun K x x st f fd
  mgx : mg x = some (.ref f)
  bd : Binds K fd ps []
structure FnM (K : PySem.W.Frag) (x qual : Str) (st : Stmt) (ps : List Str) where
  f : Addr
  fd : FuncData
  fu : Fun K x qual st f fd
  bd : Binds K fd ps []
structure FnW (K : PySem.W.Frag) (x qual : Str) (st : Stmt) where
  f : Addr
  oc : Value
  od : Option Addr
  kV : Value
  doc : Value
  pm : Value
  an : Option Addr
  cdv : Value
  ct : Value
  osl : Array (Option Value)
  lk : K.lookup f = some ⟨oc, od, .func (PySem.W.fnOf x qual (defArgs st) (defBody st) (defScope st) .none kV doc pm an cdv ct), osl⟩
  cd : PySem.W.codeIn K cdv qual = true
structure Tx (K : PySem.W.Frag) (mg : Str → Option Value) where
  C_Record : Addr
  g_Record : mg "Record" = some (.ref C_Record)
  cf_Record : ClF K mg "Record" C_Record
  ki_Record_int : PySem.W.kitOne K (.ref C_Record) (.type "int") = some false
  ki_Record_bool : PySem.W.kitOne K (.ref C_Record) (.type "bool") = some false
  ki_Record_str : PySem.W.kitOne K (.ref C_Record) (.type "str") = some false
  ki_Record_tuple : PySem.W.kitOne K (.ref C_Record) (.type "tuple") = some false
  na_Record_held_parts : NoAttr K C_Record "held_parts"
  is_integer : Fn K mg "is_integer" s_is_integer ["value"]
  is_name : Fn K mg "is_name" s_is_name ["value"]
  is_text : Fn K mg "is_text" s_is_text ["value"]
  is_marked : Fn K mg "is_marked" s_is_marked ["value", "mark"]
  is_id : Fn K mg "is_id" s_is_id ["value"]
  is_unknown : Fn K mg "is_unknown" s_is_unknown ["value"]
  is_plain : Fn K mg "is_plain" s_is_plain ["value"]
  depth_of : Fn K mg "depth_of" s_depth_of ["value"]
  is_value : Fn K mg "is_value" s_is_value ["value"]
  check_parts : Fn K mg "check_parts" s_check_parts ["fields"]
  Record___init__ : FnW K "__init__" "Record.__init__" s_Record___init__
  mk_Record : Mk K C_Record Record___init__.f
  Record_of : FnM K "of" "Record.of" s_Record_of ["cls", "pairs"]
  mc_Record_of : Value
  p_Record_of : Addr
  cr_Record : ClX.CRead K C_Record mc_Record_of
  cm_Record_of : ClX.CMet K C_Record mc_Record_of "of" p_Record_of Record_of.f
  _law_pot : Fn K mg "_law_pot" s__law_pot ["_law_script", "_law_k"]
  _law_take : Fn K mg "_law_take" s__law_take ["_law_pot_here", "_law_size"]
  _law_pick : Fn K mg "_law_pick" s__law_pick ["_law_pot_here", "_law_some"]
  _law_sort : Fn K mg "_law_sort" s__law_sort ["_law_thing"]
  _law_deep : Fn K mg "_law_deep" s__law_deep ["_law_thing"]
  _law_plain : Fn K mg "_law_plain" s__law_plain ["_law_pot_here"]
  _law_value : Fn K mg "_law_value" s__law_value ["_law_pot_here", "_law_deep_here"]
  _law_near : Fn K mg "_law_near" s__law_near ["_law_pot_here", "_law_part"]
  _law_bent : Fn K mg "_law_bent" s__law_bent ["_law_pot_here", "_law_thing", "_law_deep_here"]
  _law_asked : Fn K mg "_law_asked" s__law_asked ["_law_thing"]
  _law_by_hand : Fn K mg "_law_by_hand" s__law_by_hand []
  _law_right : Fn K mg "_law_right" s__law_right ["_law_pot_here"]
  law : Fn K mg "law" s_law ["_law_script"]
  t_ID_MARK : Tok
  c_ID_MARK : mg "ID_MARK" = some (.str "#" t_ID_MARK)
  t_ID_SIGNS : Tok
  c_ID_SIGNS : mg "ID_SIGNS" = some (.str "abcdefghijklmnopqrstuvwxyz0123456789-./[]" t_ID_SIGNS)
  t_LETTERS : Tok
  c_LETTERS : mg "LETTERS" = some (.str "abcdefghijklmnopqrstuvwxyz" t_LETTERS)
  t_MOST_DEPTH : Tok
  c_MOST_DEPTH : mg "MOST_DEPTH" = some (.int 3 t_MOST_DEPTH)
  t_MOST_ID : Tok
  c_MOST_ID : mg "MOST_ID" = some (.int 81 t_MOST_ID)
  t_MOST_INTEGER : Tok
  c_MOST_INTEGER : mg "MOST_INTEGER" = some (.int 1000000 t_MOST_INTEGER)
  t_MOST_LIST : Tok
  c_MOST_LIST : mg "MOST_LIST" = some (.int 16 t_MOST_LIST)
  t_MOST_NAME : Tok
  c_MOST_NAME : mg "MOST_NAME" = some (.int 12 t_MOST_NAME)
  t_MOST_PARTS : Tok
  c_MOST_PARTS : mg "MOST_PARTS" = some (.int 12 t_MOST_PARTS)
  t_MOST_TEXT : Tok
  c_MOST_TEXT : mg "MOST_TEXT" = some (.int 20 t_MOST_TEXT)
  t_SELF : Tok
  c_SELF : mg "SELF" = some (.str "self" t_SELF)
  t_TEXT_SIGNS : Tok
  c_TEXT_SIGNS : mg "TEXT_SIGNS" = some (.str "abcdefghijklmnopqrstuvwxyz0123456789-" t_TEXT_SIGNS)
  t_UNKNOWN_MARK : Tok
  c_UNKNOWN_MARK : mg "UNKNOWN_MARK" = some (.str "?" t_UNKNOWN_MARK)
  z_abs : mg "abs" = none
  z_all : mg "all" = none
  z_bool : mg "bool" = none
  z_int : mg "int" = none
  z_isinstance : mg "isinstance" = none
  z_len : mg "len" = none
  z_list : mg "list" = none
  z_max : mg "max" = none
  z_min : mg "min" = none
  z_range : mg "range" = none
  z_repr : mg "repr" = none
  z_sorted : mg "sorted" = none
  z_str : mg "str" = none
  z_tuple : mg "tuple" = none
noncomputable def b_is_integer : SM := (sRet (mAnd (mUn (isiX "Record" "int") (mVar 0)) (mNot (mUn (isiX "Record" "bool") (mVar 0)))))
noncomputable def F_is_integer : FT := mFun 1 1 b_is_integer
noncomputable def b_is_name : SM := (sRet (mAnd (mUn (isiD "str") (mVar 0)) (mAnd (mChain opLe opLe (mC (.int 1)) (mCb cbLen (mCons (mVar 0) mNil)) (mC (.int 12))) (mCb cbAll (mCons (mLc (itS (mVar 0)) (tgN 1) bYes (mOp opIn (mVar 1) (mC (.str "abcdefghijklmnopqrstuvwxyz"))) [1]) mNil)))))
noncomputable def F_is_name : FT := mFun 2 1 b_is_name
noncomputable def b_is_text : SM := (sRet (mAnd (mUn (isiX "Record" "str") (mVar 0)) (mAnd (mOp opLe (mCb cbLen (mCons (mVar 0) mNil)) (mC (.int 20))) (mCb cbAll (mCons (mLc (itS (mVar 0)) (tgN 1) bYes (mOp opIn (mVar 1) (mC (.str "abcdefghijklmnopqrstuvwxyz0123456789-"))) [1]) mNil)))))
noncomputable def F_is_text : FT := mFun 2 1 b_is_text
noncomputable def b_is_marked : SM := (sSeq (sIf (bOr (bNot (mTru (mUn (isiX "Record" "str") (mVar 0)))) (bOr (bNot (mB (mChain opLe opLe (mC (.int 2)) (mCb cbLen (mCons (mVar 0) mNil)) (mC (.int 81))))) (mB (mOp opNe (mOp opIx (mVar 0) (mC (.int 0))) (mVar 1))))) (sRet (mC (.bl false))) sNil)
    (sRet (mCb cbAll (mCons (mLc (itS (mSl slD (mVar 0) (mPart (mC (.int 1))) mNoPart)) (tgN 2) bYes (mOp opIn (mVar 2) (mC (.str "abcdefghijklmnopqrstuvwxyz0123456789-./[]"))) [2]) mNil))))
noncomputable def F_is_marked : FT := mFun 3 2 b_is_marked
noncomputable def b_is_id : SM := (sRet (mCall F_is_marked (mCons (mVar 0) (mCons (mC (.str "#")) mNil))))
noncomputable def F_is_id : FT := mFun 1 1 b_is_id
noncomputable def b_is_unknown : SM := (sRet (mCall F_is_marked (mCons (mVar 0) (mCons (mC (.str "?")) mNil))))
noncomputable def F_is_unknown : FT := mFun 1 1 b_is_unknown
noncomputable def b_is_plain : SM := (sSeq (sIf (mTru (mCall F_is_integer (mCons (mVar 0) mNil))) (sRet (mChain opLe opLe (mUn unNeg (mC (.int 1000000))) (mVar 0) (mC (.int 1000000)))) sNil)
    (sRet (mOr (mUn (isiX "Record" "bool") (mVar 0)) (mOr (mCall F_is_text (mCons (mVar 0) mNil)) (mOr (mCall F_is_id (mCons (mVar 0) mNil)) (mCall F_is_unknown (mCons (mVar 0) mNil)))))))
noncomputable def F_is_plain : FT := mFun 1 1 b_is_plain
noncomputable def b_depth_of (rec : FT) : SM := (sSeq (sIf (bNot (mTru (mUn (isiX "Record" "tuple") (mVar 0)))) (sRet (mIf (mTru (mCall F_is_plain (mCons (mVar 0) mNil))) (mC (.int 0)) (mC .non))) sNil)
    (sSeq (sAsg (mLc (itT (mVar 0)) (tgN 2) bYes (mCall rec (mCons (mVar 2) mNil)) [2]) (tgN 1))
    (sSeq (sIf (bOr (mB (mOp opGt (mCb cbLen (mCons (mVar 0) mNil)) (mC (.int 16)))) (mB (mOp opIn (mC .non) (mVar 1)))) (sRet (mC .non)) sNil)
    (sRet (mOp opAdd (mC (.int 1)) (mUn (maxDf 0) (mVar 1)))))))
noncomputable def F_depth_of : Nat → FT
  | 0 => fun _ _ => .no
  | n + 1 => mFun 3 1 (b_depth_of (F_depth_of n))
noncomputable def b_is_value : SM := (sSeq (sAsg (mCall (F_depth_of 10) (mCons (mVar 0) mNil)) (tgN 1))
    (sRet (mAnd (mOp opIsNot (mVar 1) (mC .non)) (mOp opLe (mVar 1) (mC (.int 3))))))
noncomputable def F_is_value : FT := mFun 2 1 b_is_value
noncomputable def b_check_parts : SM := (sIf (bOr (mB (mOp opGt (mCb cbLenD (mCons (mVar 0) mNil)) (mC (.int 12)))) (bNot (mTru (mCb cbAll (mCons (mLc (itK 0) (tgN 1) bYes (mAnd (mCall F_is_name (mCons (mVar 1) mNil)) (mOp opNe (mVar 1) (mC (.str "self")))) [1]) mNil))))) sNo sNil)
noncomputable def F_check_parts : FT := mFun 2 1 b_check_parts
noncomputable def b_Record___init__ : SM := (sSeq (sExp (mCall F_check_parts (mCons (mVar 1) mNil)))
    (sSetF "Record" "held_parts" (mDc (itL (mCb cbSortD (mCons (mVar 1) mNil))) (tgN 2) bYes (mVar 2) (mOp opDget (mVar 1) (mVar 2)) [2]) (mVar 0)))
noncomputable def F_Record___init__ : FT := mFun 3 2 b_Record___init__
noncomputable def b_Record_of : SM := (sSeq (sAsg (mDc (itT (mVar 1)) (tgT 2 (tgCons (tgN 3) (tgCons (tgN 4) tgNil))) bYes (mVar 3) (mVar 4) [3, 4]) (tgN 2))
    (sSeq (sExp (mCall F_check_parts (mCons (mVar 2) mNil)))
    (sRet (mMkV "Record" "this_record" F_Record___init__ 0 2))))
noncomputable def F_Record_of : FT := mFun 5 2 b_Record_of
noncomputable def b__law_pot : SM := (sSeq (sAsg (mIf (mB (mOp opLt (mVar 1) (mCb cbLen (mCons (mVar 0) mNil)))) (mOp opIx (mVar 0) (mVar 1)) (mOp opAdd (mOp opMul (mC (.int 17)) (mVar 1)) (mC (.int 3)))) (tgN 2))
    (sSeq (sAsg (mIf (mB (mOp opGe (mCb cbAbs (mCons (mVar 2) mNil)) (mOp opPow (mC (.int 10)) (mC (.int 18))))) (mOp opMod (mCb cbAbs (mCons (mVar 2) mNil)) (mOp opPow (mOp opPow (mC (.int 10)) (mC (.int 60))) (mC (.int 3)))) (mC (.int 0))) (tgN 3))
    (sRet (mLstR (mCons (mVar 3) (mCons (mOp opMod (mOp opAdd (mOp opAdd (mOp opMul (mOp opMod (mVar 2) (mC (.int 2305843009213693951))) (mC (.int 69621))) (mOp opMul (mOp opMul (mC (.int 104729)) (mVar 1)) (mVar 1))) (mC (.int 71))) (mC (.int 2305843009213693921))) (mCons (mC (.int 0)) mNil)))))))
noncomputable def F__law_pot : FT := mFun 4 2 b__law_pot
noncomputable def b__law_take : SM := (sSeq (sIf (mB (mOp opGt (mOp opIx (mVar 0) (mC (.int 0))) (mC (.int 0)))) (sSeq (sAsg (mOp opMod (mOp opIx (mVar 0) (mC (.int 0))) (mVar 1)) (tgN 4))
    (sSeq (sSetIx (mOp opDiv (mOp opIx (mVar 0) (mC (.int 0))) (mVar 1)) (mVar 0) (mC (.int 0)))
    (sRet (mVar 4)))) sNil)
    (sSeq (sSetIx (mOp opAdd (mOp opIx (mVar 0) (mC (.int 2))) (mC (.int 1))) (mVar 0) (mC (.int 2)))
    (sSeq (sAsg (mOp opIx (mLst (mCons (mC (.int 2147483647)) (mCons (mC (.int 2147483629)) (mCons (mC (.int 2147483587)) (mCons (mC (.int 2147483579)) (mCons (mC (.int 2147483563)) mNil)))))) (mOp opMod (mOp opIx (mVar 0) (mC (.int 2))) (mC (.int 5)))) (tgN 2))
    (sSeq (sAsg (mOp opMod (mOp opPow (mOp opAdd (mOp opAdd (mOp opIx (mVar 0) (mC (.int 1))) (mOp opMul (mOp opMul (mC (.int 40009)) (mOp opIx (mVar 0) (mC (.int 2)))) (mOp opIx (mVar 0) (mC (.int 2))))) (mC (.int 31))) (mC (.int 3))) (mVar 2)) (tgN 3))
    (sRet (mOp opMod (mOp opDiv (mOp opMod (mOp opMul (mVar 3) (mOp opAdd (mOp opMod (mVar 3) (mC (.int 10009))) (mOp opMul (mC (.int 89)) (mOp opIx (mVar 0) (mC (.int 2)))))) (mC (.int 2305843009213693907))) (mC (.int 89))) (mVar 1)))))))
noncomputable def F__law_take : FT := mFun 5 2 b__law_take
noncomputable def b__law_pick : SM := (sRet (mOp opIx (mVar 1) (mCall F__law_take (mCons (mVar 0) (mCons (mCb cbLen (mCons (mVar 1) mNil)) mNil)))))
noncomputable def F__law_pick : FT := mFun 2 2 b__law_pick
noncomputable def b__law_sort : SM := (sSeq (sIf (mTru (mUn (isiD "bool") (mVar 0))) (sRet (mC (.str "bool"))) sNil)
    (sSeq (sIf (mTru (mUn (isiD "int") (mVar 0))) (sRet (mIf (mB (mChain opLe opLe (mUn unNeg (mC (.int 1000000))) (mVar 0) (mC (.int 1000000)))) (mC (.str "integer")) (mC .non))) sNil)
    (sSeq (sIf (bNot (mTru (mUn (isiD "str") (mVar 0)))) (sRet (mC .non)) sNil)
    (sSeq (sAsg (mTup (mCons (mC (.str "abcdefghijklmnopqrstuvwxyz0123456789-")) (mCons (mC (.str "text")) (mCons (mC (.int 20)) (mCons (mVar 0) mNil))))) (tgT 4 (tgCons (tgN 1) (tgCons (tgN 2) (tgCons (tgN 3) (tgCons (tgN 4) tgNil))))))
    (sSeq (sIf (bAnd (mB (mOp opNe (mVar 0) (mC (.str "")))) (mB (mOp opIn (mOp opIx (mVar 0) (mC (.int 0))) (mC (.str "#?"))))) (sSeq (sPar3 2 3 4 (mCons (mIf (mB (mOp opEq (mOp opIx (mVar 0) (mC (.int 0))) (mC (.str "#")))) (mC (.str "id")) (mC (.str "unknown"))) (mCons (mC (.int 80)) (mCons (mSl slD (mVar 0) (mPart (mC (.int 1))) mNoPart) mNil))))
    (sAsg (mOp opAdd (mVar 1) (mC (.str "./[]"))) (tgN 1))) sNil)
    (sSeq (sAsg (mAnd (mOp opLe (mCb cbLen (mCons (mVar 4) mNil)) (mVar 3)) (mOr (mOp opEq (mVar 2) (mC (.str "text"))) (mOp opNe (mVar 4) (mC (.str ""))))) (tgN 5))
    (sRet (mIf (bAnd (mTru (mVar 5)) (mTru (mCb cbAll (mCons (mLc (itS (mVar 4)) (tgN 6) bYes (mOp opIn (mVar 6) (mVar 1)) [6]) mNil)))) (mVar 2) (mC .non)))))))))
noncomputable def F__law_sort : FT := mFun 7 1 b__law_sort
noncomputable def b__law_deep (rec : FT) : SM := (sSeq (sIf (bNot (mTru (mUn (isiD "tuple") (mVar 0)))) (sRet (mIf (mB (mOp opIs (mCall F__law_sort (mCons (mVar 0) mNil)) (mC .non))) (mC .non) (mC (.int 0)))) sNil)
    (sSeq (sAsg (mLc (itT (mVar 0)) (tgN 2) bYes (mCall rec (mCons (mVar 2) mNil)) [2]) (tgN 1))
    (sSeq (sIf (bOr (mB (mOp opGt (mCb cbLen (mCons (mVar 0) mNil)) (mC (.int 16)))) (mB (mOp opIn (mC .non) (mVar 1)))) (sRet (mC .non)) sNil)
    (sRet (mOp opAdd (mC (.int 1)) (mCb cbMax (mCons (mOp opAdd (mLst (mCons (mC (.int 0)) mNil)) (mVar 1)) mNil)))))))
noncomputable def F__law_deep : Nat → FT
  | 0 => fun _ _ => .no
  | n + 1 => mFun 3 1 (b__law_deep (F__law_deep n))
noncomputable def b__law_plain : SM := (sSeq (sAsg (mMb mbJoin (mStr (mC (.str ""))) (mCons (mLc (itR1 (mCons (mCall F__law_pick (mCons (mVar 0) (mCons (mLst (mCons (mC (.int 0)) (mCons (mC (.int 1)) (mCons (mC (.int 1)) (mCons (mC (.int 2)) (mCons (mC (.int 5)) (mCons (mC (.int 20)) mNil))))))) mNil))) mNil)) (tgN 4) bYes (mCall F__law_pick (mCons (mVar 0) (mCons (mC (.str "az09-b")) mNil))) [4]) mNil)) (tgN 1))
    (sSeq (sAsg (mLst (mCons (mC (.str "7.id")) (mCons (mC (.str "net.z.id")) (mCons (mC (.str "main/box.b[0].id")) (mCons (mOp opMul (mC (.str "a")) (mC (.int 80))) (mCons (mC (.str "-")) (mCons (mC (.str "]")) mNil))))))) (tgN 2))
    (sSeq (sAsg (mOp opAdd (mCall F__law_pick (mCons (mVar 0) (mCons (mLst (mCons (mC (.str "#")) (mCons (mC (.str "?")) mNil))) mNil))) (mCall F__law_pick (mCons (mVar 0) (mCons (mVar 2) mNil)))) (tgN 3))
    (sSeq (sAsg (mLst (mCons (mCall F__law_take (mCons (mVar 0) (mCons (mC (.int 9)) mNil))) (mCons (mC (.int 1)) (mCons (mC (.int 0)) (mCons (mUn unNeg (mC (.int 1))) (mCons (mOp opPow (mC (.int 10)) (mC (.int 6))) (mCons (mUn unNeg (mOp opPow (mC (.int 10)) (mC (.int 6)))) (mCons (mCall F__law_take (mCons (mVar 0) (mCons (mOp opPow (mC (.int 10)) (mC (.int 6))) mNil))) mNil)))))))) (tgN 2))
    (sRet (mCall F__law_pick (mCons (mVar 0) (mCons (mOp opAdd (mVar 2) (mLst (mCons (mC (.bl true)) (mCons (mC (.bl false)) (mCons (mVar 1) (mCons (mVar 1) (mCons (mVar 3) mNil))))))) mNil))))))))
noncomputable def F__law_plain : FT := mFun 5 1 b__law_plain
noncomputable def b__law_value (rec : FT) : SM := (sSeq (sIf (bOr (mB (mOp opEq (mVar 1) (mC (.int 0)))) (mB (mOp opGt (mCall F__law_take (mCons (mVar 0) (mCons (mC (.int 3)) mNil))) (mC (.int 0))))) (sRet (mCall F__law_plain (mCons (mVar 0) mNil))) sNil)
    (sSeq (sAsg (mCall F__law_pick (mCons (mVar 0) (mCons (mLst (mCons (mC (.int 0)) (mCons (mC (.int 1)) (mCons (mC (.int 2)) (mCons (mC (.int 3)) (mCons (mC (.int 3)) (mCons (mIf (mB (mOp opEq (mVar 1) (mC (.int 1)))) (mC (.int 16)) (mC (.int 2))) mNil))))))) mNil))) (tgN 2))
    (sRet (mCb cbTuple (mCons (mLc (itR1 (mCons (mVar 2) mNil)) (tgN 3) bYes (mCall rec (mCons (mVar 0) (mCons (mOp opSub (mVar 1) (mC (.int 1))) mNil))) [3]) mNil)))))
noncomputable def F__law_value : Nat → FT
  | 0 => fun _ _ => .no
  | n + 1 => mFun 4 2 (b__law_value (F__law_value n))
noncomputable def b__law_near : SM := (sSeq (sAsg (mLst (mCons (mC .non) (mCons (mC (.bl true)) (mCons (mC (.bl false)) (mCons (mC (.int 0)) (mCons (mC (.int 1)) (mCons (mUn unNeg (mC (.int 1))) (mCons (mOp opAdd (mOp opPow (mC (.int 10)) (mC (.int 6))) (mC (.int 1))) (mCons (mC (.str "")) (mCons (mC (.str "a")) (mCons (mC (.str "#")) (mCons (mC (.str "?a")) (mCons (mC (.str "A")) (mCons (mC (.str "a b")) (mCons (mTup mNil) (mCons (mLst mNil) (mCons mDic0 (mCons (mTup (mCons (mC (.int 0)) mNil)) (mCons (mTup (mCons (mTup mNil) mNil)) mNil))))))))))))))))))) (tgN 2))
    (sSeq (sIf (mTru (mUn (isiD "tuple") (mVar 1))) (sSeq (sAsg (mLst (mCons (mCb cbList (mCons (mVar 1) mNil)) (mCons (mSl slD (mVar 1) mNoPart (mPart (mUn unNeg (mC (.int 1))))) (mCons (mOp opAdd (mVar 1) (mSl slD (mVar 1) (mPart (mUn unNeg (mC (.int 1)))) mNoPart)) (mCons (mRevT (mVar 1)) (mCons (mTup (mCons (mVar 1) mNil)) (mCons (mOp opMul (mVar 1) (mC (.int 9))) (mCons (mOp opAdd (mVar 1) (mTup (mCons (mC (.int 0)) mNil))) mNil)))))))) (tgN 3))
    (sAsg (mOp opAdd (mSl slD (mVar 2) mNoPart (mPart (mC (.int 6)))) (mOp opMul (mVar 3) (mC (.int 2)))) (tgN 2))) (sIf (mTru (mUn (isiD "str") (mVar 1))) (sSeq (sAsg (mLst (mCons (mOp opAdd (mVar 1) (mC (.str "a"))) (mCons (mSl slD (mVar 1) mNoPart (mPart (mUn unNeg (mC (.int 1))))) (mCons (mMb mbUpper (mStr (mVar 1)) mNil) (mCons (mOp opAdd (mC (.str "#")) (mVar 1)) (mCons (mOp opAdd (mC (.str "?")) (mVar 1)) (mCons (mOp opMul (mVar 1) (mC (.int 9))) (mCons (mOp opAdd (mVar 1) (mC (.str " "))) (mCons (mTup (mCons (mVar 1) mNil)) mNil))))))))) (tgN 3))
    (sAsg (mOp opAdd (mSl slD (mVar 2) mNoPart (mPart (mC (.int 6)))) (mOp opMul (mVar 3) (mC (.int 2)))) (tgN 2))) (sIf (mTru (mUn (isiD "int") (mVar 1))) (sSeq (sAsg (mLst (mCons (mOp opAdd (mVar 1) (mC (.int 1))) (mCons (mUn unNeg (mVar 1)) (mCons (mCb cbStr (mCons (mVar 1) mNil)) (mCons (mOp opEq (mVar 1) (mC (.int 1))) (mCons (mCb cbInt (mCons (mVar 1) mNil)) (mCons (mOp opSub (mOp opPow (mC (.int 10)) (mC (.int 6))) (mVar 1)) (mCons (mTup (mCons (mVar 1) mNil)) mNil)))))))) (tgN 3))
    (sAsg (mOp opAdd (mSl slD (mVar 2) mNoPart (mPart (mC (.int 6)))) (mOp opMul (mVar 3) (mC (.int 2)))) (tgN 2))) sNil)))
    (sRet (mCall F__law_pick (mCons (mVar 0) (mCons (mVar 2) mNil))))))
noncomputable def F__law_near : FT := mFun 4 2 b__law_near
noncomputable def b__law_bent (rec : FT) : SM := (sSeq (sIf (bOr (mB (mOp opEq (mVar 2) (mC (.int 0)))) (bOr (bNot (mTru (mUn (isiD "tuple") (mVar 1)))) (bOr (mB (mOp opEq (mVar 1) (mTup mNil))) (mB (mOp opEq (mCall F__law_take (mCons (mVar 0) (mCons (mC (.int 4)) mNil))) (mC (.int 0))))))) (sRet (mCall F__law_near (mCons (mVar 0) (mCons (mVar 1) mNil)))) sNil)
    (sSeq (sAsg (mCall F__law_take (mCons (mVar 0) (mCons (mCb cbLen (mCons (mVar 1) mNil)) mNil))) (tgN 3))
    (sRet (mOp opAdd (mOp opAdd (mSl slD (mVar 1) mNoPart (mPart (mVar 3))) (mTup (mCons (mCall rec (mCons (mVar 0) (mCons (mOp opIx (mVar 1) (mVar 3)) (mCons (mOp opSub (mVar 2) (mC (.int 1))) mNil)))) mNil))) (mSl slD (mVar 1) (mPart (mOp opAdd (mVar 3) (mC (.int 1)))) mNoPart)))))
noncomputable def F__law_bent : Nat → FT
  | 0 => fun _ _ => .no
  | n + 1 => mFun 4 3 (b__law_bent (F__law_bent n))
noncomputable def b__law_asked : SM := (sSeq (sPar 1 2 (mCons (mCb cbShow (mCons (mVar 0) mNil)) (mCons (mCall (F__law_deep 10) (mCons (mVar 0) mNil)) mNil)))
    (sRet (mAnd (mOp opEq (mCb cbShow (mCons (mCall F_is_value (mCons (mVar 0) mNil)) mNil)) (mCb cbShow (mCons (mAnd (mOp opIsNot (mVar 2) (mC .non)) (mOp opLe (mVar 2) (mC (.int 3)))) mNil))) (mOp opEq (mCb cbShow (mCons (mVar 0) mNil)) (mVar 1)))))
noncomputable def F__law_asked : FT := mFun 3 1 b__law_asked
noncomputable def b__law_by_hand : SM := (sSeq (sAsg (mLst (mCons (mOp opPow (mC (.int 10)) (mC (.int 6))) (mCons (mOp opAdd (mOp opPow (mC (.int 10)) (mC (.int 6))) (mC (.int 1))) (mCons (mUn unNeg (mOp opPow (mC (.int 10)) (mC (.int 6)))) (mCons (mOp opSub (mUn unNeg (mOp opPow (mC (.int 10)) (mC (.int 6)))) (mC (.int 1))) (mCons (mOp opPow (mC (.int 10)) (mC (.int 30))) (mCons (mC (.bl true)) (mCons (mC (.bl false)) (mCons (mC .non) (mCons (mC (.str "")) (mCons (mOp opMul (mC (.str "a")) (mC (.int 20))) (mCons (mOp opMul (mC (.str "a")) (mC (.int 21))) mNil)))))))))))) (tgN 0))
    (sSeq (sAsg (mOp opAdd (mVar 0) (mLst (mCons (mC (.str "A")) (mCons (mC (.str "#")) (mCons (mC (.str "?")) (mCons (mOp opAdd (mC (.str "#")) (mOp opMul (mC (.str "a")) (mC (.int 80)))) (mCons (mOp opAdd (mC (.str "#")) (mOp opMul (mC (.str "a")) (mC (.int 81)))) (mCons (mOp opAdd (mC (.str "?")) (mOp opMul (mC (.str "a")) (mC (.int 80)))) (mCons (mOp opAdd (mC (.str "?")) (mOp opMul (mC (.str "a")) (mC (.int 81)))) (mCons (mC (.str "##")) (mCons (mC (.str "#?")) (mCons (mC (.str "?#")) mNil)))))))))))) (tgN 0))
    (sSeq (sAsg (mOp opAdd (mVar 0) (mLst (mCons (mC (.str "#a b")) (mCons (mC (.str "a.b")) (mCons (mC (.str "a/b")) (mCons (mC (.str "a[0]")) (mCons (mC (.str "#a.b/c[0]-1")) (mCons (mC (.str "?a.b/c[0]-1")) (mCons (mC (.str "?A")) (mCons (mC (.str "-")) (mCons (mC (.str "--")) (mCons (mC (.str "#-")) (mCons (mC (.str " ")) (mCons (mC (.str "a\n")) mNil)))))))))))))) (tgN 0))
    (sSeq (sAsg (mAddR (mVar 0) (mLst (mCons (mC (.str "#\n")) (mCons (mTup mNil) (mCons (mOp opMul (mTup (mCons (mC (.int 1)) mNil)) (mC (.int 16))) (mCons (mOp opMul (mTup (mCons (mC (.int 1)) mNil)) (mC (.int 17))) (mCons (mTup (mCons (mTup mNil) mNil)) (mCons (mTup (mCons (mTup (mCons (mTup mNil) mNil)) mNil)) (mCons (mTup (mCons (mTup (mCons (mTup (mCons (mTup mNil) mNil)) mNil)) mNil)) (mCons (mTup (mCons (mTup (mCons (mTup (mCons (mC (.int 1)) mNil)) mNil)) mNil)) (mCons (mTup (mCons (mTup (mCons (mTup (mCons (mTup (mCons (mC (.int 1)) mNil)) mNil)) mNil)) mNil)) mNil))))))))))) (tgN 0))
    (sSeq (sExp (mApp (mVar 0) (mTup (mCons (mTup (mCons (mTup mNil) mNil)) (mCons (mC (.int 1)) (mCons (mC (.str "a")) mNil))))))
    (sSeq (sAsg (mOp opAdd (mVar 0) (mLst (mCons (mLst mNil) (mCons (mLst (mCons (mC (.int 1)) mNil)) (mCons (mTup (mCons (mLst (mCons (mC (.int 1)) mNil)) mNil)) (mCons mDic0 (mCons (mDic1 "a" (mC (.int 1))) (mCons (mTup (mCons mDic0 mNil)) (mCons (mTup (mCons (mC .non) mNil)) (mCons (mTup (mCons (mC (.str "A")) mNil)) (mCons (mTup (mCons (mTup (mCons (mOp opPow (mC (.int 10)) (mC (.int 7))) mNil)) mNil)) (mCons (mTup (mCons (mTup (mCons (mTup mNil) (mCons (mTup (mCons (mTup mNil) (mCons (mTup mNil) mNil))) mNil))) mNil)) mNil)))))))))))) (tgN 0))
    (sSeq (sAsg (mC (.str "!$&()*+,:;<=>@^_`{|}~ 5z")) (tgN 1))
    (sRet (mOp opAdd (mOp opAdd (mOp opAdd (mVar 0) (mLc (itS (mVar 1)) (tgN 2) bYes (mVar 2) [2])) (mLc (itS (mVar 1)) (tgN 2) bYes (mOp opAdd (mC (.str "#")) (mVar 2)) [2])) (mLc (itS (mVar 1)) (tgN 2) bYes (mOp opAdd (mC (.str "?")) (mVar 2)) [2]))))))))))
noncomputable def F__law_by_hand : FT := mFun 3 0 b__law_by_hand
noncomputable def b__law_right : SM := (sSeq (sFor (itR1 (mCons (mC (.int 20)) mNil)) (tgN 1) (sSeq (sAsg (mCall (F__law_value 5) (mCons (mVar 0) (mCons (mC (.int 3)) mNil))) (tgN 2))
    (sIf (bOr (bNot (mTru (mCall F__law_asked (mCons (mVar 2) mNil)))) (bNot (mTru (mCb cbAll (mCons (mLc (itR1 (mCons (mC (.int 6)) mNil)) (tgN 3) bYes (mCall F__law_asked (mCons (mCall (F__law_bent 5) (mCons (mVar 0) (mCons (mVar 2) (mCons (mC (.int 3)) mNil)))) mNil)) [3]) mNil))))) (sRet (mC (.bl false))) sNil)))
    (sRet (mC (.bl true))))
noncomputable def F__law_right : FT := mFun 4 1 b__law_right
noncomputable def b_law : SM := (sSeq (sIf (bNot (mTru (mCb cbAll (mCons (mLc (itL (mCall F__law_by_hand mNil)) (tgN 2) bYes (mCall F__law_asked (mCons (mVar 2) mNil)) [2]) mNil)))) (sRet (mC (.bl false))) sNil)
    (sSeq (sIf (bOr (mTru (mCall F_is_value (mCons (mCm "Record" F_Record_of (mCons (mTup (mCons (mTup (mCons (mC (.str "a")) (mCons (mC (.int 1)) mNil))) mNil)) mNil)) mNil))) (bOr (mTru (mCall F_is_value (mCons (mTup (mCons (mMk0 "Record" "this_record" F_Record___init__) mNil)) mNil))) (mTru (mCall F_is_value (mCons (mDic1 "a" (mMk0 "Record" "this_record" F_Record___init__)) mNil))))) (sRet (mC (.bl false))) sNil)
    (sRet (mCb cbAll (mCons (mLc (itR1 (mCons (mCb cbMax (mCons (mC (.int 1)) (mCons (mCb cbMin (mCons (mC (.int 3)) (mCons (mCb cbLen (mCons (mVar 0) mNil)) mNil))) mNil))) mNil)) (tgN 1) bYes (mCall F__law_right (mCons (mCall F__law_pot (mCons (mVar 0) (mCons (mVar 1) mNil))) mNil)) [1]) mNil)))))
noncomputable def F_law : FT := mFun 3 1 b_law
section
variable {P : Program} {w : World} {K : PySem.W.Frag} {mg : Str → Option Value} {base : Heap}
theorem sc_is_integer : FnScope N_is_integer ["value"] (defScope s_is_integer) := ⟨rfl, rfl, rfl, by decide +kernel, rfl, by decide +kernel, by decide +kernel⟩
theorem ok_is_integer (T : Tx K mg) : FnG P w K mg base CX0 1 T.is_integer.f T.is_integer.fd ["value"] (spM ⟨K, mg⟩ F_is_integer) :=
  fn_mir (k := 0) T.is_integer.fu sc_is_integer fun cdv A outer s H E hr => (mss_one (ms_ret (me_and (me_isiX T.cf_Record T.ki_Record_int rfl T.z_isinstance (by decide +kernel) rfl T.z_int (by decide +kernel) (mv 0)) (me_one (me_not (me_isiX T.cf_Record T.ki_Record_bool rfl T.z_isinstance (by decide +kernel) rfl T.z_bool (by decide +kernel) (mv 0)))))))
theorem sc_is_name : FnScope N_is_name ["value"] (defScope s_is_name) := ⟨rfl, rfl, rfl, by decide +kernel, rfl, by decide +kernel, by decide +kernel⟩
theorem ok_is_name (T : Tx K mg) : FnG P w K mg base CX0 1 T.is_name.f T.is_name.fd ["value"] (spM ⟨K, mg⟩ F_is_name) :=
  fn_mir (k := 0) T.is_name.fu sc_is_name fun cdv A outer s H E hr => (mss_one (ms_ret (me_and (me_isi rfl T.z_isinstance (by decide +kernel) rfl T.z_str (by decide +kernel) (mv 0)) (me_and (me_chain op_le_M op_le_M me_int (me_callB cb_len rfl T.z_len (by decide +kernel) (ma_cons (mv 0) ma_nil)) (me_glob (d := .int 12) (v := .int 12) rfl T.c_MOST_NAME ⟨_, rfl⟩ fun _ _ => .int _)) (me_one (me_callB (cb_all rfl) rfl T.z_all (by decide +kernel) (ma_cons (me_lc (own := [("sign", 1)]) rfl sc_is_name.nd (mi_str (mv 0)) (blkOk_by (own := [("sign", 1)]) (N := N_is_name) (sc := defScope s_is_name) (by decide +kernel)) (fun _ _ _ _ _ => (mg_name (i := 1) sc_is_name.nd rfl (by first | exact Or.inl rfl | exact Or.inr rfl))) (fun _ _ _ _ _ => mts_nil) (fun _ _ _ _ _ => (me_cmp (op_in_M (hu65 hr)) (mv 1) (me_glob (d := .str "abcdefghijklmnopqrstuvwxyz") (v := .str "abcdefghijklmnopqrstuvwxyz") rfl T.c_LETTERS ⟨_, rfl⟩ fun _ _ => .str _ (by decide)) (by rfl)))) ma_nil)))))))
theorem sc_is_text : FnScope N_is_text ["value"] (defScope s_is_text) := ⟨rfl, rfl, rfl, by decide +kernel, rfl, by decide +kernel, by decide +kernel⟩
theorem ok_is_text (T : Tx K mg) : FnG P w K mg base CX0 1 T.is_text.f T.is_text.fd ["value"] (spM ⟨K, mg⟩ F_is_text) :=
  fn_mir (k := 0) T.is_text.fu sc_is_text fun cdv A outer s H E hr => (mss_one (ms_ret (me_and (me_isiX T.cf_Record T.ki_Record_str rfl T.z_isinstance (by decide +kernel) rfl T.z_str (by decide +kernel) (mv 0)) (me_and (me_cmp op_le_M (me_callB cb_len rfl T.z_len (by decide +kernel) (ma_cons (mv 0) ma_nil)) (me_glob (d := .int 20) (v := .int 20) rfl T.c_MOST_TEXT ⟨_, rfl⟩ fun _ _ => .int _) (nomark _)) (me_one (me_callB (cb_all rfl) rfl T.z_all (by decide +kernel) (ma_cons (me_lc (own := [("sign", 1)]) rfl sc_is_text.nd (mi_str (mv 0)) (blkOk_by (own := [("sign", 1)]) (N := N_is_text) (sc := defScope s_is_text) (by decide +kernel)) (fun _ _ _ _ _ => (mg_name (i := 1) sc_is_text.nd rfl (by first | exact Or.inl rfl | exact Or.inr rfl))) (fun _ _ _ _ _ => mts_nil) (fun _ _ _ _ _ => (me_cmp (op_in_M (hu65 hr)) (mv 1) (me_glob (d := .str "abcdefghijklmnopqrstuvwxyz0123456789-") (v := .str "abcdefghijklmnopqrstuvwxyz0123456789-") rfl T.c_TEXT_SIGNS ⟨_, rfl⟩ fun _ _ => .str _ (by decide)) (by rfl)))) ma_nil)))))))
theorem sc_is_marked : FnScope N_is_marked ["value", "mark"] (defScope s_is_marked) := ⟨rfl, rfl, rfl, by decide +kernel, rfl, by decide +kernel, by decide +kernel⟩
theorem ok_is_marked (T : Tx K mg) : FnG P w K mg base CX0 1 T.is_marked.f T.is_marked.fd ["value", "mark"] (spM ⟨K, mg⟩ F_is_marked) :=
  fn_mir (k := 0) T.is_marked.fu sc_is_marked fun cdv A outer s H E hr => (mss_cons (ms_if (mt_w (mw_or (mt_not (mt_truth (me_isiX T.cf_Record T.ki_Record_str rfl T.z_isinstance (by decide +kernel) rfl T.z_str (by decide +kernel) (mv 0)))) (mw_or (mt_not (mt_chain op_le_M op_le_M me_int (me_callB cb_len rfl T.z_len (by decide +kernel) (ma_cons (mv 0) ma_nil)) (me_glob (d := .int 81) (v := .int 81) rfl T.c_MOST_ID ⟨_, rfl⟩ fun _ _ => .int _))) (mw_or1 (mt_cmp (op_ne_M hr.units) (me_ix ix_M (mv 0) me_int (fun _ _ => rfl)) (mv 1) (nomark _)))))) (mss_one (ms_ret me_bl)) mss_nil)
    (mss_one (ms_ret (me_callB (cb_all rfl) rfl T.z_all (by decide +kernel) (ma_cons (me_lc (own := [("sign", 2)]) rfl sc_is_marked.nd (mi_str (me_slice sl_M (mv 0) (mo_some me_int) mo_none)) (blkOk_by (own := [("sign", 2)]) (N := N_is_marked) (sc := defScope s_is_marked) (by decide +kernel)) (fun _ _ _ _ _ => (mg_name (i := 2) sc_is_marked.nd rfl (by first | exact Or.inl rfl | exact Or.inr rfl))) (fun _ _ _ _ _ => mts_nil) (fun _ _ _ _ _ => (me_cmp (op_in_M (hu65 hr)) (mv 2) (me_glob (d := .str "abcdefghijklmnopqrstuvwxyz0123456789-./[]") (v := .str "abcdefghijklmnopqrstuvwxyz0123456789-./[]") rfl T.c_ID_SIGNS ⟨_, rfl⟩ fun _ _ => .str _ (by decide)) (by rfl)))) ma_nil)))))
theorem sc_is_id : FnScope N_is_id ["value"] (defScope s_is_id) := ⟨rfl, rfl, rfl, by decide +kernel, rfl, by decide +kernel, by decide +kernel⟩
theorem ok_is_id (T : Tx K mg) : FnG P w K mg base CX0 2 T.is_id.f T.is_id.fd ["value"] (spM ⟨K, mg⟩ F_is_id) :=
  fn_mir (k := 1) T.is_id.fu sc_is_id fun cdv A outer s H E hr => (mss_one (ms_ret (me_call (ok_is_marked T) (hr.mono (by omega)) rfl T.is_marked.mgx T.is_marked.fu.kp T.is_marked.bd (ma_cons (mv 0) (ma_cons (me_glob (d := .str "#") (v := .str "#") rfl T.c_ID_MARK ⟨_, rfl⟩ fun _ _ => .str _ (by decide)) ma_nil)))))
theorem sc_is_unknown : FnScope N_is_unknown ["value"] (defScope s_is_unknown) := ⟨rfl, rfl, rfl, by decide +kernel, rfl, by decide +kernel, by decide +kernel⟩
theorem ok_is_unknown (T : Tx K mg) : FnG P w K mg base CX0 2 T.is_unknown.f T.is_unknown.fd ["value"] (spM ⟨K, mg⟩ F_is_unknown) :=
  fn_mir (k := 1) T.is_unknown.fu sc_is_unknown fun cdv A outer s H E hr => (mss_one (ms_ret (me_call (ok_is_marked T) (hr.mono (by omega)) rfl T.is_marked.mgx T.is_marked.fu.kp T.is_marked.bd (ma_cons (mv 0) (ma_cons (me_glob (d := .str "?") (v := .str "?") rfl T.c_UNKNOWN_MARK ⟨_, rfl⟩ fun _ _ => .str _ (by decide)) ma_nil)))))
theorem sc_is_plain : FnScope N_is_plain ["value"] (defScope s_is_plain) := ⟨rfl, rfl, rfl, by decide +kernel, rfl, by decide +kernel, by decide +kernel⟩
theorem ok_is_plain (T : Tx K mg) : FnG P w K mg base CX0 3 T.is_plain.f T.is_plain.fd ["value"] (spM ⟨K, mg⟩ F_is_plain) :=
  fn_mir (k := 2) T.is_plain.fu sc_is_plain fun cdv A outer s H E hr => (mss_cons (ms_if (mt_truth (me_call (ok_is_integer T) (hr.mono (by omega)) rfl T.is_integer.mgx T.is_integer.fu.kp T.is_integer.bd (ma_cons (mv 0) ma_nil))) (mss_one (ms_ret (me_chain op_le_M op_le_M (me_un un_neg_M (me_glob (d := .int 1000000) (v := .int 1000000) rfl T.c_MOST_INTEGER ⟨_, rfl⟩ fun _ _ => .int _)) (mv 0) (me_glob (d := .int 1000000) (v := .int 1000000) rfl T.c_MOST_INTEGER ⟨_, rfl⟩ fun _ _ => .int _)))) mss_nil)
    (mss_one (ms_ret (me_or (me_isiX T.cf_Record T.ki_Record_bool rfl T.z_isinstance (by decide +kernel) rfl T.z_bool (by decide +kernel) (mv 0)) (me_or (me_call (ok_is_text T) (hr.mono (by omega)) rfl T.is_text.mgx T.is_text.fu.kp T.is_text.bd (ma_cons (mv 0) ma_nil)) (me_or (me_call (ok_is_id T) (hr.mono (by omega)) rfl T.is_id.mgx T.is_id.fu.kp T.is_id.bd (ma_cons (mv 0) ma_nil)) (me_one (me_call (ok_is_unknown T) (hr.mono (by omega)) rfl T.is_unknown.mgx T.is_unknown.fu.kp T.is_unknown.bd (ma_cons (mv 0) ma_nil)))))))))
theorem sc_depth_of : FnScope N_depth_of ["value"] (defScope s_depth_of) := ⟨rfl, rfl, rfl, by decide +kernel, rfl, by decide +kernel, by decide +kernel⟩
theorem ok_depth_of (T : Tx K mg) : ∀ n : Nat, FnG P w K mg base CX0 (3 + n) T.depth_of.f T.depth_of.fd ["value"] (spM ⟨K, mg⟩ (F_depth_of n))
  | 0 => fn_none
  | n + 1 => by
    have ih := ok_depth_of T n
    exact fn_mir (k := 3 + n) T.depth_of.fu sc_depth_of fun cdv A outer s H E hr => (mss_cons (ms_if (mt_not (mt_truth (me_isiX T.cf_Record T.ki_Record_tuple rfl T.z_isinstance (by decide +kernel) rfl T.z_tuple (by decide +kernel) (mv 0)))) (mss_one (ms_ret (me_if (mt_truth (me_call (ok_is_plain T) (hr.mono (by omega)) rfl T.is_plain.mgx T.is_plain.fu.kp T.is_plain.bd (ma_cons (mv 0) ma_nil))) me_int me_non))) mss_nil)
    (mss_cons (ms_setLc (i := 1) (own := [("part", 2)]) rfl sc_depth_of.nd rfl rfl (sw_true rfl rfl rfl (by decide +kernel)) (mi_tup (mv 0)) (blkOk_by (own := [("part", 2)]) (N := N_depth_of) (sc := defScope s_depth_of) (by decide +kernel)) (fun _ _ _ _ _ => (mg_name (i := 2) sc_depth_of.nd rfl (by first | exact Or.inl rfl | exact Or.inr rfl))) (fun _ _ _ _ _ => mts_nil) (fun _ _ _ _ _ => (me_call ih (hr.mono (by omega)) rfl T.depth_of.mgx T.depth_of.fu.kp T.depth_of.bd (ma_cons (mv 2) ma_nil))))
    (mss_cons (ms_if (mt_w (mw_or (mt_cmp op_gt_M (me_callB cb_len rfl T.z_len (by decide +kernel) (ma_cons (mv 0) ma_nil)) (me_glob (d := .int 16) (v := .int 16) rfl T.c_MOST_LIST ⟨_, rfl⟩ fun _ _ => .int _) (nomark _)) (mw_or1 (mt_cmp (op_in_M (hu65 hr)) me_non (mv 1) (by rfl))))) (mss_one (ms_ret me_non)) mss_nil)
    (mss_one (ms_ret (me_op op_add_M me_int (me_maxDf rfl hr rfl T.z_max (by decide +kernel) (mv 1))))))))
theorem sc_is_value : FnScope N_is_value ["value"] (defScope s_is_value) := ⟨rfl, rfl, rfl, by decide +kernel, rfl, by decide +kernel, by decide +kernel⟩
theorem ok_is_value (T : Tx K mg) : FnG P w K mg base CX0 14 T.is_value.f T.is_value.fd ["value"] (spM ⟨K, mg⟩ F_is_value) :=
  fn_mir (k := 13) T.is_value.fu sc_is_value fun cdv A outer s H E hr => (mss_cons (ms_set (i := 1) sc_is_value.nd rfl (by first | exact Or.inl rfl | exact Or.inr rfl) (me_call (ok_depth_of T 10) (hr.mono (by omega)) rfl T.depth_of.mgx T.depth_of.fu.kp T.depth_of.bd (ma_cons (mv 0) ma_nil)))
    (mss_one (ms_ret (me_and (me_cmp op_isnot_M (mv 1) me_non (nomark _)) (me_one (me_cmp op_le_M (mv 1) (me_glob (d := .int 3) (v := .int 3) rfl T.c_MOST_DEPTH ⟨_, rfl⟩ fun _ _ => .int _) (nomark _)))))))
theorem sc_check_parts : FnScope N_check_parts ["fields"] (defScope s_check_parts) := ⟨rfl, rfl, rfl, by decide +kernel, rfl, by decide +kernel, by decide +kernel⟩
theorem ok_check_parts (T : Tx K mg) : FnG P w K mg base CX0 2 T.check_parts.f T.check_parts.fd ["fields"] (spM ⟨K, mg⟩ F_check_parts) :=
  fn_mir (k := 1) T.check_parts.fu sc_check_parts fun cdv A outer s H E hr => (mss_one (ms_if (mt_w (mw_or (mt_cmp op_gt_M (me_callB cb_lenD rfl T.z_len (by decide +kernel) (ma_cons (mv 0) ma_nil)) (me_glob (d := .int 12) (v := .int 12) rfl T.c_MOST_PARTS ⟨_, rfl⟩ fun _ _ => .int _) (nomark _)) (mw_or1 (mt_not (mt_truth (me_callB (cb_all rfl) rfl T.z_all (by decide +kernel) (ma_cons (me_lcK (own := [("name", 1)]) rfl sc_check_parts.nd (pv 0) (blkOk_by (own := [("name", 1)]) (N := N_check_parts) (sc := defScope s_check_parts) (by decide +kernel)) (fun _ _ _ _ _ => (mg_name (i := 1) sc_check_parts.nd rfl (by first | exact Or.inl rfl | exact Or.inr rfl))) (fun _ _ _ _ _ => mts_nil) (fun _ _ _ _ _ => (me_and (me_call (ok_is_name T) (hr.mono (by omega)) rfl T.is_name.mgx T.is_name.fu.kp T.is_name.bd (ma_cons (mv 1) ma_nil)) (me_one (me_cmp (op_ne_M hr.units) (mv 1) (me_glob (d := .str "self") (v := .str "self") rfl T.c_SELF ⟨_, rfl⟩ fun _ _ => .str _ (by decide)) (nomark _)))))) ma_nil))))))) (mss_one ms_no) mss_nil))
theorem sc_Record___init__ : FnScope N_Record___init__ ["this_record", "fields"] (defScope s_Record___init__) := ⟨rfl, rfl, rfl, by decide +kernel, rfl, by decide +kernel, by decide +kernel⟩
theorem ok_Record___init__ (T : Tx K mg) : Kw.FnK P w K mg base CX0 3 T.Record___init__.f (spK ⟨K, mg⟩ "this_record" F_Record___init__) :=
  fn_mirK (k := 2) T.Record___init__.lk T.Record___init__.cd sc_Record___init__ rfl fun A outer s H E hr => (mss_cons (ms_expr (me_call (ok_check_parts T) (hr.mono (by omega)) rfl T.check_parts.mgx T.check_parts.fu.kp T.check_parts.bd (ma_cons (mv 1) ma_nil)))
    (mss_one (ms_setF (me_dc (own := [("name", 2)]) rfl sc_Record___init__.nd (mi_list (me_callB (cb_sortD rfl) rfl T.z_sorted (by decide +kernel) (ma_cons (mv 1) ma_nil))) (blkOk_by (own := [("name", 2)]) (N := N_Record___init__) (sc := defScope s_Record___init__) (by decide +kernel)) (fun _ _ _ _ _ => (mg_name (i := 2) sc_Record___init__.nd rfl (by first | exact Or.inl rfl | exact Or.inr rfl))) (fun _ _ _ _ _ => mts_nil) (fun _ _ _ _ _ => (mv 2)) (fun _ _ _ _ _ => (me_dget hr (mv 1) (mv 2) (fun _ _ => rfl)))) (mv 0) T.g_Record T.cf_Record.cl T.na_Record_held_parts)))
theorem sc_Record_of : FnScope N_Record_of ["cls", "pairs"] (defScope s_Record_of) := ⟨rfl, rfl, rfl, by decide +kernel, rfl, by decide +kernel, by decide +kernel⟩
theorem ok_Record_of (T : Tx K mg) : FnG P w K mg base CX0 5 T.Record_of.f T.Record_of.fd ["cls", "pairs"] (spM ⟨K, mg⟩ F_Record_of) :=
  fn_mir (k := 4) T.Record_of.fu sc_Record_of fun cdv A outer s H E hr => (mss_cons (ms_setDc (i := 2) (own := [("name", 3), ("part", 4)]) rfl sc_Record_of.nd rfl rfl (swD_true rfl rfl rfl (by decide +kernel)) (mi_tup (mv 1)) (blkOk_by (own := [("name", 3), ("part", 4)]) (N := N_Record_of) (sc := defScope s_Record_of) (by decide +kernel)) (fun _ _ _ _ _ => (mg_tup rfl (mgs_cons (mg_name (i := 3) sc_Record_of.nd rfl (by first | exact Or.inl rfl | exact Or.inr rfl)) (mgs_cons (mg_name (i := 4) sc_Record_of.nd rfl (by first | exact Or.inl rfl | exact Or.inr rfl)) mgs_nil)))) (fun _ _ _ _ _ => mts_nil) (fun _ _ _ _ _ => (mv 3)) (fun _ _ _ _ _ => (mv 4)))
    (mss_cons (ms_expr (me_call (ok_check_parts T) (hr.mono (by omega)) rfl T.check_parts.mgx T.check_parts.fu.kp T.check_parts.bd (ma_cons (mv 2) ma_nil)))
    (mss_one (ms_ret (me_mkV (pv 0) (pv 2) T.mk_Record (ok_Record___init__ T) (hr.mono (by omega)) T.g_Record)))))
theorem sc__law_pot : FnScope N__law_pot ["_law_script", "_law_k"] (defScope s__law_pot) := ⟨rfl, rfl, rfl, by decide +kernel, rfl, by decide +kernel, by decide +kernel⟩
theorem ok__law_pot (T : Tx K mg) : FnG P w K mg base CX0 1 T._law_pot.f T._law_pot.fd ["_law_script", "_law_k"] (spM ⟨K, mg⟩ F__law_pot) :=
  fn_mir (k := 0) T._law_pot.fu sc__law_pot fun cdv A outer s H E hr => (mss_cons (ms_set (i := 2) sc__law_pot.nd rfl (by first | exact Or.inl rfl | exact Or.inr rfl) (me_if (mt_cmp op_lt_M (mv 1) (me_callB cb_len rfl T.z_len (by decide +kernel) (ma_cons (mv 0) ma_nil)) (nomark _)) (me_ix ix_M (mv 0) (mv 1) (fun _ _ => rfl)) (me_op op_add_M (me_op op_mul_M me_int (mv 1)) me_int)))
    (mss_cons (ms_set (i := 3) sc__law_pot.nd rfl (by first | exact Or.inl rfl | exact Or.inr rfl) (me_if (mt_cmp op_ge_M (me_callB cb_abs rfl T.z_abs (by decide +kernel) (ma_cons (mv 2) ma_nil)) (me_op op_pow_M me_int me_int) (nomark _)) (me_op op_mod_M (me_callB cb_abs rfl T.z_abs (by decide +kernel) (ma_cons (mv 2) ma_nil)) (me_op op_pow_M (me_op op_pow_M me_int me_int) me_int)) me_int))
    (mss_one (ms_ret (me_lstR (ma_cons (mv 3) (ma_cons (me_op op_mod_M (me_op op_add_M (me_op op_add_M (me_op op_mul_M (me_op op_mod_M (mv 2) me_int) me_int) (me_op op_mul_M (me_op op_mul_M me_int (mv 1)) (mv 1))) me_int) me_int) (ma_cons me_int ma_nil))))))))
theorem sc__law_take : FnScope N__law_take ["_law_pot_here", "_law_size"] (defScope s__law_take) := ⟨rfl, rfl, rfl, by decide +kernel, rfl, by decide +kernel, by decide +kernel⟩
theorem ok__law_take (T : Tx K mg) : FnG P w K mg base CX0 1 T._law_take.f T._law_take.fd ["_law_pot_here", "_law_size"] (spM ⟨K, mg⟩ F__law_take) :=
  fn_mir (k := 0) T._law_take.fu sc__law_take fun cdv A outer s H E hr => (mss_cons (ms_if (mt_cmp op_gt_M (me_ix ix_M (mv 0) me_int (fun _ _ => rfl)) me_int (nomark _)) (mss_cons (ms_set (i := 4) sc__law_take.nd rfl (by first | exact Or.inl rfl | exact Or.inr rfl) (me_op op_mod_M (me_ix ix_M (mv 0) me_int (fun _ _ => rfl)) (mv 1)))
    (mss_cons (ms_setIx (me_op op_div_M (me_ix ix_M (mv 0) me_int (fun _ _ => rfl)) (mv 1)) (mv 0) me_int)
    (mss_one (ms_ret (mv 4))))) mss_nil)
    (mss_cons (ms_setIx (me_op op_add_M (me_ix ix_M (mv 0) me_int (fun _ _ => rfl)) me_int) (mv 0) me_int)
    (mss_cons (ms_set (i := 2) sc__law_take.nd rfl (by first | exact Or.inl rfl | exact Or.inr rfl) (me_ix ix_M (me_lst (ma_cons me_int (ma_cons me_int (ma_cons me_int (ma_cons me_int (ma_cons me_int ma_nil)))))) (me_op op_mod_M (me_ix ix_M (mv 0) me_int (fun _ _ => rfl)) me_int) (fun _ _ => rfl)))
    (mss_cons (ms_set (i := 3) sc__law_take.nd rfl (by first | exact Or.inl rfl | exact Or.inr rfl) (me_op op_mod_M (me_op op_pow_M (me_op op_add_M (me_op op_add_M (me_ix ix_M (mv 0) me_int (fun _ _ => rfl)) (me_op op_mul_M (me_op op_mul_M me_int (me_ix ix_M (mv 0) me_int (fun _ _ => rfl))) (me_ix ix_M (mv 0) me_int (fun _ _ => rfl)))) me_int) me_int) (mv 2)))
    (mss_one (ms_ret (me_op op_mod_M (me_op op_div_M (me_op op_mod_M (me_op op_mul_M (mv 3) (me_op op_add_M (me_op op_mod_M (mv 3) me_int) (me_op op_mul_M me_int (me_ix ix_M (mv 0) me_int (fun _ _ => rfl))))) me_int) me_int) (mv 1))))))))
theorem sc__law_pick : FnScope N__law_pick ["_law_pot_here", "_law_some"] (defScope s__law_pick) := ⟨rfl, rfl, rfl, by decide +kernel, rfl, by decide +kernel, by decide +kernel⟩
theorem ok__law_pick (T : Tx K mg) : FnG P w K mg base CX0 2 T._law_pick.f T._law_pick.fd ["_law_pot_here", "_law_some"] (spM ⟨K, mg⟩ F__law_pick) :=
  fn_mir (k := 1) T._law_pick.fu sc__law_pick fun cdv A outer s H E hr => (mss_one (ms_ret (me_ix ix_M (mv 1) (me_call (ok__law_take T) (hr.mono (by omega)) rfl T._law_take.mgx T._law_take.fu.kp T._law_take.bd (ma_cons (mv 0) (ma_cons (me_callB cb_len rfl T.z_len (by decide +kernel) (ma_cons (mv 1) ma_nil)) ma_nil))) (fun _ _ => rfl))))
theorem sc__law_sort : FnScope N__law_sort ["_law_thing"] (defScope s__law_sort) := ⟨rfl, rfl, rfl, by decide +kernel, rfl, by decide +kernel, by decide +kernel⟩
theorem ok__law_sort (T : Tx K mg) : FnG P w K mg base CX0 1 T._law_sort.f T._law_sort.fd ["_law_thing"] (spM ⟨K, mg⟩ F__law_sort) :=
  fn_mir (k := 0) T._law_sort.fu sc__law_sort fun cdv A outer s H E hr => (mss_cons (ms_if (mt_truth (me_isi rfl T.z_isinstance (by decide +kernel) rfl T.z_bool (by decide +kernel) (mv 0))) (mss_one (ms_ret me_str)) mss_nil)
    (mss_cons (ms_if (mt_truth (me_isi rfl T.z_isinstance (by decide +kernel) rfl T.z_int (by decide +kernel) (mv 0))) (mss_one (ms_ret (me_if (mt_chain op_le_M op_le_M (me_un un_neg_M me_int) (mv 0) me_int) me_str me_non))) mss_nil)
    (mss_cons (ms_if (mt_not (mt_truth (me_isi rfl T.z_isinstance (by decide +kernel) rfl T.z_str (by decide +kernel) (mv 0)))) (mss_one (ms_ret me_non)) mss_nil)
    (mss_cons (ms_asg (me_tup (ma_cons me_str (ma_cons me_str (ma_cons me_int (ma_cons (mv 0) ma_nil))))) (mg_tup rfl (mgs_cons (mg_name (i := 1) sc__law_sort.nd rfl (by first | exact Or.inl rfl | exact Or.inr rfl)) (mgs_cons (mg_name (i := 2) sc__law_sort.nd rfl (by first | exact Or.inl rfl | exact Or.inr rfl)) (mgs_cons (mg_name (i := 3) sc__law_sort.nd rfl (by first | exact Or.inl rfl | exact Or.inr rfl)) (mgs_cons (mg_name (i := 4) sc__law_sort.nd rfl (by first | exact Or.inl rfl | exact Or.inr rfl)) mgs_nil))))))
    (mss_cons (ms_if (mt_w (mw_and (mt_cmp (op_ne_M hr.units) (mv 0) me_str (nomark _)) (mw_and1 (mt_cmp (op_in_M (hu65 hr)) (me_ix ix_M (mv 0) me_int (fun _ _ => rfl)) me_str (by rfl))))) (mss_cons (ms_par3 (i := 2) (j := 3) (l := 4) rfl sc__law_sort.nd rfl rfl rfl (by decide) (by decide) (by decide) rfl rfl rfl (ma_cons (me_if (mt_cmp (op_eq_M hr.units) (me_ix ix_M (mv 0) me_int (fun _ _ => rfl)) me_str (nomark _)) me_str me_str) (ma_cons me_int (ma_cons (me_slice sl_M (mv 0) (mo_some me_int) mo_none) ma_nil))))
    (mss_one (ms_set (i := 1) sc__law_sort.nd rfl (by first | exact Or.inl rfl | exact Or.inr rfl) (me_op op_add_M (mv 1) me_str)))) mss_nil)
    (mss_cons (ms_set (i := 5) sc__law_sort.nd rfl (by first | exact Or.inl rfl | exact Or.inr rfl) (me_and (me_cmp op_le_M (me_callB cb_len rfl T.z_len (by decide +kernel) (ma_cons (mv 4) ma_nil)) (mv 3) (nomark _)) (me_one (me_or (me_cmp (op_eq_M hr.units) (mv 2) me_str (nomark _)) (me_one (me_cmp (op_ne_M hr.units) (mv 4) me_str (nomark _)))))))
    (mss_one (ms_ret (me_if (mt_w (mw_and (mt_truth (mv 5)) (mw_and1 (mt_truth (me_callB (cb_all rfl) rfl T.z_all (by decide +kernel) (ma_cons (me_lc (own := [("_law_sign", 6)]) rfl sc__law_sort.nd (mi_str (mv 4)) (blkOk_by (own := [("_law_sign", 6)]) (N := N__law_sort) (sc := defScope s__law_sort) (by decide +kernel)) (fun _ _ _ _ _ => (mg_name (i := 6) sc__law_sort.nd rfl (by first | exact Or.inl rfl | exact Or.inr rfl))) (fun _ _ _ _ _ => mts_nil) (fun _ _ _ _ _ => (me_cmp (op_in_M (hu65 hr)) (mv 6) (mv 1) (by rfl)))) ma_nil)))))) (mv 2) me_non)))))))))
theorem sc__law_deep : FnScope N__law_deep ["_law_thing"] (defScope s__law_deep) := ⟨rfl, rfl, rfl, by decide +kernel, rfl, by decide +kernel, by decide +kernel⟩
theorem ok__law_deep (T : Tx K mg) : ∀ n : Nat, FnG P w K mg base CX0 (1 + n) T._law_deep.f T._law_deep.fd ["_law_thing"] (spM ⟨K, mg⟩ (F__law_deep n))
  | 0 => fn_none
  | n + 1 => by
    have ih := ok__law_deep T n
    exact fn_mir (k := 1 + n) T._law_deep.fu sc__law_deep fun cdv A outer s H E hr => (mss_cons (ms_if (mt_not (mt_truth (me_isi rfl T.z_isinstance (by decide +kernel) rfl T.z_tuple (by decide +kernel) (mv 0)))) (mss_one (ms_ret (me_if (mt_cmp op_is_M (me_call (ok__law_sort T) (hr.mono (by omega)) rfl T._law_sort.mgx T._law_sort.fu.kp T._law_sort.bd (ma_cons (mv 0) ma_nil)) me_non (nomark _)) me_non me_int))) mss_nil)
    (mss_cons (ms_setLc (i := 1) (own := [("_law_part", 2)]) rfl sc__law_deep.nd rfl rfl (sw_true rfl rfl rfl (by decide +kernel)) (mi_tup (mv 0)) (blkOk_by (own := [("_law_part", 2)]) (N := N__law_deep) (sc := defScope s__law_deep) (by decide +kernel)) (fun _ _ _ _ _ => (mg_name (i := 2) sc__law_deep.nd rfl (by first | exact Or.inl rfl | exact Or.inr rfl))) (fun _ _ _ _ _ => mts_nil) (fun _ _ _ _ _ => (me_call ih (hr.mono (by omega)) rfl T._law_deep.mgx T._law_deep.fu.kp T._law_deep.bd (ma_cons (mv 2) ma_nil))))
    (mss_cons (ms_if (mt_w (mw_or (mt_cmp op_gt_M (me_callB cb_len rfl T.z_len (by decide +kernel) (ma_cons (mv 0) ma_nil)) me_int (nomark _)) (mw_or1 (mt_cmp (op_in_M (hu65 hr)) me_non (mv 1) (by rfl))))) (mss_one (ms_ret me_non)) mss_nil)
    (mss_one (ms_ret (me_op op_add_M me_int (me_callB (cb_max rfl) rfl T.z_max (by decide +kernel) (ma_cons (me_op op_add_M (me_lst (ma_cons me_int ma_nil)) (mv 1)) ma_nil))))))))
theorem sc__law_plain : FnScope N__law_plain ["_law_pot_here"] (defScope s__law_plain) := ⟨rfl, rfl, rfl, by decide +kernel, rfl, by decide +kernel, by decide +kernel⟩
theorem ok__law_plain (T : Tx K mg) : FnG P w K mg base CX0 3 T._law_plain.f T._law_plain.fd ["_law_pot_here"] (spM ⟨K, mg⟩ F__law_plain) :=
  fn_mir (k := 2) T._law_plain.fu sc__law_plain fun cdv A outer s H E hr => (mss_cons (ms_set (i := 1) sc__law_plain.nd rfl (by first | exact Or.inl rfl | exact Or.inr rfl) (me_strm PySem.F.slot_str_join PySem.F.type_str_join mb_join me_str (ma_cons (me_lc (own := [("_law_turn", 4)]) rfl sc__law_plain.nd (mi_range1 rfl T.z_range (ma_cons (me_call (ok__law_pick T) (hr.mono (by omega)) rfl T._law_pick.mgx T._law_pick.fu.kp T._law_pick.bd (ma_cons (mv 0) (ma_cons (me_lst (ma_cons me_int (ma_cons me_int (ma_cons me_int (ma_cons me_int (ma_cons me_int (ma_cons me_int ma_nil))))))) ma_nil))) ma_nil)) (blkOk_by (own := [("_law_turn", 4)]) (N := N__law_plain) (sc := defScope s__law_plain) (by decide +kernel)) (fun _ _ _ _ _ => (mg_name (i := 4) sc__law_plain.nd rfl (by first | exact Or.inl rfl | exact Or.inr rfl))) (fun _ _ _ _ _ => mts_nil) (fun _ _ _ _ _ => (me_call (ok__law_pick T) (hr.mono (by omega)) rfl T._law_pick.mgx T._law_pick.fu.kp T._law_pick.bd (ma_cons (mv 0) (ma_cons me_str ma_nil))))) ma_nil)))
    (mss_cons (ms_set (i := 2) sc__law_plain.nd rfl (by first | exact Or.inl rfl | exact Or.inr rfl) (me_lst (ma_cons me_str (ma_cons me_str (ma_cons me_str (ma_cons (me_op op_mul_M me_str me_int) (ma_cons me_str (ma_cons me_str ma_nil))))))))
    (mss_cons (ms_set (i := 3) sc__law_plain.nd rfl (by first | exact Or.inl rfl | exact Or.inr rfl) (me_op op_add_M (me_call (ok__law_pick T) (hr.mono (by omega)) rfl T._law_pick.mgx T._law_pick.fu.kp T._law_pick.bd (ma_cons (mv 0) (ma_cons (me_lst (ma_cons me_str (ma_cons me_str ma_nil))) ma_nil))) (me_call (ok__law_pick T) (hr.mono (by omega)) rfl T._law_pick.mgx T._law_pick.fu.kp T._law_pick.bd (ma_cons (mv 0) (ma_cons (mv 2) ma_nil)))))
    (mss_cons (ms_set (i := 2) sc__law_plain.nd rfl (by first | exact Or.inl rfl | exact Or.inr rfl) (me_lst (ma_cons (me_call (ok__law_take T) (hr.mono (by omega)) rfl T._law_take.mgx T._law_take.fu.kp T._law_take.bd (ma_cons (mv 0) (ma_cons me_int ma_nil))) (ma_cons me_int (ma_cons me_int (ma_cons (me_un un_neg_M me_int) (ma_cons (me_op op_pow_M me_int me_int) (ma_cons (me_un un_neg_M (me_op op_pow_M me_int me_int)) (ma_cons (me_call (ok__law_take T) (hr.mono (by omega)) rfl T._law_take.mgx T._law_take.fu.kp T._law_take.bd (ma_cons (mv 0) (ma_cons (me_op op_pow_M me_int me_int) ma_nil))) ma_nil)))))))))
    (mss_one (ms_ret (me_call (ok__law_pick T) (hr.mono (by omega)) rfl T._law_pick.mgx T._law_pick.fu.kp T._law_pick.bd (ma_cons (mv 0) (ma_cons (me_op op_add_M (mv 2) (me_lst (ma_cons me_bl (ma_cons me_bl (ma_cons (mv 1) (ma_cons (mv 1) (ma_cons (mv 3) ma_nil))))))) ma_nil)))))))))
theorem sc__law_value : FnScope N__law_value ["_law_pot_here", "_law_deep_here"] (defScope s__law_value) := ⟨rfl, rfl, rfl, by decide +kernel, rfl, by decide +kernel, by decide +kernel⟩
theorem ok__law_value (T : Tx K mg) : ∀ n : Nat, FnG P w K mg base CX0 (3 + n) T._law_value.f T._law_value.fd ["_law_pot_here", "_law_deep_here"] (spM ⟨K, mg⟩ (F__law_value n))
  | 0 => fn_none
  | n + 1 => by
    have ih := ok__law_value T n
    exact fn_mir (k := 3 + n) T._law_value.fu sc__law_value fun cdv A outer s H E hr => (mss_cons (ms_if (mt_w (mw_or (mt_cmp (op_eq_M hr.units) (mv 1) me_int (nomark _)) (mw_or1 (mt_cmp op_gt_M (me_call (ok__law_take T) (hr.mono (by omega)) rfl T._law_take.mgx T._law_take.fu.kp T._law_take.bd (ma_cons (mv 0) (ma_cons me_int ma_nil))) me_int (nomark _))))) (mss_one (ms_ret (me_call (ok__law_plain T) (hr.mono (by omega)) rfl T._law_plain.mgx T._law_plain.fu.kp T._law_plain.bd (ma_cons (mv 0) ma_nil)))) mss_nil)
    (mss_cons (ms_set (i := 2) sc__law_value.nd rfl (by first | exact Or.inl rfl | exact Or.inr rfl) (me_call (ok__law_pick T) (hr.mono (by omega)) rfl T._law_pick.mgx T._law_pick.fu.kp T._law_pick.bd (ma_cons (mv 0) (ma_cons (me_lst (ma_cons me_int (ma_cons me_int (ma_cons me_int (ma_cons me_int (ma_cons me_int (ma_cons (me_if (mt_cmp (op_eq_M hr.units) (mv 1) me_int (nomark _)) me_int me_int) ma_nil))))))) ma_nil))))
    (mss_one (ms_ret (me_callTy cb_tuple rfl T.z_tuple (by decide +kernel) (ma_cons (me_lc (own := [("_law_turn", 3)]) rfl sc__law_value.nd (mi_range1 rfl T.z_range (ma_cons (mv 2) ma_nil)) (blkOk_by (own := [("_law_turn", 3)]) (N := N__law_value) (sc := defScope s__law_value) (by decide +kernel)) (fun _ _ _ _ _ => (mg_name (i := 3) sc__law_value.nd rfl (by first | exact Or.inl rfl | exact Or.inr rfl))) (fun _ _ _ _ _ => mts_nil) (fun _ _ _ _ _ => (me_call ih (hr.mono (by omega)) rfl T._law_value.mgx T._law_value.fu.kp T._law_value.bd (ma_cons (mv 0) (ma_cons (me_op op_sub_M (mv 1) me_int) ma_nil))))) ma_nil))))))
theorem sc__law_near : FnScope N__law_near ["_law_pot_here", "_law_part"] (defScope s__law_near) := ⟨rfl, rfl, rfl, by decide +kernel, rfl, by decide +kernel, by decide +kernel⟩
theorem ok__law_near (T : Tx K mg) : FnG P w K mg base CX0 3 T._law_near.f T._law_near.fd ["_law_pot_here", "_law_part"] (spM ⟨K, mg⟩ F__law_near) :=
  fn_mir (k := 2) T._law_near.fu sc__law_near fun cdv A outer s H E hr => (mss_cons (ms_set (i := 2) sc__law_near.nd rfl (by first | exact Or.inl rfl | exact Or.inr rfl) (me_lst (ma_cons me_non (ma_cons me_bl (ma_cons me_bl (ma_cons me_int (ma_cons me_int (ma_cons (me_un un_neg_M me_int) (ma_cons (me_op op_add_M (me_op op_pow_M me_int me_int) me_int) (ma_cons me_str (ma_cons me_str (ma_cons me_str (ma_cons me_str (ma_cons me_str (ma_cons me_str (ma_cons (me_tup ma_nil) (ma_cons (me_lst ma_nil) (ma_cons me_dic0 (ma_cons (me_tup (ma_cons me_int ma_nil)) (ma_cons (me_tup (ma_cons (me_tup ma_nil) ma_nil)) ma_nil))))))))))))))))))))
    (mss_cons (ms_if (mt_truth (me_isi rfl T.z_isinstance (by decide +kernel) rfl T.z_tuple (by decide +kernel) (mv 1))) (mss_cons (ms_set (i := 3) sc__law_near.nd rfl (by first | exact Or.inl rfl | exact Or.inr rfl) (me_lst (ma_cons (me_callTy cb_list rfl T.z_list (by decide +kernel) (ma_cons (mv 1) ma_nil)) (ma_cons (me_slice sl_M (mv 1) mo_none (mo_some (me_un un_neg_M me_int))) (ma_cons (me_op op_add_M (mv 1) (me_slice sl_M (mv 1) (mo_some (me_un un_neg_M me_int)) mo_none)) (ma_cons (me_revT (mv 1)) (ma_cons (me_tup (ma_cons (mv 1) ma_nil)) (ma_cons (me_op op_mul_M (mv 1) me_int) (ma_cons (me_op op_add_M (mv 1) (me_tup (ma_cons me_int ma_nil))) ma_nil)))))))))
    (mss_one (ms_set (i := 2) sc__law_near.nd rfl (by first | exact Or.inl rfl | exact Or.inr rfl) (me_op op_add_M (me_slice sl_M (mv 2) mo_none (mo_some me_int)) (me_op op_mul_M (mv 3) me_int))))) (mss_one (ms_if (mt_truth (me_isi rfl T.z_isinstance (by decide +kernel) rfl T.z_str (by decide +kernel) (mv 1))) (mss_cons (ms_set (i := 3) sc__law_near.nd rfl (by first | exact Or.inl rfl | exact Or.inr rfl) (me_lst (ma_cons (me_op op_add_M (mv 1) me_str) (ma_cons (me_slice sl_M (mv 1) mo_none (mo_some (me_un un_neg_M me_int))) (ma_cons (me_strm0 PySem.F.slot_str_upper PySem.F.type_str_upper mb_upper (mv 1)) (ma_cons (me_op op_add_M me_str (mv 1)) (ma_cons (me_op op_add_M me_str (mv 1)) (ma_cons (me_op op_mul_M (mv 1) me_int) (ma_cons (me_op op_add_M (mv 1) me_str) (ma_cons (me_tup (ma_cons (mv 1) ma_nil)) ma_nil))))))))))
    (mss_one (ms_set (i := 2) sc__law_near.nd rfl (by first | exact Or.inl rfl | exact Or.inr rfl) (me_op op_add_M (me_slice sl_M (mv 2) mo_none (mo_some me_int)) (me_op op_mul_M (mv 3) me_int))))) (mss_one (ms_if (mt_truth (me_isi rfl T.z_isinstance (by decide +kernel) rfl T.z_int (by decide +kernel) (mv 1))) (mss_cons (ms_set (i := 3) sc__law_near.nd rfl (by first | exact Or.inl rfl | exact Or.inr rfl) (me_lst (ma_cons (me_op op_add_M (mv 1) me_int) (ma_cons (me_un un_neg_M (mv 1)) (ma_cons (me_callTy cb_str rfl T.z_str (by decide +kernel) (ma_cons (mv 1) ma_nil)) (ma_cons (me_cmp (op_eq_M hr.units) (mv 1) me_int (nomark _)) (ma_cons (me_callTy cb_int rfl T.z_int (by decide +kernel) (ma_cons (mv 1) ma_nil)) (ma_cons (me_op op_sub_M (me_op op_pow_M me_int me_int) (mv 1)) (ma_cons (me_tup (ma_cons (mv 1) ma_nil)) ma_nil)))))))))
    (mss_one (ms_set (i := 2) sc__law_near.nd rfl (by first | exact Or.inl rfl | exact Or.inr rfl) (me_op op_add_M (me_slice sl_M (mv 2) mo_none (mo_some me_int)) (me_op op_mul_M (mv 3) me_int))))) mss_nil)))))
    (mss_one (ms_ret (me_call (ok__law_pick T) (hr.mono (by omega)) rfl T._law_pick.mgx T._law_pick.fu.kp T._law_pick.bd (ma_cons (mv 0) (ma_cons (mv 2) ma_nil)))))))
theorem sc__law_bent : FnScope N__law_bent ["_law_pot_here", "_law_thing", "_law_deep_here"] (defScope s__law_bent) := ⟨rfl, rfl, rfl, by decide +kernel, rfl, by decide +kernel, by decide +kernel⟩
theorem ok__law_bent (T : Tx K mg) : ∀ n : Nat, FnG P w K mg base CX0 (3 + n) T._law_bent.f T._law_bent.fd ["_law_pot_here", "_law_thing", "_law_deep_here"] (spM ⟨K, mg⟩ (F__law_bent n))
  | 0 => fn_none
  | n + 1 => by
    have ih := ok__law_bent T n
    exact fn_mir (k := 3 + n) T._law_bent.fu sc__law_bent fun cdv A outer s H E hr => (mss_cons (ms_if (mt_w (mw_or (mt_cmp (op_eq_M hr.units) (mv 2) me_int (nomark _)) (mw_or (mt_not (mt_truth (me_isi rfl T.z_isinstance (by decide +kernel) rfl T.z_tuple (by decide +kernel) (mv 1)))) (mw_or (mt_cmp (op_eq_M hr.units) (mv 1) (me_tup ma_nil) (nomark _)) (mw_or1 (mt_cmp (op_eq_M hr.units) (me_call (ok__law_take T) (hr.mono (by omega)) rfl T._law_take.mgx T._law_take.fu.kp T._law_take.bd (ma_cons (mv 0) (ma_cons me_int ma_nil))) me_int (nomark _))))))) (mss_one (ms_ret (me_call (ok__law_near T) (hr.mono (by omega)) rfl T._law_near.mgx T._law_near.fu.kp T._law_near.bd (ma_cons (mv 0) (ma_cons (mv 1) ma_nil))))) mss_nil)
    (mss_cons (ms_set (i := 3) sc__law_bent.nd rfl (by first | exact Or.inl rfl | exact Or.inr rfl) (me_call (ok__law_take T) (hr.mono (by omega)) rfl T._law_take.mgx T._law_take.fu.kp T._law_take.bd (ma_cons (mv 0) (ma_cons (me_callB cb_len rfl T.z_len (by decide +kernel) (ma_cons (mv 1) ma_nil)) ma_nil))))
    (mss_one (ms_ret (me_op op_add_M (me_op op_add_M (me_slice sl_M (mv 1) mo_none (mo_some (mv 3))) (me_tup (ma_cons (me_call ih (hr.mono (by omega)) rfl T._law_bent.mgx T._law_bent.fu.kp T._law_bent.bd (ma_cons (mv 0) (ma_cons (me_ix ix_M (mv 1) (mv 3) (fun _ _ => rfl)) (ma_cons (me_op op_sub_M (mv 2) me_int) ma_nil)))) ma_nil))) (me_slice sl_M (mv 1) (mo_some (me_op op_add_M (mv 3) me_int)) mo_none))))))
theorem sc__law_asked : FnScope N__law_asked ["_law_thing"] (defScope s__law_asked) := ⟨rfl, rfl, rfl, by decide +kernel, rfl, by decide +kernel, by decide +kernel⟩
theorem ok__law_asked (T : Tx K mg) : FnG P w K mg base CX0 15 T._law_asked.f T._law_asked.fd ["_law_thing"] (spM ⟨K, mg⟩ F__law_asked) :=
  fn_mir (k := 14) T._law_asked.fu sc__law_asked fun cdv A outer s H E hr => (mss_cons (ms_par (i := 1) (j := 2) rfl sc__law_asked.nd rfl rfl (by decide) rfl rfl (ma_cons (me_callB (cb_show hr) rfl T.z_repr (by decide +kernel) (ma_cons (mv 0) ma_nil)) (ma_cons (me_call (ok__law_deep T 10) (hr.mono (by omega)) rfl T._law_deep.mgx T._law_deep.fu.kp T._law_deep.bd (ma_cons (mv 0) ma_nil)) ma_nil)))
    (mss_one (ms_ret (me_and (me_cmp (op_eq_M hr.units) (me_callB (cb_show hr) rfl T.z_repr (by decide +kernel) (ma_cons (me_call (ok_is_value T) (hr.mono (by omega)) rfl T.is_value.mgx T.is_value.fu.kp T.is_value.bd (ma_cons (mv 0) ma_nil)) ma_nil)) (me_callB (cb_show hr) rfl T.z_repr (by decide +kernel) (ma_cons (me_and (me_cmp op_isnot_M (mv 2) me_non (nomark _)) (me_one (me_cmp op_le_M (mv 2) me_int (nomark _)))) ma_nil)) (nomark _)) (me_one (me_cmp (op_eq_M hr.units) (me_callB (cb_show hr) rfl T.z_repr (by decide +kernel) (ma_cons (mv 0) ma_nil)) (mv 1) (nomark _)))))))
theorem sc__law_by_hand : FnScope N__law_by_hand [] (defScope s__law_by_hand) := ⟨rfl, rfl, rfl, by decide +kernel, rfl, by decide +kernel, by decide +kernel⟩
theorem ok__law_by_hand (T : Tx K mg) : FnG P w K mg base CX0 1 T._law_by_hand.f T._law_by_hand.fd [] (spM ⟨K, mg⟩ F__law_by_hand) :=
  fn_mir (k := 0) T._law_by_hand.fu sc__law_by_hand fun cdv A outer s H E hr => (mss_cons (ms_set (i := 0) sc__law_by_hand.nd rfl (by first | exact Or.inl rfl | exact Or.inr rfl) (me_lst (ma_cons (me_op op_pow_M me_int me_int) (ma_cons (me_op op_add_M (me_op op_pow_M me_int me_int) me_int) (ma_cons (me_un un_neg_M (me_op op_pow_M me_int me_int)) (ma_cons (me_op op_sub_M (me_un un_neg_M (me_op op_pow_M me_int me_int)) me_int) (ma_cons (me_op op_pow_M me_int me_int) (ma_cons me_bl (ma_cons me_bl (ma_cons me_non (ma_cons me_str (ma_cons (me_op op_mul_M me_str me_int) (ma_cons (me_op op_mul_M me_str me_int) ma_nil)))))))))))))
    (mss_cons (ms_set (i := 0) sc__law_by_hand.nd rfl (by first | exact Or.inl rfl | exact Or.inr rfl) (me_op op_add_M (mv 0) (me_lst (ma_cons me_str (ma_cons me_str (ma_cons me_str (ma_cons (me_op op_add_M me_str (me_op op_mul_M me_str me_int)) (ma_cons (me_op op_add_M me_str (me_op op_mul_M me_str me_int)) (ma_cons (me_op op_add_M me_str (me_op op_mul_M me_str me_int)) (ma_cons (me_op op_add_M me_str (me_op op_mul_M me_str me_int)) (ma_cons me_str (ma_cons me_str (ma_cons me_str ma_nil)))))))))))))
    (mss_cons (ms_set (i := 0) sc__law_by_hand.nd rfl (by first | exact Or.inl rfl | exact Or.inr rfl) (me_op op_add_M (mv 0) (me_lst (ma_cons me_str (ma_cons me_str (ma_cons me_str (ma_cons me_str (ma_cons me_str (ma_cons me_str (ma_cons me_str (ma_cons me_str (ma_cons me_str (ma_cons me_str (ma_cons me_str (ma_cons me_str ma_nil)))))))))))))))
    (mss_cons (ms_set (i := 0) sc__law_by_hand.nd rfl (by first | exact Or.inl rfl | exact Or.inr rfl) (me_addR (mv 0) (me_lst (ma_cons me_str (ma_cons (me_tup ma_nil) (ma_cons (me_op op_mul_M (me_tup (ma_cons me_int ma_nil)) me_int) (ma_cons (me_op op_mul_M (me_tup (ma_cons me_int ma_nil)) me_int) (ma_cons (me_tup (ma_cons (me_tup ma_nil) ma_nil)) (ma_cons (me_tup (ma_cons (me_tup (ma_cons (me_tup ma_nil) ma_nil)) ma_nil)) (ma_cons (me_tup (ma_cons (me_tup (ma_cons (me_tup (ma_cons (me_tup ma_nil) ma_nil)) ma_nil)) ma_nil)) (ma_cons (me_tup (ma_cons (me_tup (ma_cons (me_tup (ma_cons me_int ma_nil)) ma_nil)) ma_nil)) (ma_cons (me_tup (ma_cons (me_tup (ma_cons (me_tup (ma_cons (me_tup (ma_cons me_int ma_nil)) ma_nil)) ma_nil)) ma_nil)) ma_nil))))))))))))
    (mss_cons (ms_expr (me_app (mv 0) (me_tup (ma_cons (me_tup (ma_cons (me_tup ma_nil) ma_nil)) (ma_cons me_int (ma_cons me_str ma_nil))))))
    (mss_cons (ms_set (i := 0) sc__law_by_hand.nd rfl (by first | exact Or.inl rfl | exact Or.inr rfl) (me_op op_add_M (mv 0) (me_lst (ma_cons (me_lst ma_nil) (ma_cons (me_lst (ma_cons me_int ma_nil)) (ma_cons (me_tup (ma_cons (me_lst (ma_cons me_int ma_nil)) ma_nil)) (ma_cons me_dic0 (ma_cons (me_dic1 me_int (fun _ _ _ _ => mC_noex)) (ma_cons (me_tup (ma_cons me_dic0 ma_nil)) (ma_cons (me_tup (ma_cons me_non ma_nil)) (ma_cons (me_tup (ma_cons me_str ma_nil)) (ma_cons (me_tup (ma_cons (me_tup (ma_cons (me_op op_pow_M me_int me_int) ma_nil)) ma_nil)) (ma_cons (me_tup (ma_cons (me_tup (ma_cons (me_tup ma_nil) (ma_cons (me_tup (ma_cons (me_tup ma_nil) (ma_cons (me_tup ma_nil) ma_nil))) ma_nil))) ma_nil)) ma_nil)))))))))))))
    (mss_cons (ms_set (i := 1) sc__law_by_hand.nd rfl (by first | exact Or.inl rfl | exact Or.inr rfl) me_str)
    (mss_one (ms_ret (me_op op_add_M (me_op op_add_M (me_op op_add_M (mv 0) (me_lc (own := [("_law_sign", 2)]) rfl sc__law_by_hand.nd (mi_str (mv 1)) (blkOk_by (own := [("_law_sign", 2)]) (N := N__law_by_hand) (sc := defScope s__law_by_hand) (by decide +kernel)) (fun _ _ _ _ _ => (mg_name (i := 2) sc__law_by_hand.nd rfl (by first | exact Or.inl rfl | exact Or.inr rfl))) (fun _ _ _ _ _ => mts_nil) (fun _ _ _ _ _ => (mv 2)))) (me_lc (own := [("_law_sign", 2)]) rfl sc__law_by_hand.nd (mi_str (mv 1)) (blkOk_by (own := [("_law_sign", 2)]) (N := N__law_by_hand) (sc := defScope s__law_by_hand) (by decide +kernel)) (fun _ _ _ _ _ => (mg_name (i := 2) sc__law_by_hand.nd rfl (by first | exact Or.inl rfl | exact Or.inr rfl))) (fun _ _ _ _ _ => mts_nil) (fun _ _ _ _ _ => (me_op op_add_M me_str (mv 2))))) (me_lc (own := [("_law_sign", 2)]) rfl sc__law_by_hand.nd (mi_str (mv 1)) (blkOk_by (own := [("_law_sign", 2)]) (N := N__law_by_hand) (sc := defScope s__law_by_hand) (by decide +kernel)) (fun _ _ _ _ _ => (mg_name (i := 2) sc__law_by_hand.nd rfl (by first | exact Or.inl rfl | exact Or.inr rfl))) (fun _ _ _ _ _ => mts_nil) (fun _ _ _ _ _ => (me_op op_add_M me_str (mv 2))))))))))))))
theorem sc__law_right : FnScope N__law_right ["_law_pot_here"] (defScope s__law_right) := ⟨rfl, rfl, rfl, by decide +kernel, rfl, by decide +kernel, by decide +kernel⟩
theorem ok__law_right (T : Tx K mg) : FnG P w K mg base CX0 16 T._law_right.f T._law_right.fd ["_law_pot_here"] (spM ⟨K, mg⟩ F__law_right) :=
  fn_mir (k := 15) T._law_right.fu sc__law_right fun cdv A outer s H E hr => (mss_cons (ms_for PassesOwn.never rfl (mi_range1 rfl T.z_range (ma_cons me_int ma_nil)) (mg_name (i := 1) sc__law_right.nd rfl (by first | exact Or.inl rfl | exact Or.inr rfl)) (mss_cons (ms_set (i := 2) sc__law_right.nd rfl (by first | exact Or.inl rfl | exact Or.inr rfl) (me_call (ok__law_value T 5) (hr.mono (by omega)) rfl T._law_value.mgx T._law_value.fu.kp T._law_value.bd (ma_cons (mv 0) (ma_cons me_int ma_nil))))
    (mss_one (ms_if (mt_w (mw_or (mt_not (mt_truth (me_call (ok__law_asked T) (hr.mono (by omega)) rfl T._law_asked.mgx T._law_asked.fu.kp T._law_asked.bd (ma_cons (mv 2) ma_nil)))) (mw_or1 (mt_not (mt_truth (me_callB (cb_all rfl) rfl T.z_all (by decide +kernel) (ma_cons (me_lc (own := [("_law_again", 3)]) rfl sc__law_right.nd (mi_range1 rfl T.z_range (ma_cons me_int ma_nil)) (blkOk_by (own := [("_law_again", 3)]) (N := N__law_right) (sc := defScope s__law_right) (by decide +kernel)) (fun _ _ _ _ _ => (mg_name (i := 3) sc__law_right.nd rfl (by first | exact Or.inl rfl | exact Or.inr rfl))) (fun _ _ _ _ _ => mts_nil) (fun _ _ _ _ _ => (me_call (ok__law_asked T) (hr.mono (by omega)) rfl T._law_asked.mgx T._law_asked.fu.kp T._law_asked.bd (ma_cons (me_call (ok__law_bent T 5) (hr.mono (by omega)) rfl T._law_bent.mgx T._law_bent.fu.kp T._law_bent.bd (ma_cons (mv 0) (ma_cons (mv 2) (ma_cons me_int ma_nil)))) ma_nil)))) ma_nil))))))) (mss_one (ms_ret me_bl)) mss_nil))))
    (mss_one (ms_ret me_bl)))
theorem sc_law : FnScope N_law ["_law_script"] (defScope s_law) := ⟨rfl, rfl, rfl, by decide +kernel, rfl, by decide +kernel, by decide +kernel⟩
theorem ok_law (T : Tx K mg) : FnG P w K mg base CX0 17 T.law.f T.law.fd ["_law_script"] (spM ⟨K, mg⟩ F_law) :=
  fn_mir (k := 16) T.law.fu sc_law fun cdv A outer s H E hr => (mss_cons (ms_if (mt_not (mt_truth (me_callB (cb_all rfl) rfl T.z_all (by decide +kernel) (ma_cons (me_lc (own := [("_law_thing", 2)]) rfl sc_law.nd (mi_list (me_call0 (ok__law_by_hand T) (hr.mono (by omega)) rfl T._law_by_hand.mgx T._law_by_hand.fu.kp T._law_by_hand.bd)) (blkOk_by (own := [("_law_thing", 2)]) (N := N_law) (sc := defScope s_law) (by decide +kernel)) (fun _ _ _ _ _ => (mg_name (i := 2) sc_law.nd rfl (by first | exact Or.inl rfl | exact Or.inr rfl))) (fun _ _ _ _ _ => mts_nil) (fun _ _ _ _ _ => (me_call (ok__law_asked T) (hr.mono (by omega)) rfl T._law_asked.mgx T._law_asked.fu.kp T._law_asked.bd (ma_cons (mv 2) ma_nil)))) ma_nil)))) (mss_one (ms_ret me_bl)) mss_nil)
    (mss_cons (ms_if (mt_w (mw_or (mt_truth (me_call (ok_is_value T) (hr.mono (by omega)) rfl T.is_value.mgx T.is_value.fu.kp T.is_value.bd (ma_cons (me_cm rfl T.g_Record T.cr_Record T.cm_Record_of (ok_Record_of T) (hr.mono (by omega)) T.Record_of.bd (ma_cons (me_tup (ma_cons (me_tup (ma_cons me_str (ma_cons me_int ma_nil))) ma_nil)) ma_nil)) ma_nil))) (mw_or (mt_truth (me_call (ok_is_value T) (hr.mono (by omega)) rfl T.is_value.mgx T.is_value.fu.kp T.is_value.bd (ma_cons (me_tup (ma_cons (me_mk0 T.mk_Record (ok_Record___init__ T) (hr.mono (by omega)) rfl T.g_Record) ma_nil)) ma_nil))) (mw_or1 (mt_truth (me_call (ok_is_value T) (hr.mono (by omega)) rfl T.is_value.mgx T.is_value.fu.kp T.is_value.bd (ma_cons (me_dic1 (me_mk0 T.mk_Record (ok_Record___init__ T) (hr.mono (by omega)) rfl T.g_Record) (fun _ _ _ _ => mk_noex)) ma_nil))))))) (mss_one (ms_ret me_bl)) mss_nil)
    (mss_one (ms_ret (me_callB (cb_all rfl) rfl T.z_all (by decide +kernel) (ma_cons (me_lc (own := [("_law_k", 1)]) rfl sc_law.nd (mi_range1 rfl T.z_range (ma_cons (me_callB (cb_max rfl) rfl T.z_max (by decide +kernel) (ma_cons me_int (ma_cons (me_callB (cb_min rfl) rfl T.z_min (by decide +kernel) (ma_cons me_int (ma_cons (me_callB cb_len rfl T.z_len (by decide +kernel) (ma_cons (mv 0) ma_nil)) ma_nil))) ma_nil))) ma_nil)) (blkOk_by (own := [("_law_k", 1)]) (N := N_law) (sc := defScope s_law) (by decide +kernel)) (fun _ _ _ _ _ => (mg_name (i := 1) sc_law.nd rfl (by first | exact Or.inl rfl | exact Or.inr rfl))) (fun _ _ _ _ _ => mts_nil) (fun _ _ _ _ _ => (me_call (ok__law_right T) (hr.mono (by omega)) rfl T._law_right.mgx T._law_right.fu.kp T._law_right.bd (ma_cons (me_call (ok__law_pot T) (hr.mono (by omega)) rfl T._law_pot.mgx T._law_pot.fu.kp T._law_pot.bd (ma_cons (mv 0) (ma_cons (mv 1) ma_nil))) ma_nil)))) ma_nil))))))
end
end K01
end
section
set_option maxRecDepth 100000
set_option maxHeartbeats 1000000
namespace K01
open PySem L2 Mi
local macro_rules | `(tactic| walk_at "ev") => `(tactic| simp only [Wp_ok, Wp_bind, Wp_quiet, WpS_fl, WpS_then, Nx_nx, Nx_rt, Nx_bk, Nx_ct, mVar_ap, mC_ap, mOp_ap, mUn_ap, mB_ap, mTru_ap, mAnd_ap, mOr_ap, mNot_ap,
  bAnd_ap, bOr_ap, bNot_ap, bYes_ap, mIf_ap, mNil_ap, mCons_ap, mTup_ap, mLst_ap, mLstR_ap, mDic0_ap, mCall_ap, mCb_ap, mMb_ap, mStr_ap, mRevT_ap, mPart_ap, mNoPart_ap, mSl_ap, mChain_ap, itL_ap, itT_ap, itS_ap, itR1_ap,
  sNil_ap, sSeq_ap, sIf_ap, sRet_ap, sRetN_ap, sBrk_ap, sCnt_ap, sExp_ap, sAsg_ap, sPar_ap, sPar3_ap, tgN_ap, tgNil_ap, tgCons_ap, sSetIx_ap, sFor_ap, Wp_mLc,
  List.map_cons, List.map_nil, List.cons_append, List.nil_append, List.replicate_succ, List.replicate_zero, List.getElem?_cons_zero, List.getElem?_cons_succ, List.set_cons_zero, List.set_cons_succ, List.length_cons, List.length_nil,
  Option.some.injEq, Option.bind_some, exists_eq_left, exists_eq_left', true_and, and_true, D.bl.injEq, D.int.injEq, D.str.injEq, D.ref.injEq, D.tup.injEq, D.lst.injEq, List.cons.injEq, if_true, if_false, Bool.false_eq_true, reduceCtorEq, false_and, and_false, or_false, false_or, exists_false])
structure Upd (n : Nat) (s s' : Sto) : Prop where
  len : s'.length = s.length
  at' : ∀ k, k ≠ n → s'[k]? = s[k]?
theorem Upd.refl {n : Nat} {s : Sto} : Upd n s s := ⟨rfl, fun _ _ => rfl⟩
theorem Upd.trans {n : Nat} {s s1 s2 : Sto} (a : Upd n s s1) (b : Upd n s1 s2) : Upd n s s2 := ⟨b.len.trans a.len, fun k h => (b.at' k h).trans (a.at' k h)⟩
theorem Upd.set {n : Nat} {s : Sto} {o : O} : Upd n s (s.set n o) := ⟨by simp, fun k h => List.getElem?_set_ne (Ne.symm h)⟩
def PotAt (s : Sto) (n : Nat) (T : Nat) : Prop := ∃ g m t : Int, s[n]? = some (.lst true [.int g, .int m, .int t]) ∧ 0 ≤ g ∧ 0 ≤ m ∧ m < 2 ^ 61 ∧ 0 ≤ t ∧ t ≤ T
theorem PotAt.mono {s : Sto} {n T T' : Nat} (h : PotAt s n T) (i : T ≤ T') : PotAt s n T' := by
  obtain ⟨g, m, t, e, a, b, c, d, f⟩ := h
  exact ⟨g, m, t, e, a, b, c, d, by omega⟩
theorem set_at {s : Sto} {n : Nat} {o o' : O} (h : s[n]? = some o) : (s.set n o')[n]? = some o' := List.getElem?_set_self (List.getElem?_eq_some_iff.mp h).1
theorem ix_ref {s : Sto} {n : Nat} {m : Bool} {xs : List D} {i : Nat} {d : D} (e : s[n]? = some (.lst m xs)) (h : xs[i]? = some d) : opIx s (.ref n) (.int (i : Int)) = some d := by
  simp only [opIx, asL, e, Option.bind_some]
  exact atI_nat h
theorem ix_lst {s : Sto} {xs : List D} {i : Nat} {d : D} (h : xs[i]? = some d) : opIx s (.lst xs) (.int (i : Int)) = some d := by
  simp only [opIx, asL, Option.bind_some]
  exact atI_nat h
theorem ix_tup {s : Sto} {xs : List D} {i : Nat} {d : D} (h : xs[i]? = some d) : opIx s (.tup xs) (.int (i : Int)) = some d := atI_nat h
theorem ix_str {s : Sto} {x : Str} {i : Nat} {k : Nat} (h : x.cps.toList[i]? = some k) : opIx s (.str x) (.int (i : Int)) = some (.str ⟨#[k]⟩) := by
  show (atI x.cps.toList (i : Int)).map _ = _
  rw [atI_nat h]; rfl
theorem mod_pos {s : Sto} {i j : Int} (h : 0 < j) : opMod s (.int i) (.int j) = some (.int (i % j)) := if_pos h
theorem div_pos {s : Sto} {i j : Int} (h : 0 < j) (h2 : j < 1073741824) : opDiv s (.int i) (.int j) = some (.int (i / j)) := if_pos ⟨h, h2⟩
theorem mul_l {s : Sto} {i j : Int} (h : -(2 ^ 64) < i) (h2 : i < 2 ^ 64) : opMul s (.int i) (.int j) = some (.int (i * j)) := if_pos (.inl ⟨h, h2⟩)
theorem mul_r {s : Sto} {i j : Int} (h : -(2 ^ 64) < j) (h2 : j < 2 ^ 64) : opMul s (.int i) (.int j) = some (.int (i * j)) := if_pos (.inr ⟨h, h2⟩)
theorem intBits_le_of {i : Int} {k : Nat} (h0 : 0 ≤ i) (h : i < 2 ^ k) : Builtin.Int.intBits i ≤ k := by
  refine PyProof.Rows.intBits_le ?_
  have : ((i.natAbs : Nat) : Int) < ((2 ^ k : Nat) : Int) := by
    rw [Int.natCast_pow]
    have : (i.natAbs : Int) = i := Int.natAbs_of_nonneg h0
    rw [this]; exact h
  exact Int.ofNat_lt.mp this
theorem pow_nn {s : Sto} {i : Int} {j k : Nat} (h0 : 0 ≤ i) (h : i < 2 ^ k) (hk : k * j ≤ 2 ^ 27) : opPow s (.int i) (.int (j : Int)) = some (.int (i ^ j)) := by
  have b := intBits_le_of h0 h
  refine if_pos ⟨Int.natCast_nonneg j, ?_⟩
  have : Builtin.Int.intBits i * j ≤ k * j := Nat.mul_le_mul_right j b
  omega
def Dr (s : Sto) (n T : Nat) (P : D → Prop) : D → Sto → Prop := fun d s' => P d ∧ PotAt s' n T ∧ Upd n s s'
theorem Dr.mono {s s0 : Sto} {n T T' : Nat} {P P' : D → Prop} {d : D} {s' : Sto} (h : Dr s n T P d s') (u : Upd n s0 s) (hT : T ≤ T') (hp : P d → P' d) : Dr s0 n T' P' d s' := ⟨hp h.1, h.2.1.mono hT, u.trans h.2.2⟩
theorem take_ok {s : Sto} {n T : Nat} {z : Int} (h : PotAt s n T) (hT : T ≤ 2 ^ 40) (hz : 0 < z) (hz2 : z < 1073741824) :
    Wp (F__law_take [.ref n, .int z] s) (Dr s n (T + 1) fun d => ∃ r, d = .int r ∧ 0 ≤ r ∧ r < z) := by
  unfold Dr
  obtain ⟨g, m, t, e, hg, hm, hm2, ht, hT2⟩ := h
  rw [F__law_take, mFun_ap (n := 2) rfl, b__law_take]
  walk_at "ev"
  refine ⟨_, ix_ref (i := 0) e rfl, _, rfl, _, rfl, ?_⟩
  by_cases c : (0 : Int) < g
  · rw [if_pos (decide_eq_true c)]
    refine ⟨_, ix_ref (i := 0) e rfl, _, mod_pos hz, _, ix_ref (i := 0) e rfl, _, div_pos hz hz2, n, 0, _, 0, rfl, rfl, e, rfl, ⟨_, rfl, Int.emod_nonneg _ (by omega), Int.emod_lt_of_pos _ hz⟩, ?_, Upd.set⟩
    exact ⟨g / z, m, t, set_at e, Int.ediv_nonneg hg (by omega), hm, hm2, ht, by omega⟩
  · rw [if_neg (by simpa using c)]
    have e2 : (s.set n (.lst true [.int g, .int m, .int (t + 1)]))[n]? = some (.lst true [.int g, .int m, .int (t + 1)]) := set_at e
    have b5 := Int.emod_lt_of_pos (t + 1) (show (0 : Int) < 5 by omega)
    have c5 := Int.emod_nonneg (t + 1) (show (5 : Int) ≠ 0 by omega)
    have pr : ∃ (p : Int), opIx (s.set n (.lst true [.int g, .int m, .int (t + 1)])) (.lst [.int 2147483647, .int 2147483629, .int 2147483587, .int 2147483579, .int 2147483563]) (.int ((t + 1) % 5)) = some (.int p) ∧ 0 < p ∧ p ≤ 2147483647 := by
      have : (t + 1) % 5 = 0 ∨ (t + 1) % 5 = 1 ∨ (t + 1) % 5 = 2 ∨ (t + 1) % 5 = 3 ∨ (t + 1) % 5 = 4 := by omega
      rcases this with h | h | h | h | h <;> rw [h]
      · exact ⟨_, ix_lst (i := 0) rfl, by omega, by omega⟩
      · exact ⟨_, ix_lst (i := 1) rfl, by omega, by omega⟩
      · exact ⟨_, ix_lst (i := 2) rfl, by omega, by omega⟩
      · exact ⟨_, ix_lst (i := 3) rfl, by omega, by omega⟩
      · exact ⟨_, ix_lst (i := 4) rfl, by omega, by omega⟩
    obtain ⟨p, hp, hp0, hp1⟩ := pr
    refine ⟨_, ix_ref (i := 2) e rfl, _, rfl, n, 2, _, 2, rfl, rfl, e, rfl, by decide, _, ix_ref (i := 2) e2 rfl, _, mod_pos (by omega), _, hp, ?_⟩
    have hT3 : (T : Int) ≤ 2 ^ 40 := by exact_mod_cast hT
    refine ⟨_, ix_ref (i := 1) e2 rfl, _, ix_ref (i := 2) e2 rfl, _, mul_l (by omega) (by omega), _, ix_ref (i := 2) e2 rfl, _, mul_r (by omega) (by omega), _, rfl, _, rfl, ?_⟩
    have q1 : 0 ≤ 40009 * (t + 1) * (t + 1) := Int.mul_nonneg (by omega) (by omega)
    have q2 : 40009 * (t + 1) * (t + 1) ≤ 40009 * (2 ^ 41) * (2 ^ 41) := Int.mul_le_mul (by omega) (by omega) (by omega) (by omega)
    refine ⟨_, pow_nn (j := 3) (k := 100) (by omega) (by omega) (by decide), _, mod_pos hp0, ?_⟩
    generalize hx : (m + 40009 * (t + 1) * (t + 1) + 31) ^ 3 % p = x
    have x0 : 0 ≤ x := by rw [← hx]; exact Int.emod_nonneg _ (by omega)
    have x1 : x < 2147483647 := by rw [← hx]; have := Int.emod_lt_of_pos ((m + 40009 * (t + 1) * (t + 1) + 31) ^ 3) hp0; omega
    refine ⟨_, mod_pos (by omega), _, ix_ref (i := 2) e2 rfl, _, mul_l (by omega) (by omega), _, rfl, _, mul_l (by omega) (by omega), _, mod_pos (by omega), _, div_pos (by omega) (by omega), _, mod_pos hz, ?_⟩
    refine ⟨⟨_, rfl, Int.emod_nonneg _ (by omega), Int.emod_lt_of_pos _ hz⟩, ⟨g, m, t + 1, e2, hg, hm, hm2, by omega, by omega⟩, Upd.set⟩
theorem at_lt {α : Type} {xs : List α} {r : Int} (h0 : 0 ≤ r) (h : r < xs.length) : ∃ x, atI xs r = some x ∧ x ∈ xs := by
  have hk : r.toNat < xs.length := by omega
  have e : r = ((r.toNat : Nat) : Int) := by omega
  refine ⟨xs[r.toNat], ?_, List.getElem_mem hk⟩
  have z : atI xs ((r.toNat : Nat) : Int) = some xs[r.toNat] := atI_nat (List.getElem?_eq_getElem hk)
  rw [← e] at z
  exact z
theorem pick_lst {s : Sto} {n T : Nat} {xs : List D} (h : PotAt s n T) (hT : T ≤ 2 ^ 40) (hx : xs ≠ []) (hl : xs.length ≤ 1000) : Wp (F__law_pick [.ref n, .lst xs] s) (Dr s n (T + 1) (· ∈ xs)) := by
  rw [F__law_pick, mFun_ap (n := 2) rfl, b__law_pick]
  walk_at "ev"
  have l0 : 0 < xs.length := List.length_pos_iff.mpr hx
  refine ⟨_, rfl, (take_ok h hT (by show (0 : Int) < (xs.length : Int); omega) (by show (xs.length : Int) < 1073741824; omega)).mono fun d s1 ⟨⟨r, e, h0, h1⟩, p1, u1⟩ => ?_⟩
  subst e
  obtain ⟨x, hx, hm⟩ := at_lt h0 h1
  exact ⟨x, hx, hm, p1, u1⟩
theorem pick_str {s : Sto} {n T : Nat} {x : Str} (h : PotAt s n T) (hT : T ≤ 2 ^ 40) (hx : x.cps.toList ≠ []) (hl : x.cps.toList.length ≤ 1000) : Wp (F__law_pick [.ref n, .str x] s) (Dr s n (T + 1) fun d => ∃ k ∈ x.cps.toList, d = .str ⟨#[k]⟩) := by
  rw [F__law_pick, mFun_ap (n := 2) rfl, b__law_pick]
  walk_at "ev"
  have l0 : 0 < x.cps.toList.length := List.length_pos_iff.mpr hx
  have le : (x.length : Int) = (x.cps.toList.length : Int) := by rw [TL.len_tl]
  refine ⟨_, rfl, (take_ok h hT (by show (0 : Int) < (x.length : Int); omega) (by show (x.length : Int) < 1073741824; omega)).mono fun d s1 ⟨⟨r, e, h0, h1⟩, p1, u1⟩ => ?_⟩
  subst e
  obtain ⟨k, hk, hm⟩ := at_lt h0 (show r < (x.cps.toList.length : Int) by omega)
  exact ⟨.str ⟨#[k]⟩, by show (atI x.cps.toList r).map _ = _; rw [hk]; rfl, ⟨k, hm, rfl⟩, p1, u1⟩
/-! a list of draws -/
theorem lc_draw {g : Tg} {fe : ET} {env : Mi.Env} {n c B : Nat} {P : D → Prop} (hg : ∀ d, ∃ e2, g d env = some e2 ∧ ∀ s T, PotAt s n T → T + c ≤ B → Wp (fe e2 s) (Dr s n (T + c) P)) :
    ∀ (ds acc : List D) (s : Sto) (T : Nat), acc.length + ds.length ≤ 1000000 → (∀ x ∈ acc, P x) → PotAt s n T → T + ds.length * c ≤ B →
      Wp (lcGo (fun _ => True) g bYes fe env ds acc s) fun out s' => out.length = acc.length + ds.length ∧ (∀ x ∈ out, P x) ∧ PotAt s' n (T + ds.length * c) ∧ Upd n s s'
  | [], acc, s, T, hl, hp, h, hB => by
    rw [lcGo, if_pos True.intro]
    exact ⟨by simp, hp, h.mono (by simp), Upd.refl⟩
  | d :: r, acc, s, T, hl, hp, h, hB => by
    obtain ⟨e2, he, hw⟩ := hg d
    rw [List.length_cons] at hl hB ⊢
    rw [lcGo, if_pos True.intro, he]
    walk_at "ev"
    rw [Nat.succ_mul] at hB ⊢
    refine (hw s T h (by omega)).mono fun y s1 ⟨hy, p1, u1⟩ => ?_
    rw [if_pos (Nat.lt_of_lt_of_le (show acc.length < 1000001 by omega) (by decide))]
    refine (lc_draw hg r (acc ++ [y]) s1 (T + c) (by simp; omega) (fun x hx => ?_) p1 (by omega)).mono fun out s2 ⟨h1, h2, h3, h4⟩ => ⟨by rw [h1]; simp; omega, h2, h3.mono (by omega), u1.trans h4⟩
    rcases List.mem_append.mp hx with hx | hx
    · exact hp x hx
    · rw [List.mem_singleton.mp hx]; exact hy
/-! ### values -/
def Ok (x : Str) : Prop := x.length ≤ 100 ∧ ∀ c ∈ x.cps.toList, c < 128
def Sc (d : D) : Prop := (∃ b, d = .bl b) ∨ (∃ i, d = .int i ∧ -1000000 ≤ i ∧ i ≤ 1000000) ∨ ∃ x, d = .str x ∧ Ok x
def Vd : Nat → D → Prop
  | 0, d => Sc d
  | k + 1, d => Sc d ∨ ∃ xs, d = .tup xs ∧ xs.length ≤ 16 ∧ ∀ x ∈ xs, Vd k x
theorem Vd.sc {d : D} (h : Sc d) : ∀ k, Vd k d
  | 0 => h
  | _ + 1 => .inl h
theorem Vd.up {d : D} : ∀ {k j : Nat}, Vd k d → k ≤ j → Vd j d
  | 0, _, h, _ => Vd.sc h _
  | k + 1, 0, h, i => absurd i (by omega)
  | k + 1, j + 1, h, i => by
    rcases h with h | ⟨xs, e, l, h⟩
    · exact .inl h
    · exact .inr ⟨xs, e, l, fun x hx => Vd.up (h x hx) (by omega)⟩
theorem Ok.app {x y : Str} (hx : ∀ c ∈ x.cps.toList, c < 128) (hy : ∀ c ∈ y.cps.toList, c < 128) (hl : x.length + y.length ≤ 100) : Ok (x ++ y) := by
  refine ⟨by rw [str_len_app]; exact hl, fun c hc => ?_⟩
  have e : (x ++ y).cps.toList = x.cps.toList ++ y.cps.toList := TL.tl_append x y
  rw [e, List.mem_append] at hc
  exact hc.elim (hx c) (hy c)
theorem join_empty (ys : List Str) : TL.tl (Txt.join "" ys) = (ys.map TL.tl).flatten := by
  rw [TL.join_eq, TL.tl_join]
  have e : TL.tl ("" : Str) = [] := rfl
  rw [e]
  induction ys with
  | nil => rfl
  | cons y r ih =>
    cases r with
    | nil => simp [TL.joinL]
    | cons z r => rw [List.map_cons, List.flatten_cons, ← ih]; rfl
theorem one_join {ds : List D} {A : List Nat} (h : ∀ d ∈ ds, ∃ k ∈ A, d = .str ⟨#[k]⟩) : ∃ ks : List Nat, ds = (ks.map fun k => (⟨#[k]⟩ : Str)).map .str ∧ ks.length = ds.length ∧ ∀ k ∈ ks, k ∈ A := by
  induction ds with
  | nil => exact ⟨[], rfl, rfl, by simp⟩
  | cons d r ih =>
    obtain ⟨ks, e, l, hk⟩ := ih fun x hx => h x (List.mem_cons_of_mem _ hx)
    obtain ⟨k, hkA, rfl⟩ := h d List.mem_cons_self
    refine ⟨k :: ks, by rw [e]; rfl, by simp [l], fun x hx => ?_⟩
    rcases List.mem_cons.mp hx with rfl | hx
    · exact hkA
    · exact hk x hx
theorem ones_flat (ks : List Nat) : ((ks.map fun k => (⟨#[k]⟩ : Str)).map TL.tl).flatten = ks := by
  induction ks with
  | nil => rfl
  | cons k r ih =>
    rw [List.map_cons, List.map_cons, List.flatten_cons, ih]
    rfl
theorem ones_sum (ks : List Nat) : ((ks.map fun k => (⟨#[k]⟩ : Str)).map (·.length)).sum = ks.length := by
  induction ks with
  | nil => rfl
  | cons k r ih => rw [List.map_cons, List.map_cons, List.sum_cons, ih, List.length_cons, Nat.add_comm]; rfl
theorem pow6 {s : Sto} : opPow s (.int 10) (.int 6) = some (.int 1000000) := rfl
theorem a80 {s : Sto} : opMul s (.str "a") (.int 80) = some (.str (repS "a" 80)) := rfl
theorem ok_const {x : Str} (h : (decide (x.length ≤ 80) && x.cps.toList.all fun c => decide (c < 128)) = true) : x.length ≤ 80 ∧ ∀ c ∈ x.cps.toList, c < 128 := by
  rw [Bool.and_eq_true] at h
  exact ⟨of_decide_eq_true h.1, fun c hc => of_decide_eq_true (List.all_eq_true.mp h.2 c hc)⟩
theorem add_lst {s : Sto} {xs ys : List D} (h : xs.length + ys.length ≤ sizeLine) : opAdd s (.lst xs) (.lst ys) = some (.lst (xs ++ ys)) := by simp [opAdd, asL, h]
theorem add_tup {s : Sto} {xs ys : List D} (h : xs.length + ys.length ≤ sizeLine) : opAdd s (.tup xs) (.tup ys) = some (.tup (xs ++ ys)) := by simp [opAdd, h]
theorem add_str {s : Sto} {x y : Str} (h : x.length + y.length ≤ sizeLine) : opAdd s (.str x) (.str y) = some (.str (x ++ y)) := by simp [opAdd, h]
theorem plain_ok {s : Sto} {n T : Nat} (h : PotAt s n T) (hT : T + 30 ≤ 2 ^ 40) : Wp (F__law_plain [.ref n] s) (Dr s n (T + 26) Sc) := by
  rw [F__law_plain, mFun_ap (n := 1) rfl, b__law_plain]
  walk_at "ev"
  refine ⟨by decide, ?_⟩
  refine (pick_lst h (by omega) (by simp) (by simp)).mono fun d s1 ⟨hd, p1, u1⟩ => ?_
  have hj : ∃ j : Int, d = .int j ∧ 0 ≤ j ∧ j ≤ 20 := by
    simp only [List.mem_cons, List.not_mem_nil, or_false] at hd
    rcases hd with h | h | h | h | h | h <;> exact ⟨_, h, by omega, by omega⟩
  obtain ⟨j, rfl, hj0, hj1⟩ := hj
  refine ⟨j, rfl, ⟨by omega, by omega⟩, ?_⟩
  refine Wp.mono (lc_draw (n := n) (c := 1) (B := 2 ^ 40) (P := fun d => ∃ k ∈ ("az09-b" : Str).cps.toList, d = .str ⟨#[k]⟩) ?hg (rangeD 0 j.toNat) [] s1 (T + 1) (by simp [rangeD]; omega) (by simp) p1 (by simp [rangeD]; omega)) ?_
  case hg =>
    intro d
    refine ⟨_, rfl, fun s T h hT => ?_⟩
    simp only [wipeE]
    walk_at "ev"
    exact pick_str h (by omega) (by decide) (by decide)
  intro out s2 ⟨l2, h2, p2, u2⟩
  have l2 : out.length = j.toNat := by simpa [rangeD] using l2
  have p2 : PotAt s2 n (T + 21) := p2.mono (by simp [rangeD]; omega)
  obtain ⟨ks, rfl, lk, hk⟩ := one_join h2
  have okj : Ok (Txt.join "" (ks.map fun k => (⟨#[k]⟩ : Str))) := by
    have e : TL.tl (Txt.join "" (ks.map fun k => (⟨#[k]⟩ : Str))) = ks := by rw [join_empty, ones_flat]
    refine ⟨by rw [TL.len_tl, e]; omega, fun c hc => ?_⟩
    have hc : c ∈ ks := by rw [← e]; exact hc
    exact (ok_const (x := "az09-b") (by decide +kernel)).2 c (hk c hc)
  have ej : mbJoin s2 (.str "") [.lst ((ks.map fun k => (⟨#[k]⟩ : Str)).map .str)] = some (.str (Txt.join "" (ks.map fun k => (⟨#[k]⟩ : Str)))) := by
    simp only [mbJoin, asL, Option.bind_some, allStr_map]
    refine if_pos ⟨?_, Nat.le_trans okj.1 (by decide)⟩
    rw [ones_sum, List.length_map]
    show ks.length + ks.length * 0 ≤ 16777216
    omega
  refine ⟨_, ej, _, a80, by decide, by decide, ?_⟩
  refine (pick_lst p2 (by omega) (by simp) (by simp)).mono fun d3 s3 ⟨hd3, p3, u3⟩ => ?_
  refine (pick_lst p3 (by omega) (by simp) (by simp)).mono fun d4 s4 ⟨hd4, p4, u4⟩ => ?_
  have e3 : ∃ x, d3 = .str x ∧ x.length = 1 ∧ ∀ c ∈ x.cps.toList, c < 128 := by
    simp only [List.mem_cons, List.not_mem_nil, or_false] at hd3
    rcases hd3 with h | h
    · exact ⟨_, h, by decide, (ok_const (by decide +kernel)).2⟩
    · exact ⟨_, h, by decide, (ok_const (by decide +kernel)).2⟩
  have e4 : ∃ x, d4 = .str x ∧ x.length ≤ 80 ∧ ∀ c ∈ x.cps.toList, c < 128 := by
    simp only [List.mem_cons, List.not_mem_nil, or_false] at hd4
    rcases hd4 with h | h | h | h | h | h <;> exact ⟨_, h, ok_const (by decide +kernel)⟩
  obtain ⟨x3, rfl, l3, k3⟩ := e3
  obtain ⟨x4, rfl, l4, k4⟩ := e4
  have sl : 1000 ≤ sizeLine := by decide
  refine ⟨_, add_str (by omega), ?_⟩
  refine (take_ok p4 (by omega) (by omega) (by omega)).mono fun d5 s5 ⟨⟨r5, e5, r50, r51⟩, p5, u5⟩ => ?_
  subst e5
  refine ⟨_, rfl, _, pow6, _, pow6, _, rfl, _, pow6, ?_⟩
  refine (take_ok p5 (by omega) (by omega) (by omega)).mono fun d6 s6 ⟨⟨r6, e6, r60, r61⟩, p6, u6⟩ => ?_
  subst e6
  refine ⟨by decide, by decide, _, add_lst (by show 7 + 5 ≤ sizeLine; omega), ?_⟩
  refine (pick_lst p6 (by omega) (by simp) (by simp)).mono fun d7 s7 ⟨hd7, p7, u7⟩ => ⟨?_, p7.mono (by omega), ((((((u1.trans u2).trans u3).trans u4).trans u5).trans u6).trans u7)⟩
  simp only [List.cons_append, List.nil_append, List.mem_cons, List.not_mem_nil, or_false] at hd7
  rcases hd7 with h | h | h | h | h | h | h | h | h | h | h | h
  · exact .inr (.inl ⟨_, h, by omega, by omega⟩)
  · exact .inr (.inl ⟨_, h, by omega, by omega⟩)
  · exact .inr (.inl ⟨_, h, by omega, by omega⟩)
  · exact .inr (.inl ⟨_, h, by omega, by omega⟩)
  · exact .inr (.inl ⟨_, h, by omega, by omega⟩)
  · exact .inr (.inl ⟨_, h, by omega, by omega⟩)
  · exact .inr (.inl ⟨_, h, by omega, by omega⟩)
  · exact .inl ⟨_, h⟩
  · exact .inl ⟨_, h⟩
  · exact .inr (.inr ⟨_, h, okj⟩)
  · exact .inr (.inr ⟨_, h, okj⟩)
  · exact .inr (.inr ⟨_, h, Ok.app k3 k4 (by omega)⟩)
def valC : Nat → Nat
  | 0 => 30
  | k + 1 => 40 + 16 * valC k
theorem value_ok {n : Nat} : ∀ (k m : Nat) {s : Sto} {T : Nat}, k ≤ m → PotAt s n T → T + valC k ≤ 2 ^ 40 → Wp (F__law_value (m + 1) [.ref n, .int (k : Int)] s) (Dr s n (T + valC k) (Vd k))
  | 0, m, s, T, _, h, hT => by
    rw [F__law_value, mFun_ap (n := 2) rfl, b__law_value]
    walk_at "ev"
    refine ⟨_, rfl, _, rfl, ?_⟩
    rw [if_pos (by rfl)]
    exact (plain_ok h (by have : valC 0 = 30 := rfl; omega)).mono fun d s1 q => q.mono Upd.refl (by have : valC 0 = 30 := rfl; omega) fun z => z
  | k + 1, m, s, T, hm, h, hT => by
    obtain ⟨m, rfl⟩ : ∃ j, m = j + 1 := ⟨m - 1, by omega⟩
    have hv : valC (k + 1) = 40 + 16 * valC k := rfl
    rw [F__law_value, mFun_ap (n := 2) rfl, b__law_value]
    walk_at "ev"
    refine ⟨_, rfl, _, rfl, ?_⟩
    have ne : ∀ (j : Nat), j ≠ 0 → PyData.eqv (.int ((j : Nat) : Int)) (.int 0) = false := fun j hj => by
      show ((j : Int) == 0) = false
      exact beq_eq_false_iff_ne.mpr (by omega)
    rw [ne (k + 1) (by omega), if_neg (by decide)]
    refine (take_ok h (by omega) (by omega) (by omega)).mono fun d1 s1 ⟨⟨r1, e1, r10, r11⟩, p1, u1⟩ => ?_
    subst e1
    refine ⟨_, rfl, _, rfl, ?_⟩
    by_cases c : (0 : Int) < r1
    · rw [if_pos (decide_eq_true c)]
      exact (plain_ok p1 (by omega)).mono fun d s2 q => q.mono u1 (by omega) fun z => Vd.sc z _
    · rw [if_neg (by simpa using c)]
      refine ⟨_, rfl, _, rfl, ?_⟩
      have pickd : ∀ (y : Int), 0 ≤ y → y ≤ 16 → 0 + 1 + 1 + 1 + 1 + 1 + 1 ≤ sizeLine ∧ Wp (F__law_pick [.ref n, .lst [.int 0, .int 1, .int 2, .int 3, .int 3, .int y]] s1) fun d s1' => ∃ j, d = .int j ∧ (-2 ^ 62 ≤ j ∧ j < 2 ^ 62) ∧ Wp (lcGo (fun x => True) (tgN 3) bYes
            (mCall (F__law_value (m + 1)) (mCons (mVar 0) (mCons (mOp opSub (mVar 1) (mC (D.int 1))) mNil)))
            (wipeE [some (D.ref n), some (D.int ((k + 1 : Nat) : Int)), some d, none] [3]) (rangeD 0 j.toNat) [] s1') fun ds s2 => ∃ z, cbTuple s2 [D.lst ds] = some z ∧ Dr s n (T + valC (k + 1)) (Vd (k + 1)) z s2 := by
        intro y y0 y1
        refine ⟨by decide, (pick_lst p1 (by omega) (by simp) (by simp)).mono fun d2 s2 ⟨hd2, p2, u2⟩ => ?_⟩
        have hj : ∃ j : Int, d2 = .int j ∧ 0 ≤ j ∧ j ≤ 16 := by
          simp only [List.mem_cons, List.not_mem_nil, or_false] at hd2
          rcases hd2 with h | h | h | h | h | h <;> exact ⟨_, h, by omega, by omega⟩
        obtain ⟨j, rfl, hj0, hj1⟩ := hj
        refine ⟨j, rfl, ⟨by omega, by omega⟩, ?_⟩
        have lr : (rangeD 0 j.toNat).length = j.toNat := by simp [rangeD]
        have bd : j.toNat * valC k ≤ 16 * valC k := Nat.mul_le_mul_right _ (by omega)
        refine Wp.mono (lc_draw (n := n) (c := valC k) (B := 2 ^ 40) (P := Vd k) ?hg (rangeD 0 j.toNat) [] s2 (T + 2) (by rw [lr]; simp; omega) (by simp) p2 (by rw [lr]; omega)) ?_
        · intro d
          refine ⟨_, rfl, fun s T h hT => ?_⟩
          simp only [wipeE]
          walk_at "ev"
          refine ⟨_, rfl, ?_⟩
          have e : ((k + 1 : Nat) : Int) - 1 = (k : Int) := by omega
          rw [e]
          exact value_ok k m (by omega) h (by omega)
        · intro out s3 ⟨l3, h3, p3, u3⟩
          refine ⟨_, rfl, .inr ⟨out, rfl, ?_, h3⟩, p3.mono (by rw [lr]; omega), (u1.trans u2).trans u3⟩
          rw [l3, lr]; simp; omega
      split
      · exact pickd 16 (by omega) (by omega)
      · exact pickd 2 (by omega) (by omega)
end K01
end
section
set_option maxRecDepth 100000
set_option maxHeartbeats 1000000
namespace K01
open PySem L2 Mi
local macro_rules | `(tactic| walk_at "ev") => `(tactic| simp only [Wp_ok, Wp_bind, Wp_quiet, WpS_fl, WpS_then, Nx_nx, Nx_rt, Nx_bk, Nx_ct, mVar_ap, mC_ap, mOp_ap, mUn_ap, mB_ap, mTru_ap, mAnd_ap, mOr_ap, mNot_ap,
  bAnd_ap, bOr_ap, bNot_ap, bYes_ap, mIf_ap, mNil_ap, mCons_ap, mTup_ap, mLst_ap, mLstR_ap, mDic0_ap, mCall_ap, mCb_ap, mMb_ap, mStr_ap, mRevT_ap, mPart_ap, mNoPart_ap, mSl_ap, mChain_ap, itL_ap, itT_ap, itS_ap, itR1_ap,
  sNil_ap, sSeq_ap, sIf_ap, sRet_ap, sRetN_ap, sBrk_ap, sCnt_ap, sExp_ap, sAsg_ap, sPar_ap, sPar3_ap, tgN_ap, tgNil_ap, tgCons_ap, sSetIx_ap, sFor_ap, Wp_mLc,
  List.map_cons, List.map_nil, List.cons_append, List.nil_append, List.replicate_succ, List.replicate_zero, List.getElem?_cons_zero, List.getElem?_cons_succ, List.set_cons_zero, List.set_cons_succ, List.length_cons, List.length_nil,
  Option.some.injEq, Option.bind_some, exists_eq_left, exists_eq_left', true_and, and_true, D.bl.injEq, D.int.injEq, D.str.injEq, D.ref.injEq, D.tup.injEq, D.lst.injEq, List.cons.injEq, if_true, if_false, Bool.false_eq_true, reduceCtorEq, false_and, and_false, or_false, false_or, exists_false])
local macro_rules | `(tactic| walk_at "isi") => `(tactic| simp only [isi_NoneType_bool, isi_NoneType_int, isi_NoneType_str, isi_NoneType_tuple, isi_NoneType_list, isi_NoneType_dict, isi_bool_bool, isi_bool_int, isi_bool_str, isi_bool_tuple, isi_bool_list, isi_bool_dict,
  isi_int_bool, isi_int_int, isi_int_str, isi_int_tuple, isi_int_list, isi_int_dict, isi_str_bool, isi_str_int, isi_str_str, isi_str_tuple, isi_str_list, isi_str_dict, isi_tuple_bool, isi_tuple_int, isi_tuple_str, isi_tuple_tuple, isi_tuple_list, isi_tuple_dict,
  isi_list_bool, isi_list_int, isi_list_str, isi_list_tuple, isi_list_list, isi_list_dict, isi_dict_bool, isi_dict_int, isi_dict_str, isi_dict_tuple, isi_dict_list, isi_dict_dict, tru_bl, tru_non, Option.some.injEq, exists_eq_left', exists_eq_left, if_true, if_false, Bool.false_eq_true, Bool.not_true, Bool.not_false, true_and, false_and, or_false, false_or, reduceCtorEq, D.bl.injEq])
/-- a list of what does not change the store -/
theorem lc_pair {G : Sto → Prop} {g : Tg} {fe : ET} {env : Mi.Env} {s : Sto} {Rr : D → D → Prop} (hG : G s) :
    ∀ (ds acc : List D), (∀ d ∈ ds, ∃ e2, g d env = some e2 ∧ Wp (fe e2 s) fun y s' => s' = s ∧ Rr d y) → acc.length + ds.length ≤ 1000000 →
      Wp (lcGo G g bYes fe env ds acc s) fun out s' => s' = s ∧ ∃ ys, out = acc ++ ys ∧ Paired Rr ds ys
  | [], acc, _, _ => by
    rw [lcGo, if_pos hG]
    exact ⟨rfl, [], by simp, .nil⟩
  | d :: r, acc, h, hl => by
    obtain ⟨e2, he, hw⟩ := h d List.mem_cons_self
    rw [lcGo, if_pos hG, he]
    rw [List.length_cons] at hl
    walk_at "ev"
    refine hw.mono fun y s1 ⟨e, hy⟩ => ?_
    subst e
    rw [if_pos (Nat.lt_of_lt_of_le (show acc.length < 1000001 by omega) (by decide))]
    refine (lc_pair hG r (acc ++ [y]) (fun x hx => h x (List.mem_cons_of_mem _ hx)) (by simp; omega)).mono fun out s2 ⟨e2, ys, e3, p⟩ => ⟨e2, y :: ys, by rw [e3]; simp, .cons hy p⟩
theorem Paired.mem {α β : Type} {F : α → β → Prop} : ∀ {l : List α} {m : List β} {y : β}, Paired F l m → y ∈ m → ∃ x ∈ l, F x y
  | _, _, _, .nil, h => by simp at h
  | _, _, _, .cons r t, h => by
    rcases List.mem_cons.mp h with rfl | h
    · exact ⟨_, List.mem_cons_self, r⟩
    · obtain ⟨x, hx, f⟩ := Paired.mem t h
      exact ⟨x, List.mem_cons_of_mem _ hx, f⟩
theorem Paired.memL {α β : Type} {F : α → β → Prop} : ∀ {l : List α} {m : List β} {x : α}, Paired F l m → x ∈ l → ∃ y ∈ m, F x y
  | _, _, _, .nil, h => by simp at h
  | _, _, _, .cons r t, h => by
    rcases List.mem_cons.mp h with rfl | h
    · exact ⟨_, List.mem_cons_self, r⟩
    · obtain ⟨x, hx, f⟩ := Paired.memL t h
      exact ⟨x, List.mem_cons_of_mem _ hx, f⟩
/-! ### things of any form -/
def strK (x : Str) : Prop := x.length ≤ 1000 ∧ ∀ c ∈ x.cps.toList, c < 0x110000
def Flat (d : D) : Prop := d = .non ∨ (∃ b, d = .bl b) ∨ (∃ i, d = .int i) ∨ (∃ x, d = .str x ∧ strK x) ∨ (∃ xs, d = .lst xs) ∨ ∃ kvs, d = .dic kvs
def Th : Nat → D → Prop
  | 0, d => Flat d
  | k + 1, d => Flat d ∨ ∃ xs, d = .tup xs ∧ xs.length ≤ 1000 ∧ ∀ x ∈ xs, Th k x
theorem Th.fl {d : D} (h : Flat d) : ∀ k, Th k d
  | 0 => h
  | _ + 1 => .inl h
theorem strOk_of {x : Str} (h : ∀ c ∈ x.cps.toList, c < 0x110000) : PySem.PyData.strOk x = true := by
  unfold PyData.strOk
  rw [← Array.all_toList, List.all_eq_true]
  exact fun c hc => decide_eq_true (h c hc)
theorem shaped_str {x : Str} (h : ∀ c ∈ x.cps.toList, c < 0x110000) : SeqAt.shaped (.str x) = true := by
  unfold SeqAt.shaped
  rw [Bool.and_eq_true]
  exact ⟨by simp only [PyData.canLay0]; exact strOk_of h, by simp [PyData.depth]⟩
theorem ne_str {s : Sto} {x y : Str} (hx : ∀ c ∈ x.cps.toList, c < 0x110000) (hy : ∀ c ∈ y.cps.toList, c < 0x110000) : opNe s (.str x) (.str y) = some (.bl (!(x == y))) := by
  simp only [opNe, pyA, asL, pyD, shaped_str hx, shaped_str hy, and_self, if_true, PyData.eqv]
theorem eq_str {s : Sto} {x y : Str} (hx : ∀ c ∈ x.cps.toList, c < 0x110000) (hy : ∀ c ∈ y.cps.toList, c < 0x110000) : opEq s (.str x) (.str y) = some (.bl (x == y)) := by
  simp only [opEq, pyA, asL, pyD, shaped_str hx, shaped_str hy, and_self, if_true, PyData.eqv]
theorem in_sign {s : Sto} {k : Nat} {y : Str} : opIn s (.str ⟨#[k]⟩) (.str y) = some (.bl (decide (k ∈ y.cps.toList))) := rfl
theorem lit_ok {x : Str} (h : (x.cps.toList.all fun c => decide (c < 128)) = true) : ∀ c ∈ x.cps.toList, c < 0x110000 := fun c hc => Nat.lt_trans (of_decide_eq_true (List.all_eq_true.mp h c hc)) (by decide)
theorem all_bls {ds : List D} {bs : List Bool} (h : ds = bs.map .bl) {s : Sto} : cbAll s [.lst ds] = some (.bl (bs.all id)) := by
  subst h
  simp [cbAll, asL, allBl_map]
theorem lc_signs {env : Mi.Env} {s : Sto} {i j : Nat} {t sg : Str} (hi : i < env.length) (hij : i ≠ j) (hj : env[j]? = some (some (.str sg))) (hl : t.length ≤ 1000) :
    Wp (lcGo (fun _ => True) (tgN i) bYes (mOp opIn (mVar i) (mVar j)) env (signs t) [] s) fun out s' => s' = s ∧ out = (t.cps.toList.map fun c => decide (c ∈ sg.cps.toList)).map .bl := by
  have ls : (signs t).length = t.length := by simp [signs, TL.len_tl]
  refine Wp.mono (lc_pair (Rr := fun d y => ∃ c, d = .str ⟨#[c]⟩ ∧ y = .bl (decide (c ∈ sg.cps.toList))) True.intro (signs t) [] ?h (by rw [ls]; simp; omega)) ?k
  case h =>
    intro d hd
    obtain ⟨c, hc, rfl⟩ := List.mem_map.mp hd
    refine ⟨_, rfl, ?_⟩
    walk_at "ev"
    refine ⟨_, List.getElem?_set_self hi, _, (List.getElem?_set_ne hij).trans hj, _, in_sign, c, rfl, rfl⟩
  case k =>
    intro out s' ⟨e, ys, e2, p⟩
    refine ⟨e, ?_⟩
    rw [e2, List.nil_append]
    clear e e2 ls hl
    unfold signs at p
    generalize t.cps.toList = l at p ⊢
    induction l generalizing ys with
    | nil => cases p; rfl
    | cons c r ih =>
      rw [List.map_cons] at p
      cases p with
      | cons h t =>
        obtain ⟨c', e1, e2⟩ := h
        rw [ih _ t, e2]
        have : c = c' := by
          have := D.str.inj e1
          have := congrArg (fun x : Str => x.cps.toList) this
          simpa using this
        rw [this]; rfl
def TEXT : Str := "abcdefghijklmnopqrstuvwxyz0123456789-"
theorem TEXT_ok : ∀ c ∈ TEXT.cps.toList, c < 128 := fun c hc => of_decide_eq_true (List.all_eq_true.mp (show (TEXT.cps.toList.all fun c => decide (c < 128)) = true by decide +kernel) c hc)
theorem IDS_ok : ∀ c ∈ (TEXT ++ ("./[]" : Str)).cps.toList, c < 128 := fun c hc => of_decide_eq_true (List.all_eq_true.mp (show ((TEXT ++ ("./[]" : Str)).cps.toList.all fun c => decide (c < 128)) = true by decide +kernel) c hc)
theorem all_in {t : List Nat} {A : List Nat} (h : ((t.map fun c => decide (c ∈ A)).all id) = true) : ∀ c ∈ t, c ∈ A := fun c hc => by
  rw [List.all_eq_true] at h
  exact of_decide_eq_true (h _ (List.mem_map.mpr ⟨c, hc, rfl⟩))
theorem cut1 {x : Str} {k : Nat} {r : List Nat} (h : x.cps.toList = k :: r) : (cutS x (some 1) none).cps.toList = r := by
  have l : x.length = r.length + 1 := by rw [TL.len_tl, show TL.tl x = k :: r from h]; rfl
  unfold cutS
  rw [l, h, show (1 : Int) = ((1 : Nat) : Int) from rfl, HT.sIx_nat, HT.sIx_none, show min 1 (r.length + 1) = 1 by omega]
  simp
theorem sort_str {s : Sto} {x : Str} (h : strK x) : Wp (F__law_sort [.str x] s) fun v s' => s' = s ∧ (v = .non ∨ ((∃ w, v = .str w) ∧ Sc (.str x))) := by
  rw [F__law_sort, mFun_ap (n := 1) rfl, b__law_sort]
  simp only [List.map_cons, List.map_nil, List.cons_append, List.nil_append, List.replicate_succ, List.replicate_zero]
  have e0 : ∀ c ∈ ("" : Str).cps.toList, c < 0x110000 := by intro c hc; simp [show ("" : Str).cps.toList = [] from rfl] at hc
  refine seqK (fun e s' => e = [some (.str x), none, none, none, none, none, none] ∧ s = s') ?_ ?_
  · walk_at "ev"; walk_at "isi"
  rintro _ _ ⟨rfl, rfl⟩
  refine seqK (fun e s' => e = [some (.str x), none, none, none, none, none, none] ∧ s = s') ?_ ?_
  · walk_at "ev"; walk_at "isi"
  rintro _ _ ⟨rfl, rfl⟩
  refine seqK (fun e s' => e = [some (.str x), none, none, none, none, none, none] ∧ s = s') ?_ ?_
  · walk_at "ev"; walk_at "isi"
  rintro _ _ ⟨rfl, rfl⟩
  refine seqK (fun e s' => e = [some (.str x), some (.str TEXT), some (.str "text"), some (.int 20), some (.str x), none, none] ∧ s = s') ?_ ?_
  · walk_at "ev"; exact ⟨by decide, _, rfl, rfl⟩
  rintro _ _ ⟨rfl, rfl⟩
  -- which signs, how many, which text
  refine seqK (fun e s' => s = s' ∧ ∃ (sg wd tx : Str) (ms : Int), e = [some (.str x), some (.str sg), some (.str wd), some (.int ms), some (.str tx), none, none] ∧ (∀ c ∈ wd.cps.toList, c < 0x110000) ∧ strK tx ∧
    ((∀ c ∈ tx.cps.toList, c ∈ sg.cps.toList) → (tx.length : Int) ≤ ms → Sc (.str x))) ?_ ?_
  · walk_at "ev"
    refine ⟨_, ne_str h.2 e0, _, rfl, ?_⟩
    have asText : ∃ (sg wd tx : Str) (ms : Int), (TEXT = sg ∧ ("text" : Str) = wd ∧ 20 = ms ∧ x = tx) ∧ (∀ c ∈ wd.cps.toList, c < 0x110000) ∧ strK tx ∧
        ((∀ c ∈ tx.cps.toList, c ∈ sg.cps.toList) → (tx.length : Int) ≤ ms → Sc (.str x)) :=
      ⟨TEXT, "text", x, 20, ⟨rfl, rfl, rfl, rfl⟩, lit_ok (by decide +kernel), h, fun ha hl => .inr (.inr ⟨x, rfl, by omega, fun c hc => TEXT_ok c (ha c hc)⟩)⟩
    by_cases hx : x = ""
    · have hb : (x == "") = true := beq_iff_eq.mpr hx
      rw [hb]
      simp only [Bool.not_true, Bool.false_eq_true, if_false]
      exact asText
    · have hb : (x == "") = false := beq_eq_false_iff_ne.mpr hx
      rw [hb]
      simp only [Bool.not_false, if_true]
      have hl : ∃ k r, x.cps.toList = k :: r := by
        cases e : x.cps.toList with
        | nil => exact absurd (TL.ext_tl (y := "") e) hx
        | cons k r => exact ⟨k, r, rfl⟩
      obtain ⟨k, r, hk⟩ := hl
      refine ⟨_, ix_str (i := 0) (by rw [hk]; rfl), _, in_sign, _, rfl, ?_⟩
      by_cases hm : k ∈ ("#?" : Str).cps.toList
      · rw [if_pos (decide_eq_true hm)]
        have hk128 : k < 128 := of_decide_eq_true (List.all_eq_true.mp (show (("#?" : Str).cps.toList.all fun c => decide (c < 128)) = true by decide +kernel) k hm)
        have one : ∀ c ∈ (⟨#[k]⟩ : Str).cps.toList, c < 0x110000 := by
          intro c hc
          have : c = k := by simpa using hc
          omega
        have lx : x.length = r.length + 1 := by rw [TL.len_tl, show TL.tl x = k :: r from hk]; rfl
        have lc : (cutS x (some 1) none).length = r.length := by rw [TL.len_tl, show TL.tl (cutS x (some 1) none) = r from cut1 hk]
        have asId : ∀ (y : Str), (∀ c ∈ y.cps.toList, c < 0x110000) → ∃ z, slD s (D.str x) (some 1) none = some z ∧ ∃ d e f, (D.str y = d ∧ D.int 80 = e ∧ z = f) ∧ ∃ z, opAdd s (D.str TEXT) (D.str "./[]") = some z ∧
            ∃ (sg wd tx : Str) (ms : Int), (z = D.str sg ∧ d = D.str wd ∧ e = D.int ms ∧ f = D.str tx) ∧ (∀ c ∈ wd.cps.toList, c < 0x110000) ∧ strK tx ∧ ((∀ c ∈ tx.cps.toList, c ∈ sg.cps.toList) → (tx.length : Int) ≤ ms → Sc (.str x)) := by
          intro y hy
          refine ⟨_, rfl, _, _, _, ⟨rfl, rfl, rfl⟩, _, add_str (by decide), TEXT ++ "./[]", y, cutS x (some 1) none, 80, ⟨rfl, rfl, rfl, rfl⟩, hy, ⟨by have := h.1; omega, fun c hc => ?_⟩, fun ha hl => .inr (.inr ⟨x, rfl, by omega, fun c hc => ?_⟩)⟩
          · rw [cut1 hk] at hc
            exact h.2 c (by rw [hk]; exact List.mem_cons_of_mem _ hc)
          · rw [hk] at hc
            rcases List.mem_cons.mp hc with rfl | hc
            · exact hk128
            · exact IDS_ok c (ha c (by rw [cut1 hk]; exact hc))
        refine ⟨_, ix_str (i := 0) (by rw [hk]; rfl), _, eq_str one (lit_ok (by decide +kernel)), _, rfl, ?_⟩
        split
        · exact asId "id" (lit_ok (by decide +kernel))
        · exact asId "unknown" (lit_ok (by decide +kernel))
      · rw [if_neg (by simpa using hm)]
        exact asText
  rintro _ _ ⟨rfl, sg, wd, tx, ms, rfl, hw, ht, fin⟩
  refine seqK (fun e s' => s = s' ∧ ∃ b : Bool, e = [some (.str x), some (.str sg), some (.str wd), some (.int ms), some (.str tx), some (.bl b), none] ∧ (b = true → (tx.length : Int) ≤ ms)) ?_ ?_
  · walk_at "ev"
    refine ⟨_, rfl, _, rfl, ?_⟩
    by_cases hl : (tx.length : Int) ≤ ms
    · refine .inl ⟨by show some (decide ((tx.length : Int) ≤ ms)) = _; rw [decide_eq_true hl], _, eq_str hw (lit_ok (by decide +kernel)), ?_⟩
      by_cases hwt : wd = "text"
      · exact .inr ⟨by rw [hwt]; rfl, true, by rw [hwt]; rfl, fun _ => hl⟩
      · refine .inl ⟨by rw [beq_eq_false_iff_ne.mpr hwt]; rfl, _, ne_str ht.2 e0, _, rfl, fun _ => hl⟩
    · exact .inr ⟨by show some (decide ((tx.length : Int) ≤ ms)) = _; rw [decide_eq_false hl], false, by show D.bl (decide ((tx.length : Int) ≤ ms)) = _; rw [decide_eq_false hl], fun z => absurd z (by decide)⟩
  rintro _ _ ⟨rfl, b, rfl, hb⟩
  walk_at "ev"
  refine ⟨b, rfl, ?_⟩
  cases b with
  | false => rw [if_neg (by decide)]; trivial
  | true =>
    rw [if_pos rfl]
    refine Wp.mono (lc_signs (by show 6 < 7; decide) (by decide) rfl ht.1) ?_
    intro out s2 ⟨e, eo⟩
    subst e
    refine ⟨_, all_bls eo, _, rfl, ?_⟩
    split
    · rename_i ha
      exact ⟨rfl, ⟨_, rfl⟩, fin (all_in ha) (hb rfl)⟩
    · rfl
theorem sort_ok {s : Sto} {d : D} (h : Flat d) : Wp (F__law_sort [d] s) fun v s' => s' = s ∧ (v = .non ∨ ((∃ w, v = .str w) ∧ Sc d)) := by
  rcases h with rfl | ⟨b, rfl⟩ | ⟨i, rfl⟩ | ⟨x, rfl, hx⟩ | ⟨xs, rfl⟩ | ⟨kvs, rfl⟩
  · rw [F__law_sort, mFun_ap (n := 1) rfl, b__law_sort]
    simp only [List.map_cons, List.map_nil, List.cons_append, List.nil_append, List.replicate_succ, List.replicate_zero]
    refine seqK (fun e s' => e = [some .non, none, none, none, none, none, none] ∧ s = s') ?_ ?_
    · walk_at "ev"; walk_at "isi"
    rintro _ _ ⟨rfl, rfl⟩
    refine seqK (fun e s' => e = [some .non, none, none, none, none, none, none] ∧ s = s') ?_ ?_
    · walk_at "ev"; walk_at "isi"
    rintro _ _ ⟨rfl, rfl⟩
    refine seqK (fun e s' => False) ?_ fun _ _ h => h.elim
    walk_at "ev"; walk_at "isi"
  · rw [F__law_sort, mFun_ap (n := 1) rfl, b__law_sort]
    simp only [List.map_cons, List.map_nil, List.cons_append, List.nil_append, List.replicate_succ, List.replicate_zero]
    refine seqK (fun e s' => False) ?_ fun _ _ h => h.elim
    walk_at "ev"; walk_at "isi"
    exact ⟨⟨_, rfl⟩, .inl ⟨b, rfl⟩⟩
  · rw [F__law_sort, mFun_ap (n := 1) rfl, b__law_sort]
    simp only [List.map_cons, List.map_nil, List.cons_append, List.nil_append, List.replicate_succ, List.replicate_zero]
    refine seqK (fun e s' => e = [some (.int i), none, none, none, none, none, none] ∧ s = s') ?_ ?_
    · walk_at "ev"; walk_at "isi"
    rintro _ _ ⟨rfl, rfl⟩
    refine seqK (fun e s' => False) ?_ fun _ _ h => h.elim
    walk_at "ev"; walk_at "isi"
    refine ⟨_, rfl, ?_⟩
    by_cases h1 : (-1000000 : Int) ≤ i
    · refine .inl ⟨by show some (D.bl (decide ((-1000000 : Int) ≤ i))) = _; rw [decide_eq_true h1], _, rfl, _, rfl, ?_⟩
      by_cases h2 : i ≤ 1000000
      · rw [if_pos (decide_eq_true h2)]
        exact ⟨⟨_, rfl⟩, .inr (.inl ⟨i, rfl, h1, h2⟩)⟩
      · rw [if_neg (by simpa using h2)]; trivial
    · exact .inr (by show some (D.bl (decide ((-1000000 : Int) ≤ i))) = _; rw [decide_eq_false h1])
  · exact sort_str hx
  · rw [F__law_sort, mFun_ap (n := 1) rfl, b__law_sort]
    simp only [List.map_cons, List.map_nil, List.cons_append, List.nil_append, List.replicate_succ, List.replicate_zero]
    refine seqK (fun e s' => e = [some (.lst xs), none, none, none, none, none, none] ∧ s = s') ?_ ?_
    · walk_at "ev"; walk_at "isi"
    rintro _ _ ⟨rfl, rfl⟩
    refine seqK (fun e s' => e = [some (.lst xs), none, none, none, none, none, none] ∧ s = s') ?_ ?_
    · walk_at "ev"; walk_at "isi"
    rintro _ _ ⟨rfl, rfl⟩
    refine seqK (fun e s' => False) ?_ fun _ _ h => h.elim
    walk_at "ev"; walk_at "isi"
  · rw [F__law_sort, mFun_ap (n := 1) rfl, b__law_sort]
    simp only [List.map_cons, List.map_nil, List.cons_append, List.nil_append, List.replicate_succ, List.replicate_zero]
    refine seqK (fun e s' => e = [some (.dic kvs), none, none, none, none, none, none] ∧ s = s') ?_ ?_
    · walk_at "ev"; walk_at "isi"
    rintro _ _ ⟨rfl, rfl⟩
    refine seqK (fun e s' => e = [some (.dic kvs), none, none, none, none, none, none] ∧ s = s') ?_ ?_
    · walk_at "ev"; walk_at "isi"
    rintro _ _ ⟨rfl, rfl⟩
    refine seqK (fun e s' => False) ?_ fun _ _ h => h.elim
    walk_at "ev"; walk_at "isi"
end K01
end
section
set_option maxRecDepth 100000
set_option maxHeartbeats 1000000
namespace K01
open PySem L2 Mi
local macro_rules | `(tactic| walk_at "ev") => `(tactic| simp only [Wp_ok, Wp_bind, Wp_quiet, WpS_fl, WpS_then, Nx_nx, Nx_rt, Nx_bk, Nx_ct, mVar_ap, mC_ap, mOp_ap, mUn_ap, mB_ap, mTru_ap, mAnd_ap, mOr_ap, mNot_ap,
  bAnd_ap, bOr_ap, bNot_ap, bYes_ap, mIf_ap, mNil_ap, mCons_ap, mTup_ap, mLst_ap, mLstR_ap, mDic0_ap, mCall_ap, mCb_ap, mMb_ap, mStr_ap, mRevT_ap, mPart_ap, mNoPart_ap, mSl_ap, mChain_ap, itL_ap, itT_ap, itS_ap, itR1_ap,
  sNil_ap, sSeq_ap, sIf_ap, sRet_ap, sRetN_ap, sBrk_ap, sCnt_ap, sExp_ap, sAsg_ap, sPar_ap, sPar3_ap, tgN_ap, tgNil_ap, tgCons_ap, sSetIx_ap, sFor_ap, Wp_mLc,
  List.map_cons, List.map_nil, List.cons_append, List.nil_append, List.replicate_succ, List.replicate_zero, List.getElem?_cons_zero, List.getElem?_cons_succ, List.set_cons_zero, List.set_cons_succ, List.length_cons, List.length_nil,
  Option.some.injEq, Option.bind_some, exists_eq_left, exists_eq_left', true_and, and_true, D.bl.injEq, D.int.injEq, D.str.injEq, D.ref.injEq, D.tup.injEq, D.lst.injEq, List.cons.injEq, if_true, if_false, Bool.false_eq_true, reduceCtorEq, false_and, and_false, or_false, false_or, exists_false])
local macro_rules | `(tactic| walk_at "isi") => `(tactic| simp only [isi_NoneType_bool, isi_NoneType_int, isi_NoneType_str, isi_NoneType_tuple, isi_NoneType_list, isi_NoneType_dict, isi_bool_bool, isi_bool_int, isi_bool_str, isi_bool_tuple, isi_bool_list, isi_bool_dict,
  isi_int_bool, isi_int_int, isi_int_str, isi_int_tuple, isi_int_list, isi_int_dict, isi_str_bool, isi_str_int, isi_str_str, isi_str_tuple, isi_str_list, isi_str_dict, isi_tuple_bool, isi_tuple_int, isi_tuple_str, isi_tuple_tuple, isi_tuple_list, isi_tuple_dict,
  isi_list_bool, isi_list_int, isi_list_str, isi_list_tuple, isi_list_list, isi_list_dict, isi_dict_bool, isi_dict_int, isi_dict_str, isi_dict_tuple, isi_dict_list, isi_dict_dict, tru_bl, tru_non, Option.some.injEq, exists_eq_left', exists_eq_left, if_true, if_false, Bool.false_eq_true, Bool.not_true, Bool.not_false, true_and, false_and, or_false, false_or, reduceCtorEq, D.bl.injEq])

/-- what a depth is -/
def Dp1 (y : D) : Prop := y = .non ∨ ∃ j : Nat, y = .int (j : Int)
theorem deps_py : ∀ {ys : List D}, (∀ y ∈ ys, Dp1 y) → ∃ ds, pyDs ys = some ds ∧ PyData.canLayAll0 ds = true ∧ PyData.depthAll ds = 0 ∧ ((ds.any fun z => PyData.eqv z .none) = true ↔ D.non ∈ ys)
  | [], _ => ⟨[], rfl, rfl, rfl, by simp⟩
  | y :: r, h => by
    obtain ⟨ds, e, c, dp, iff⟩ := deps_py fun z hz => h z (List.mem_cons_of_mem _ hz)
    rcases h y List.mem_cons_self with rfl | ⟨j, rfl⟩
    · exact ⟨.none :: ds, by simp [pyDs, pyD, e], by simp [PyData.canLayAll0, PyData.canLay0, c], by simp [PyData.depthAll, PyData.depth, dp], by simp [PyData.eqv]⟩
    · refine ⟨.int j :: ds, by simp [pyDs, pyD, e], by simp [PyData.canLayAll0, PyData.canLay0, c], by simp [PyData.depthAll, PyData.depth, dp], ?_⟩
      rw [List.any_cons, Bool.or_eq_true, iff]
      simp [PyData.eqv]
theorem non_in {s : Sto} {ys : List D} (h : ∀ y ∈ ys, Dp1 y) : ∃ b, opIn s .non (.lst ys) = some (.bl b) ∧ (b = true ↔ D.non ∈ ys) := by
  obtain ⟨ds, e, c, dp, iff⟩ := deps_py h
  refine ⟨_, ?_, iff⟩
  have s1 : SeqAt.shaped .none = true := by decide
  have s2 : SeqAt.shaped (.list ds) = true := by
    unfold SeqAt.shaped
    rw [Bool.and_eq_true]
    exact ⟨by simp only [PyData.canLay0]; exact c, by simp only [PyData.depth, dp]; decide⟩
  simp only [opIn, inB, asL, e, pyD, s1, s2, and_self, if_true, Option.map_some]
theorem deps_int : ∀ {ys : List D}, (∀ y ∈ ys, Dp1 y) → D.non ∉ ys → ∃ ns : List Int, ys = ns.map .int ∧ ∀ n ∈ ns, 0 ≤ n
  | [], _, _ => ⟨[], rfl, by simp⟩
  | y :: r, h, hn => by
    obtain ⟨ns, e, p⟩ := deps_int (fun z hz => h z (List.mem_cons_of_mem _ hz)) fun z => hn (List.mem_cons_of_mem _ z)
    rcases h y List.mem_cons_self with rfl | ⟨j, rfl⟩
    · exact absurd List.mem_cons_self hn
    · refine ⟨(j : Int) :: ns, by rw [e]; rfl, fun n hn => ?_⟩
      rcases List.mem_cons.mp hn with rfl | hn
      · omega
      · exact p n hn
theorem deep_flat {s : Sto} {d : D} (h : Flat d) (m : Nat) : Wp (F__law_deep (m + 1) [d] s) fun v s' => s' = s ∧ (v = .non ∨ ∃ j : Nat, v = .int (j : Int) ∧ Vd j d) := by
  have key : isiD "tuple" s d = some (.bl false) := by
    rcases h with rfl | ⟨b, rfl⟩ | ⟨i, rfl⟩ | ⟨x, rfl, hx⟩ | ⟨xs, rfl⟩ | ⟨kvs, rfl⟩ <;> simp
  rw [F__law_deep, mFun_ap (n := 1) rfl, b__law_deep]
  simp only [List.map_cons, List.map_nil, List.cons_append, List.nil_append, List.replicate_succ, List.replicate_zero]
  refine seqK (fun e s' => False) ?_ fun _ _ h => h.elim
  walk_at "ev"
  refine ⟨_, key, _, rfl, ?_⟩
  simp only [Bool.not_false, if_true]
  refine (sort_ok h).mono fun v s1 ⟨e, hv⟩ => ?_
  subst e
  rcases hv with rfl | ⟨⟨w, rfl⟩, hs⟩
  · exact ⟨_, rfl, _, rfl, by simp [isNonD]⟩
  · refine ⟨_, rfl, _, rfl, ?_⟩
    simp only [isNonD, Bool.false_eq_true, if_false]
    exact ⟨trivial, 0, rfl, hs⟩
theorem deep_ok {s : Sto} : ∀ (k m : Nat) {d : D}, k ≤ m → Th k d → Wp (F__law_deep (m + 1) [d] s) fun v s' => s' = s ∧ (v = .non ∨ ∃ j : Nat, v = .int (j : Int) ∧ Vd j d)
  | 0, m, d, _, h => deep_flat h m
  | k + 1, m, d, hm, h => by
    rcases h with h | ⟨xs, rfl, hl, hx⟩
    · exact deep_flat h m
    obtain ⟨m, rfl⟩ : ∃ j, m = j + 1 := ⟨m - 1, by omega⟩
    rw [F__law_deep, mFun_ap (n := 1) rfl, b__law_deep]
    simp only [List.map_cons, List.map_nil, List.cons_append, List.nil_append, List.replicate_succ, List.replicate_zero]
    refine seqK (fun e s' => e = [some (.tup xs), none, none] ∧ s = s') ?_ ?_
    · walk_at "ev"; walk_at "isi"
    rintro _ _ ⟨rfl, rfl⟩
    refine seqK (fun e s' => s = s' ∧ ∃ ys, e = [some (.tup xs), some (.lst ys), none] ∧ Paired (fun x y => y = .non ∨ ∃ j : Nat, y = .int (j : Int) ∧ Vd j x) xs ys) ?_ ?_
    · walk_at "ev"
      refine Wp.mono (lc_pair (Rr := fun x y => y = .non ∨ ∃ j : Nat, y = .int (j : Int) ∧ Vd j x) True.intro xs [] ?h (by simp; omega)) ?k
      case h =>
        intro x hxm
        refine ⟨_, rfl, ?_⟩
        simp only [wipeE]
        walk_at "ev"
        exact deep_ok k m (by omega) (hx x hxm)
      case k =>
        intro out s1 ⟨e, ys, e2, p⟩
        subst e
        rw [List.nil_append] at e2
        subst e2
        exact ⟨rfl, p⟩
    rintro _ _ ⟨rfl, ys, rfl, p⟩
    have hy : ∀ y ∈ ys, Dp1 y := fun y hy => by
      obtain ⟨x, _, h⟩ := Paired.mem p hy
      rcases h with h | ⟨j, h, _⟩
      · exact .inl h
      · exact .inr ⟨j, h⟩
    refine seqK (fun e s' => s = s' ∧ e = [some (.tup xs), some (.lst ys), none] ∧ xs.length ≤ 16 ∧ D.non ∉ ys) ?_ ?_
    · walk_at "ev"
      refine ⟨_, rfl, _, rfl, _, rfl, ?_⟩
      by_cases c : (16 : Int) < (xs.length : Int)
      · rw [if_pos (decide_eq_true c)]; simp
      · rw [if_neg (by simpa using c)]
        obtain ⟨b, e, iff⟩ := non_in (s := s) hy
        refine ⟨_, e, b, rfl, ?_⟩
        cases b with
        | true => simp
        | false =>
          simp only [Bool.false_eq_true, if_false]
          exact ⟨by omega, fun z => absurd (iff.mpr z) (by decide)⟩
    rintro _ _ ⟨rfl, rfl, l16, hn⟩
    obtain ⟨ns, rfl, pos⟩ := deps_int hy hn
    walk_at "ev"
    have lp := Paired.length p
    rw [List.length_map] at lp
    have sl : sizeLine = 16777216 := sizeLine_eq
    refine ⟨by decide, _, add_lst (by simp; omega), .int (maxI (0 :: ns)), ?_, .int (1 + maxI (0 :: ns)), rfl, .inr ⟨(1 + maxI (0 :: ns)).toNat, ?_, ?_⟩⟩
    · show (match ((asL s (.lst ([D.int 0] ++ ns.map D.int))).bind allInt) with | some (n :: ns) => some (D.int (maxI (n :: ns))) | _ => none) = _
      have e : asL s (.lst ([D.int 0] ++ ns.map D.int)) = some ((0 :: ns).map D.int) := rfl
      rw [e, Option.bind_some, allInt_map]
    · have h0 := (maxI_max (0 :: ns) (by simp)).2 0 (by simp)
      congr 1
      omega
    · have h0 := (maxI_max (0 :: ns) (by simp)).2 0 (by simp)
      have e : (1 + maxI (0 :: ns)).toNat = (maxI (0 :: ns)).toNat + 1 := by omega
      rw [e]
      refine .inr ⟨xs, rfl, l16, fun x hxm => ?_⟩
      obtain ⟨y, hym, h⟩ := Paired.memL p hxm
      rcases h with rfl | ⟨j, rfl, hv⟩
      · exact absurd hym hn
      · refine hv.up ?_
        obtain ⟨n, hnm, en⟩ := List.mem_map.mp hym
        have e : n = (j : Int) := D.int.inj en
        have := (maxI_max (0 :: ns) (by simp)).2 n (List.mem_cons_of_mem _ hnm)
        omega
end K01
end
section
set_option maxRecDepth 100000
set_option maxHeartbeats 1000000
namespace K01
open PySem L2 Mi Builtin Builtin.Str
/-! ### how long what is shown is -/
theorem reprChar4 (q c : Nat) (hc : c < 128) : (reprChar q c).length ≤ 4 := by
  have h2 := StrLaws.hex_len (w := 2) (c := c) (by decide) (by omega)
  unfold reprChar
  dsimp only
  repeat' split
  all_goals simp only [List.length_append, List.length_cons, List.length_nil, decide_eq_true_eq] at *
  all_goals omega
theorem foldl_repr4 (q : Nat) : ∀ (l : List Nat) (acc : Array Nat), (∀ c ∈ l, c < 128) → (l.foldl (fun out c => out ++ (reprChar q c).toArray) acc).size ≤ acc.size + 4 * l.length
  | [], acc, _ => by simp
  | c :: r, acc, h => by
    have ih := foldl_repr4 q r (acc ++ (reprChar q c).toArray) fun d hd => h d (List.mem_cons_of_mem _ hd)
    have hc := reprChar4 q c (h c List.mem_cons_self)
    simp only [List.foldl_cons, List.length_cons]
    simp only [Array.size_append, List.size_toArray] at ih
    omega
theorem reprText4 (x : Str) (hx : ∀ c ∈ x.cps.toList, c < 128) : (reprText x).length ≤ 4 * x.length + 2 := by
  unfold reprText
  show ((x.cps.foldl (fun out c => out ++ (reprChar (reprQuote x) c).toArray) #[reprQuote x]).push (reprQuote x)).size ≤ _
  rw [Array.size_push, ← Array.foldl_toList]
  have := foldl_repr4 (reprQuote x) x.cps.toList #[reprQuote x] hx
  have e : x.cps.toList.length = x.length := by simp [Str.length]
  rw [e] at this
  have e1 : (#[reprQuote x] : Array Nat).size = 1 := rfl
  omega
theorem join_len (ts : List Str) : (Str.join ", " ts).length ≤ piled ts := by
  induction ts with
  | nil => exact Nat.le_refl 0
  | cons x r ih =>
    cases r with
    | nil => rw [piled_cons]; show x.length ≤ _; omega
    | cons y r =>
      show (x ++ ", " ++ Str.join ", " (y :: r)).length ≤ _
      rw [strLen_append, strLen_append, piled_cons]
      have : (", " : Str).length = 2 := rfl
      omega
theorem tupleText_len (ts : List Str) : (tupleText ts).length ≤ piled ts + 3 := by
  unfold tupleText
  rw [strLen_append, strLen_append]
  have h := join_len ts
  have e : ("(" : Str).length = 1 := rfl
  split
  · have : (Str.ofString ",)").length = 2 := rfl
    show ("(" : Str).length + (Str.join ", " ts).length + (Str.ofString ",)").length ≤ _
    omega
  · have : (Str.ofString ")").length = 1 := rfl
    show ("(" : Str).length + (Str.join ", " ts).length + (Str.ofString ")").length ≤ _
    omega
theorem listText_len (ts : List Str) : (listText ts).length ≤ piled ts + 3 := by
  unfold listText
  rw [strLen_append]
  have e1 : ("]" : Str).length = 1 := rfl
  cases ts with
  | nil => show ("[" : Str).length + _ ≤ _; have : ("[" : Str).length = 1 := rfl; omega
  | cons t r =>
    have h := textFrom_length_pos r 1 (("[" : Str) ++ (if 0 > 0 then ", " else "" : String) ++ t) (by decide)
    have e : (("[" : Str) ++ (if 0 > 0 then ", " else "" : String) ++ t).length = 1 + 0 + t.length := by rw [strLen_append, strLen_append]; rfl
    show (textFrom 1 (("[" : Str) ++ (if 0 > 0 then ", " else "" : String) ++ t) r).length + _ ≤ _
    rw [h, e, piled_cons]
    omega
/-- data, nested at most k deep, shown with at most B signs -/
def Sz (k B : Nat) (d : D) : Prop := ∃ x, pyD d = some x ∧ x.showable = true ∧ x.depth ≤ k ∧ x.shown.length ≤ B
def SzL (k S : Nat) (ds : List D) : Prop := ∃ xs, pyDs ds = some xs ∧ PyData.showableAll xs = true ∧ PyData.depthAll xs ≤ k ∧ piled (PyData.shownAll xs) ≤ S
theorem Sz.mono {k k' B B' : Nat} {d : D} (h : Sz k B d) (hk : k ≤ k') (hB : B ≤ B') : Sz k' B' d := by
  obtain ⟨x, e, a, b, c⟩ := h
  exact ⟨x, e, a, by omega, by omega⟩
theorem SzL.mono {k k' B B' : Nat} {d : List D} (h : SzL k B d) (hk : k ≤ k') (hB : B ≤ B') : SzL k' B' d := by
  obtain ⟨x, e, a, b, c⟩ := h
  exact ⟨x, e, a, by omega, by omega⟩
theorem SzL.nil {k : Nat} : SzL k 0 [] := ⟨[], rfl, rfl, by simp [PyData.depthAll], by simp [PyData.shownAll, piled]⟩
theorem SzL.cons {k B S : Nat} {d : D} {ds : List D} (h : Sz k B d) (t : SzL k S ds) : SzL k (B + 2 + S) (d :: ds) := by
  obtain ⟨x, e, a, b, c⟩ := h
  obtain ⟨xs, e2, a2, b2, c2⟩ := t
  exact ⟨x :: xs, by simp [pyDs, e, e2], by simp [PyData.showableAll, a, a2], by simp only [PyData.depthAll]; omega, by simp only [PyData.shownAll, piled_cons]; omega⟩
theorem SzL.app {k S S' : Nat} {ds es : List D} (h : SzL k S ds) (t : SzL k S' es) : SzL k (S + S') (ds ++ es) := by
  induction ds generalizing S with
  | nil => exact t.mono (Nat.le_refl _) (by omega)
  | cons d r ih =>
    obtain ⟨xs, e, a, b, c⟩ := h
    simp only [pyDs] at e
    split at e
    · rename_i x xs' e1 e2
      cases e
      simp only [PyData.showableAll, Bool.and_eq_true] at a
      simp only [PyData.depthAll] at b
      simp only [PyData.shownAll, piled_cons] at c
      have q := ih (S := piled (PyData.shownAll xs')) ⟨xs', e2, a.2, by omega, Nat.le_refl _⟩
      exact (SzL.cons (B := x.shown.length) ⟨x, e1, a.1, by omega, Nat.le_refl _⟩ q).mono (Nat.le_refl _) (by omega)
    · cases e
theorem SzL.one {k B : Nat} {d : D} (h : Sz k B d) : SzL k (B + 2) [d] := (SzL.cons h SzL.nil).mono (Nat.le_refl _) (by omega)
theorem SzL.all {k B : Nat} : ∀ {ds : List D}, (∀ d ∈ ds, Sz k B d) → SzL k (ds.length * (B + 2)) ds
  | [], _ => SzL.nil.mono (Nat.le_refl _) (by omega)
  | d :: r, h => (SzL.cons (h d List.mem_cons_self) (SzL.all fun x hx => h x (List.mem_cons_of_mem _ hx))).mono (Nat.le_refl _) (by rw [List.length_cons, Nat.succ_mul]; omega)
theorem SzL.tup {k S : Nat} {ds : List D} (h : SzL k S ds) : Sz (k + 1) (S + 3) (.tup ds) := by
  obtain ⟨xs, e, a, b, c⟩ := h
  refine ⟨.tuple xs, by simp [pyD, e], by simp only [PyData.showable]; exact a, by simp only [PyData.depth]; omega, ?_⟩
  simp only [PyData.shown]
  have := tupleText_len (PyData.shownAll xs)
  omega
theorem SzL.lst {k S : Nat} {ds : List D} (h : SzL k S ds) : Sz (k + 1) (S + 3) (.lst ds) := by
  obtain ⟨xs, e, a, b, c⟩ := h
  refine ⟨.list xs, by simp [pyD, e], by simp only [PyData.showable]; exact a, by simp only [PyData.depth]; omega, ?_⟩
  simp only [PyData.shown]
  have := listText_len (PyData.shownAll xs)
  omega
theorem num_len {i : Int} (h0 : -9999999 ≤ i) (h1 : i ≤ 9999999) : (Str.ofString (toString i)).length ≤ 8 := by
  have nat : ∀ n : Nat, n ≤ 9999999 → (TL.tl (Str.ofString (toString ((n : Nat) : Int)))).length ≤ 7 := fun n hn => by
    rw [TL.tl_num]
    exact TL.numL_len (by decide) (by omega)
  by_cases hn : i < 0
  · have e : TL.tl (Str.ofString (toString i)) = 45 :: TL.tl (Str.ofString (toString ((i.natAbs : Nat) : Int))) := by
      rw [PyProof.Rows.toString_neg hn, TL.tl_ofString, TL.tl_ofString, show (0 : Int) - i = ((i.natAbs : Nat) : Int) by omega, String.toList_append, List.map_append]
      rfl
    have z := nat i.natAbs (by omega)
    rw [TL.len_tl, e, List.length_cons]; omega
  · have e : i = ((i.natAbs : Nat) : Int) := by omega
    have z := nat i.natAbs (by omega)
    rw [← e] at z
    rw [TL.len_tl]; omega
theorem sz_int {i : Int} (h0 : -9999999 ≤ i) (h1 : i ≤ 9999999) : Sz 0 8 (.int i) := by
  refine ⟨.int i, rfl, ?_, by simp [PyData.depth], by simp only [PyData.shown]; exact num_len h0 h1⟩
  simp only [PyData.showable, decide_eq_true_eq]
  refine Nat.lt_of_le_of_lt (m := 24) ?_ (by decide)
  by_cases z : i.natAbs = 0
  · rw [z]; decide
  · exact Nat.le_of_lt_succ ((Nat.log2_lt z).mpr (by omega))
theorem sz_non : Sz 0 8 .non := ⟨.none, rfl, rfl, by simp [PyData.depth], by simp only [PyData.shown]; decide⟩
theorem sz_bl {b : Bool} : Sz 0 8 (.bl b) := ⟨.bool b, rfl, rfl, by simp [PyData.depth], by simp only [PyData.shown]; cases b <;> decide⟩
theorem sz_str {x : Str} (h : ∀ c ∈ x.cps.toList, c < 128) : Sz 0 (4 * x.length + 2) (.str x) := ⟨.str x, rfl, rfl, by simp [PyData.depth], by simp only [PyData.shown]; exact reprText4 x h⟩
def Wt : Nat → Nat
  | 0 => 402
  | k + 1 => 16 * (Wt k + 2) + 3
theorem Wt_ge : ∀ k, 402 ≤ Wt k
  | 0 => Nat.le_refl _
  | k + 1 => by have := Wt_ge k; simp only [Wt]; omega
theorem sc_sz {d : D} (h : Sc d) : Sz 0 402 d := by
  rcases h with ⟨b, rfl⟩ | ⟨i, rfl, h0, h1⟩ | ⟨x, rfl, l, k⟩
  · exact sz_bl.mono (Nat.le_refl _) (by omega)
  · exact (sz_int (by omega) (by omega)).mono (Nat.le_refl _) (by omega)
  · exact (sz_str k).mono (Nat.le_refl _) (by omega)
theorem vd_sz {d : D} : ∀ {k : Nat}, Vd k d → Sz k (Wt k) d
  | 0, h => sc_sz h
  | k + 1, h => by
    rcases h with h | ⟨xs, rfl, l, h⟩
    · exact (sc_sz h).mono (by omega) (Wt_ge _)
    · refine ((SzL.all fun x hx => vd_sz (h x hx)).tup).mono (Nat.le_refl _) ?_
      simp only [Wt]
      have := Nat.mul_le_mul_right (Wt k + 2) l
      omega
theorem show_of {s : Sto} {k B : Nat} {d : D} (h : Sz k B d) (hk : k ≤ 60) (hB : B ≤ sizeLine) : ∃ x, cbShow s [d] = some (.str x) ∧ (∀ y : Str, y = x → True) := by
  obtain ⟨x, e, a, b, c⟩ := h
  refine ⟨x.shown, ?_, fun _ _ => trivial⟩
  simp only [cbShow, shD, e]
  rw [if_pos ⟨a, by omega, by omega⟩]
end K01
end
section
set_option maxRecDepth 100000
set_option maxHeartbeats 1000000
namespace K01
open PySem L2 Mi
local macro_rules | `(tactic| walk_at "ev") => `(tactic| simp only [Wp_ok, Wp_bind, Wp_quiet, WpS_fl, WpS_then, Nx_nx, Nx_rt, Nx_bk, Nx_ct, mVar_ap, mC_ap, mOp_ap, mUn_ap, mB_ap, mTru_ap, mAnd_ap, mOr_ap, mNot_ap,
  bAnd_ap, bOr_ap, bNot_ap, bYes_ap, mIf_ap, mNil_ap, mCons_ap, mTup_ap, mLst_ap, mLstR_ap, mDic0_ap, mCall_ap, mCb_ap, mMb_ap, mStr_ap, mRevT_ap, mPart_ap, mNoPart_ap, mSl_ap, mChain_ap, itL_ap, itT_ap, itS_ap, itR1_ap,
  sNil_ap, sSeq_ap, sIf_ap, sRet_ap, sRetN_ap, sBrk_ap, sCnt_ap, sExp_ap, sAsg_ap, sPar_ap, sPar3_ap, tgN_ap, tgNil_ap, tgCons_ap, sSetIx_ap, sFor_ap, Wp_mLc,
  List.map_cons, List.map_nil, List.cons_append, List.nil_append, List.replicate_succ, List.replicate_zero, List.getElem?_cons_zero, List.getElem?_cons_succ, List.set_cons_zero, List.set_cons_succ, List.length_cons, List.length_nil,
  Option.some.injEq, Option.bind_some, exists_eq_left, exists_eq_left', true_and, and_true, D.bl.injEq, D.int.injEq, D.str.injEq, D.ref.injEq, D.tup.injEq, D.lst.injEq, List.cons.injEq, if_true, if_false, Bool.false_eq_true, reduceCtorEq, false_and, and_false, or_false, false_or, exists_false])
local macro_rules | `(tactic| walk_at "isi") => `(tactic| simp only [isi_NoneType_bool, isi_NoneType_int, isi_NoneType_str, isi_NoneType_tuple, isi_NoneType_list, isi_NoneType_dict, isi_bool_bool, isi_bool_int, isi_bool_str, isi_bool_tuple, isi_bool_list, isi_bool_dict,
  isi_int_bool, isi_int_int, isi_int_str, isi_int_tuple, isi_int_list, isi_int_dict, isi_str_bool, isi_str_int, isi_str_str, isi_str_tuple, isi_str_list, isi_str_dict, isi_tuple_bool, isi_tuple_int, isi_tuple_str, isi_tuple_tuple, isi_tuple_list, isi_tuple_dict,
  isi_list_bool, isi_list_int, isi_list_str, isi_list_tuple, isi_list_list, isi_list_dict, isi_dict_bool, isi_dict_int, isi_dict_str, isi_dict_tuple, isi_dict_list, isi_dict_dict, tru_bl, tru_non, Option.some.injEq, exists_eq_left', exists_eq_left, if_true, if_false, Bool.false_eq_true, Bool.not_true, Bool.not_false, true_and, false_and, or_false, false_or, reduceCtorEq, D.bl.injEq])

theorem num_str {i : Int} (h0 : -1000000 ≤ i) (h1 : i ≤ 1000000) : strK (toString i) := by
  have nat : ∀ n : Nat, n ≤ 1000000 → (TL.tl (Str.ofString (toString ((n : Nat) : Int)))).length ≤ 7 ∧ ∀ c ∈ TL.tl (Str.ofString (toString ((n : Nat) : Int))), c < 0x110000 := fun n hn => by
    rw [TL.tl_num]
    exact ⟨TL.numL_len (by decide) (by omega), fun c hc => by have := TL.numL_digits n c hc; omega⟩
  by_cases hn : i < 0
  · have e : TL.tl (Str.ofString (toString i)) = 45 :: TL.tl (Str.ofString (toString ((i.natAbs : Nat) : Int))) := by
      rw [PyProof.Rows.toString_neg hn, TL.tl_ofString, TL.tl_ofString, show (0 : Int) - i = ((i.natAbs : Nat) : Int) by omega, String.toList_append, List.map_append]
      rfl
    have z := nat i.natAbs (by omega)
    refine ⟨?_, fun c hc => ?_⟩
    · show (Str.ofString (toString i)).length ≤ 1000
      rw [TL.len_tl, e, List.length_cons]; omega
    · have hc : c ∈ TL.tl (Str.ofString (toString i)) := hc
      rw [e] at hc
      rcases List.mem_cons.mp hc with rfl | hc
      · decide
      · exact z.2 c hc
  · have e : i = ((i.natAbs : Nat) : Int) := by omega
    have z := nat i.natAbs (by omega)
    rw [← e] at z
    refine ⟨?_, z.2⟩
    show (Str.ofString (toString i)).length ≤ 1000
    rw [TL.len_tl]; omega
theorem num_asc {i : Int} : ∀ c ∈ (Str.ofString (toString i)).cps.toList, c < 128 := by
  have nat : ∀ n : Nat, ∀ c ∈ TL.tl (Str.ofString (toString ((n : Nat) : Int))), c < 128 := fun n => by
    rw [TL.tl_num]
    exact fun c hc => by have := TL.numL_digits n c hc; omega
  intro c hc
  have hc : c ∈ TL.tl (Str.ofString (toString i)) := hc
  by_cases hn : i < 0
  · have e : TL.tl (Str.ofString (toString i)) = 45 :: TL.tl (Str.ofString (toString ((i.natAbs : Nat) : Int))) := by
      rw [PyProof.Rows.toString_neg hn, TL.tl_ofString, TL.tl_ofString, show (0 : Int) - i = ((i.natAbs : Nat) : Int) by omega, String.toList_append, List.map_append]
      rfl
    rw [e] at hc
    rcases List.mem_cons.mp hc with rfl | hc
    · decide
    · exact nat _ c hc
  · have e : i = ((i.natAbs : Nat) : Int) := by omega
    rw [e] at hc
    exact nat _ c hc
theorem cutD_mem {xs : List D} {lo hi : Option Int} {x : D} (h : x ∈ cutD xs lo hi) : x ∈ xs := List.mem_of_mem_drop (List.mem_of_mem_take h)
theorem cutD_len (xs : List D) (lo hi : Option Int) : (cutD xs lo hi).length ≤ xs.length := by
  unfold cutD
  rw [List.length_take, List.length_drop]
  omega
theorem cutS_mem {x : Str} {lo hi : Option Int} {c : Nat} (h : c ∈ (cutS x lo hi).cps.toList) : c ∈ x.cps.toList := by
  unfold cutS at h
  have h : c ∈ (x.cps.toList.drop (HT.sIx x.length 0 lo)).take (HT.sIx x.length x.length hi - HT.sIx x.length 0 lo) := by simpa using h
  exact List.mem_of_mem_drop (List.mem_of_mem_take h)
theorem repS_mem {x : Str} {n c : Nat} (h : c ∈ (repS x n).cps.toList) : c ∈ x.cps.toList := by
  have key : ∀ (n : Nat) (a : Array Nat), c ∈ ((List.replicate n x.cps).foldl (· ++ ·) a).toList → c ∈ a.toList ∨ c ∈ x.cps.toList := by
    intro n
    induction n with
    | zero => intro a h; exact .inl h
    | succ n ih =>
      intro a h
      rw [List.replicate_succ, List.foldl_cons] at h
      rcases ih _ h with h | h
      · rw [Array.toList_append, List.mem_append] at h
        exact h
      · exact .inr h
  rcases key n #[] h with h | h
  · simp at h
  · exact h
theorem sc_flat {d : D} (h : Sc d) : Flat d := by
  rcases h with ⟨b, rfl⟩ | ⟨i, rfl, _⟩ | ⟨x, rfl, l, k⟩
  · exact .inr (.inl ⟨b, rfl⟩)
  · exact .inr (.inr (.inl ⟨i, rfl⟩))
  · exact .inr (.inr (.inr (.inl ⟨x, rfl, by omega, fun c hc => Nat.lt_trans (k c hc) (by decide)⟩)))
theorem vd_th {d : D} : ∀ {k : Nat}, Vd k d → Th k d
  | 0, h => sc_flat h
  | k + 1, h => by
    rcases h with h | ⟨xs, e, l, h⟩
    · exact .inl (sc_flat h)
    · exact .inr ⟨xs, e, by omega, fun x hx => vd_th (h x hx)⟩
theorem Th.up {d : D} : ∀ {k j : Nat}, Th k d → k ≤ j → Th j d
  | 0, _, h, _ => Th.fl h _
  | k + 1, 0, h, i => absurd i (by omega)
  | k + 1, j + 1, h, i => by
    rcases h with h | ⟨xs, e, l, h⟩
    · exact .inl h
    · exact .inr ⟨xs, e, l, fun x hx => Th.up (h x hx) (by omega)⟩
theorem fl_str {x : Str} (h : strK x) : Flat (.str x) := .inr (.inr (.inr (.inl ⟨x, rfl, h⟩)))
theorem fl_int {i : Int} : Flat (.int i) := .inr (.inr (.inl ⟨i, rfl⟩))
theorem fl_bl {i : Bool} : Flat (.bl i) := .inr (.inl ⟨i, rfl⟩)
theorem fl_lst {xs : List D} : Flat (.lst xs) := .inr (.inr (.inr (.inr (.inl ⟨xs, rfl⟩))))
theorem fl_dic {xs} : Flat (.dic xs) := .inr (.inr (.inr (.inr (.inr ⟨xs, rfl⟩))))
theorem strK_lit {x : Str} (h : (decide (x.length ≤ 80) && x.cps.toList.all fun c => decide (c < 128)) = true) : strK x := by
  have z := ok_const h
  exact ⟨by omega, fun c hc => Nat.lt_trans (z.2 c hc) (by decide)⟩
theorem join_two {s : Sto} {P : D → Prop} {base others : List D} (hb : ∀ x ∈ cutD base none (some 6), P x) (ho : ∀ x ∈ others, P x) (l1 : base.length ≤ 18) (l2 : others.length ≤ 8) (l3 : others ≠ []) :
    ∃ z, slD s (.lst base) none (some 6) = some z ∧ ∃ z2, opMul s (.lst others) (.int 2) = some z2 ∧ ∃ z3, opAdd s z z2 = some z3 ∧ ∃ ys, z3 = .lst ys ∧ ys ≠ [] ∧ ys.length ≤ 100 ∧ ∀ y ∈ ys, P y := by
  have sl : sizeLine = 16777216 := sizeLine_eq
  have c := cutD_len base none (some 6)
  have hm : opMul s (.lst others) (.int 2) = some (.lst (others ++ (others ++ []))) := by
    show (if (0 : Int) ≤ 2 ∧ (2 : Int) ≤ 1000 ∧ others.length ≤ 1000 then some (D.lst (List.replicate (2 : Int).toNat others).flatten) else none) = _
    rw [if_pos ⟨by decide, by decide, by omega⟩]
    rfl
  refine ⟨_, rfl, _, hm, _, add_lst (by simp; omega), _, rfl, ?_, by simp; omega, fun y hy => ?_⟩
  · simp [l3]
  · simp only [List.mem_append, List.not_mem_nil, or_false] at hy
    rcases hy with hy | hy | hy
    · exact hb y hy
    · exact ho y hy
    · exact ho y hy
def base0 : List D := [.non, .bl true, .bl false, .int 0, .int 1, .int (-1), .int 1000001, .str "", .str "a", .str "#", .str "?a", .str "A", .str "a b", .tup [], .lst [], .dic [], .tup [.int 0], .tup [.tup []]]
/-- near a value of depth k -/
def Nr (k : Nat) (d : D) : Prop := Th (k + 2) d ∧ Sz (k + 2) (9 * Wt k + 100) d
theorem nr_flat {k B : Nat} {d : D} (h : Flat d) (z : Sz 0 B d) (hB : B ≤ 9 * Wt k + 100) : Nr k d := ⟨Th.fl h _, z.mono (by omega) hB⟩
theorem base6 : cutD base0 none (some 6) = [.non, .bl true, .bl false, .int 0, .int 1, .int (-1)] := rfl
theorem base0_ok {k : Nat} (x : D) (hx : x ∈ cutD base0 none (some 6)) : Nr k x := by
  rw [base6] at hx
  simp only [List.mem_cons, List.not_mem_nil, or_false] at hx
  rcases hx with h | h | h | h | h | h <;> subst h
  · exact nr_flat (.inl rfl) sz_non (by omega)
  · exact nr_flat fl_bl sz_bl (by omega)
  · exact nr_flat fl_bl sz_bl (by omega)
  · exact nr_flat fl_int (sz_int (by omega) (by omega)) (by omega)
  · exact nr_flat fl_int (sz_int (by omega) (by omega)) (by omega)
  · exact nr_flat fl_int (sz_int (by omega) (by omega)) (by omega)
theorem rep_tup {s : Sto} {xs : List D} (h : xs.length ≤ 16) : ∃ ys, opMul s (.tup xs) (.int 9) = some (.tup ys) ∧ ys.length ≤ 144 ∧ ∀ y ∈ ys, y ∈ xs := by
  by_cases c : xs = []
  · subst c
    exact ⟨[], rfl, by simp, by simp⟩
  · refine ⟨(List.replicate 9 xs).flatten, ?_, ?_, ?_⟩
    · show (if xs = [] ∧ (0 : Int) ≤ 9 ∧ (9 : Int) ≤ 1000 then some (D.tup []) else if xs ≠ [] ∧ (2 : Int) ≤ 9 ∧ (9 : Int) ≤ 1000 ∧ xs.length ≤ 1000 then some (.tup (List.replicate (9 : Int).toNat xs).flatten) else none) = _
      rw [if_neg (fun z => c z.1), if_pos ⟨c, by decide, by decide, by omega⟩]
      rfl
    · simp; omega
    · intro y hy
      simp at hy
      exact hy
theorem near_tail {s s' : Sto} {n T : Nat} {P : D → Prop} {part w : D} {ys : List D} (h : PotAt s n T) (hT : T + 1 ≤ 2 ^ 40) (h0 : ys ≠ []) (h1 : ys.length ≤ 100) (h2 : ∀ y ∈ ys, P y) :
    Wp (F__law_pick [.ref n, .lst ys] s) (Dr s n (T + 1) P) := (pick_lst h (by omega) h0 (by omega)).mono fun d s1 q => q.mono Upd.refl (by omega) (h2 d)
abbrev sI (i : Int) : Prop := -9999999 ≤ i ∧ i ≤ 9999999
theorem int_part {p : D} (h : (∃ b, p = .bl b) ∨ ∃ i, p = .int i ∧ -1000000 ≤ i ∧ i ≤ 1000000) (s : Sto) : ∃ i j x b l m, opAdd s p (.int 1) = some (.int i) ∧ unNeg s p = some (.int j) ∧ cbStr s [p] = some (.str x) ∧ strK x ∧ opEq s p (.int 1) = some (.bl b) ∧ cbInt s [p] = some (.int l) ∧ opSub s (.int 1000000) p = some (.int m) ∧ (sI i ∧ sI j ∧ sI l ∧ sI m) ∧ x.length ≤ 8 ∧ ∀ c ∈ x.cps.toList, c < 128 := by
  rcases h with ⟨b, rfl⟩ | ⟨i, rfl, h0, h1⟩
  · exact ⟨_, _, _, _, _, _, rfl, rfl, rfl, by cases b <;> exact strK_lit (by decide +kernel), rfl, rfl, rfl, by cases b <;> decide +kernel, by cases b <;> decide +kernel, by cases b <;> exact (ok_const (by decide +kernel)).2⟩
  · have hs := num_str h0 h1
    have sl : sizeLine = 16777216 := sizeLine_eq
    refine ⟨_, _, _, _, _, _, rfl, rfl, if_pos ⟨?_, by have := hs.1; omega⟩, hs, rfl, rfl, rfl, ⟨⟨by omega, by omega⟩, ⟨by omega, by omega⟩, ⟨by omega, by omega⟩, ⟨by omega, by omega⟩⟩, num_len (by omega) (by omega), num_asc⟩
    refine Nat.lt_of_le_of_lt (m := 20) ?_ (by decide)
    by_cases z : i.natAbs = 0
    · rw [z]; decide
    · exact Nat.le_of_lt_succ ((Nat.log2_lt z).mpr (by omega))
theorem near_ok {s : Sto} {n T k : Nat} {part : D} (h : PotAt s n T) (hT : T + 1 ≤ 2 ^ 40) (hp : Vd k part) : Wp (F__law_near [.ref n, part] s) (Dr s n (T + 1) (Nr k)) := by
  have sl : sizeLine = 16777216 := sizeLine_eq
  rw [F__law_near, mFun_ap (n := 2) rfl, b__law_near]
  simp only [List.map_cons, List.map_nil, List.cons_append, List.nil_append, List.replicate_succ, List.replicate_zero]
  refine seqK (fun e s' => e = [some (.ref n), some part, some (.lst base0), none] ∧ s = s') ?_ ?_
  · walk_at "ev"
    refine ⟨_, rfl, _, pow6, _, rfl, by decide, by decide, by decide, by decide, by decide, by decide, ?_⟩
    first | exact ⟨by decide, rfl⟩ | exact ⟨by decide, rfl, rfl⟩ | rfl
  rintro _ _ ⟨rfl, rfl⟩
  have hb : ∀ x ∈ cutD base0 none (some 6), Nr k x := base0_ok
  have w0 := Wt_ge k
  refine seqK (fun e s' => s = s' ∧ ∃ ys w, e = [some (.ref n), some part, some (.lst ys), w] ∧ ys ≠ [] ∧ ys.length ≤ 100 ∧ ∀ y ∈ ys, Nr k y) ?_ ?_
  · have cases3 : (∃ xs, part = .tup xs ∧ xs.length ≤ 16 ∧ (∀ x ∈ xs, Th k x) ∧ ∃ B, (∀ x ∈ xs, Sz (k - 1) B x) ∧ Wt k = 16 * (B + 2) + 3 ∧ 1 ≤ k) ∨ (∃ x, part = .str x ∧ Ok x) ∨ ((∃ b, part = .bl b) ∨ ∃ i, part = .int i ∧ -1000000 ≤ i ∧ i ≤ 1000000) := by
      have sc : Sc part → (∃ x, part = .str x ∧ Ok x) ∨ ((∃ b, part = .bl b) ∨ ∃ i, part = .int i ∧ -1000000 ≤ i ∧ i ≤ 1000000) := fun h => by
        rcases h with h | h | h
        · exact .inr (.inl h)
        · exact .inr (.inr h)
        · exact .inl h
      cases k with
      | zero => exact .inr (sc hp)
      | succ k =>
        rcases hp with hp | ⟨xs, e, l, hx⟩
        · exact .inr (sc hp)
        · exact .inl ⟨xs, e, l, fun x hx' => (vd_th (hx x hx')).up (by omega), Wt k, fun x hx' => vd_sz (hx x hx'), rfl, by omega⟩
    rcases cases3 with ⟨xs, rfl, l, hx, B, hz, eW, k1⟩ | ⟨x, rfl, hx⟩ | hI
    · walk_at "ev"; walk_at "isi"
      obtain ⟨ms, em, lm, hm⟩ := rep_tup (s := s) l
      have c1 := cutD_len xs none (some (-1))
      have c2 := cutD_len xs (some (-1)) none
      have tp : ∀ {ys : List D}, ys.length ≤ 144 → (∀ y ∈ ys, y ∈ xs) → Nr k (.tup ys) := fun {ys} l h => ⟨.inr ⟨_, rfl, by omega, fun y hy => (hx y (h y hy)).up (by omega)⟩,
        (SzL.all fun y hy => hz y (h y hy)).tup.mono (by omega) (by have := Nat.mul_le_mul_right (B + 2) l; omega)⟩
      have t0 : Nr k (.lst xs) := ⟨Th.fl fl_lst _, (SzL.all hz).lst.mono (by omega) (by have := Nat.mul_le_mul_right (B + 2) l; omega)⟩
      have t1 : Nr k (.tup (cutD xs none (some (-1)))) := tp (by omega) fun y hy => cutD_mem hy
      have t2 : Nr k (.tup (xs ++ cutD xs (some (-1)) none)) := tp (by rw [List.length_append]; omega) fun y hy => (List.mem_append.mp hy).elim id fun z => cutD_mem z
      have t3 : Nr k (.tup xs.reverse) := tp (by rw [List.length_reverse]; omega) fun y hy => List.mem_reverse.mp hy
      have t4 : Nr k (.tup [.tup xs]) := ⟨.inr ⟨_, rfl, by simp, fun y hy => by rw [List.mem_singleton.mp hy]; exact .inr ⟨xs, rfl, by omega, hx⟩⟩,
        (SzL.one (SzL.all hz).tup).tup.mono (by omega) (by have := Nat.mul_le_mul_right (B + 2) l; omega)⟩
      have t5 : Nr k (.tup ms) := tp lm hm
      have t6 : Nr k (.tup (xs ++ [.int 0])) := ⟨.inr ⟨_, rfl, by rw [List.length_append]; simp; omega, fun y hy => (List.mem_append.mp hy).elim (fun z => (hx y z).up (by omega)) fun z => by rw [List.mem_singleton.mp z]; exact Th.fl fl_int _⟩,
        ((SzL.all hz).app (SzL.one ((sz_int (by omega) (by omega)).mono (by omega) (Nat.le_refl 8)))).tup.mono (by omega) (by have := Nat.mul_le_mul_right (B + 2) l; omega)⟩
      obtain ⟨z8, e8, z9, e9, z10, e10, ys, ey, y0, y1, y2⟩ := join_two (s := s) (P := Nr k) (others := [.lst xs, .tup (cutD xs none (some (-1))), .tup (xs ++ cutD xs (some (-1)) none), .tup xs.reverse, .tup [.tup xs], .tup ms, .tup (xs ++ [.int 0])]) hb (by
        intro y hy
        simp only [List.mem_cons, List.not_mem_nil, or_false] at hy
        rcases hy with h | h | h | h | h | h | h <;> subst h
        · exact t0
        · exact t1
        · exact t2
        · exact t3
        · exact t4
        · exact t5
        · exact t6) (by decide) (by simp) (by simp)
      exact ⟨_, rfl, _, rfl, _, rfl, _, rfl, _, rfl, _, rfl, _, rfl, _, add_tup (by omega), by decide, _, em, by decide, _, add_tup (by simp; omega), by decide, _, e8, _, e9, _, e10, ys, _, ⟨ey, rfl⟩, y0, y1, y2⟩
    · walk_at "ev"; walk_at "isi"
      have hl := hx.1
      have hu := PyProof.Rows.len_upper x
      have c1 := cutS_le x none (some (-1))
      have sm : ∀ c ∈ x.cps.toList, c < 0x110000 := fun c hc => Nat.lt_trans (hx.2 c hc) (by decide)
      have ap : ∀ (a b : Str), (∀ c ∈ a.cps.toList, c < 128) → (∀ c ∈ b.cps.toList, c < 128) → a.length + b.length ≤ 101 → Nr k (.str (a ++ b)) := fun a b ha hb hl => by
        have asc : ∀ c ∈ (a ++ b).cps.toList, c < 128 := fun c hc => by
          have e : (a ++ b).cps.toList = a.cps.toList ++ b.cps.toList := TL.tl_append a b
          rw [e, List.mem_append] at hc
          exact hc.elim (ha c) (hb c)
        have le : (a ++ b).length ≤ 101 := by rw [str_len_app]; exact hl
        exact nr_flat (fl_str ⟨by omega, fun c hc => Nat.lt_trans (asc c hc) (by decide)⟩) (sz_str asc) (by omega)
      have asc := hx.2
      have sx : strK x := ⟨by omega, sm⟩
      have l1 := (ok_const (x := "a") (by decide +kernel)).2
      have l2 := (ok_const (x := "#") (by decide +kernel)).2
      have l3 := (ok_const (x := "?") (by decide +kernel)).2
      have l4 := (ok_const (x := " ") (by decide +kernel)).2
      have k1 : ("a" : Str).length = 1 := by decide
      have k2 : ("#" : Str).length = 1 := by decide
      have k3 : ("?" : Str).length = 1 := by decide
      have k4 : (" " : Str).length = 1 := by decide
      have t1 := ap x "a" asc l1 (by omega)
      have t2 : Nr k (.str (cutS x none (some (-1)))) := nr_flat (fl_str ⟨by omega, fun c hc => sm c (cutS_mem hc)⟩) (sz_str fun c hc => asc c (cutS_mem hc)) (by omega)
      have up : ∀ c ∈ (Txt.upper x).cps.toList, c < 128 := fun c hc => by
        rw [PyProof.Rows.upper_ascii hx.2] at hc
        simp only [Array.toList_map, List.mem_map] at hc
        obtain ⟨b, hb, rfl⟩ := hc
        have := asc b hb
        unfold PyProof.Rows.up1
        split <;> omega
      have t3 : Nr k (.str (Txt.upper x)) := nr_flat (fl_str ⟨by omega, fun c hc => Nat.lt_trans (up c hc) (by decide)⟩) (sz_str up) (by omega)
      have t4 := ap "#" x l2 asc (by omega)
      have t5 := ap "?" x l3 asc (by omega)
      have t6 : Nr k (.str (repS x 9)) := nr_flat (fl_str ⟨by rw [repS_len]; omega, fun c hc => sm c (repS_mem hc)⟩) (sz_str fun c hc => asc c (repS_mem hc)) (by rw [repS_len]; omega)
      have t7 := ap x " " asc l4 (by omega)
      have t8 : Nr k (.tup [.str x]) := ⟨.inr ⟨_, rfl, by simp, fun y hy => by rw [List.mem_singleton.mp hy]; exact Th.fl (fl_str sx) _⟩, (SzL.one (sz_str asc)).tup.mono (by omega) (by omega)⟩
      obtain ⟨z8, e8, z9, e9, z10, e10, ys, ey, y0, y1, y2⟩ := join_two (s := s) (P := Nr k) (others := [.str (x ++ "a"), .str (cutS x none (some (-1))), .str (Txt.upper x), .str ("#" ++ x), .str ("?" ++ x), .str (repS x 9), .str (x ++ " "), .tup [.str x]]) hb (by
        intro y hy
        simp only [List.mem_cons, List.not_mem_nil, or_false] at hy
        rcases hy with h | h | h | h | h | h | h | h <;> subst h
        · exact t1
        · exact t2
        · exact t3
        · exact t4
        · exact t5
        · exact t6
        · exact t7
        · exact t8) (by decide) (by simp) (by simp)
      exact ⟨_, add_str (by omega), _, rfl, _, rfl, _, rfl, _, if_pos ⟨by omega, by omega⟩, _, add_str (by omega), _, add_str (by omega), _, if_pos ⟨by decide, by decide, by omega⟩, _, add_str (by omega), by decide, by decide, _, e8, _, e9, _, e10, ys, _, ⟨ey, rfl⟩, y0, y1, y2⟩
    · obtain ⟨i, j, x, b, l, m, e1, e2, e3, sx, e4, e5, e6, ⟨i1, i2, i3, i4⟩, lx, ax⟩ := int_part hI s
      obtain ⟨z8, e8, z9, e9, z10, e10, ys, ey, y0, y1, y2⟩ := join_two (s := s) (P := Nr k) (others := [.int i, .int j, .str x, .bl b, .int l, .int m, .tup [part]]) hb (by
        intro y hy
        simp only [List.mem_cons, List.not_mem_nil, or_false] at hy
        rcases hy with h | h | h | h | h | h | h <;> subst h
        · exact nr_flat fl_int (sz_int i1.1 i1.2) (by omega)
        · exact nr_flat fl_int (sz_int i2.1 i2.2) (by omega)
        · exact nr_flat (fl_str sx) (sz_str ax) (by omega)
        · exact nr_flat fl_bl sz_bl (by omega)
        · exact nr_flat fl_int (sz_int i3.1 i3.2) (by omega)
        · exact nr_flat fl_int (sz_int i4.1 i4.2) (by omega)
        · exact ⟨.inr ⟨_, rfl, by simp, fun y hy => by rw [List.mem_singleton.mp hy]; exact (vd_th hp).up (by omega)⟩, (SzL.one (vd_sz hp)).tup.mono (by omega) (by omega)⟩) (by decide) (by simp) (by simp)
      have fin : ∃ z, opAdd s part (.int 1) = some z ∧ ∃ z2, unNeg s part = some z2 ∧ ∃ z3, cbStr s [part] = some z3 ∧ ∃ z4, opEq s part (.int 1) = some z4 ∧ ∃ z5, cbInt s [part] = some z5 ∧ ∃ z6, opPow s (.int 10) (.int 6) = some z6 ∧ ∃ z7, opSub s z6 part = some z7 ∧ 0 + 1 ≤ sizeLine ∧ 0 + 1 + 1 + 1 + 1 + 1 + 1 + 1 ≤ sizeLine ∧
          ∃ z8, slD s (.lst base0) none (some 6) = some z8 ∧ ∃ z9, opMul s (.lst [z, z2, z3, z4, z5, z7, .tup [part]]) (.int 2) = some z9 ∧ ∃ z10, opAdd s z8 z9 = some z10 ∧ ∃ ys w, (z10 = .lst ys ∧ some (D.lst [z, z2, z3, z4, z5, z7, .tup [part]]) = w) ∧ ys ≠ [] ∧ ys.length ≤ 100 ∧ ∀ y ∈ ys, Nr k y :=
        ⟨_, e1, _, e2, _, e3, _, e4, _, e5, _, pow6, _, e6, by decide, by decide, _, e8, _, e9, _, e10, ys, _, ⟨ey, rfl⟩, y0, y1, y2⟩
      rcases hI with ⟨b, rfl⟩ | ⟨i, rfl, h0, h1⟩
      · walk_at "ev"; walk_at "isi"
        exact fin
      · walk_at "ev"; walk_at "isi"
        exact fin
  rintro _ _ ⟨rfl, ys, w, rfl, h0, h1, h2⟩
  walk_at "ev"
  exact near_tail (w := .non) (part := .non) (s' := s) h hT h0 h1 h2
end K01
end
section
set_option maxRecDepth 100000
set_option maxHeartbeats 1000000
namespace K01
open PySem L2 Mi
local macro_rules | `(tactic| walk_at "ev") => `(tactic| simp only [Wp_ok, Wp_bind, Wp_quiet, WpS_fl, WpS_then, Nx_nx, Nx_rt, Nx_bk, Nx_ct, mVar_ap, mC_ap, mOp_ap, mUn_ap, mB_ap, mTru_ap, mAnd_ap, mOr_ap, mNot_ap,
  bAnd_ap, bOr_ap, bNot_ap, bYes_ap, mIf_ap, mNil_ap, mCons_ap, mTup_ap, mLst_ap, mLstR_ap, mDic0_ap, mCall_ap, mCb_ap, mMb_ap, mStr_ap, mRevT_ap, mPart_ap, mNoPart_ap, mSl_ap, mChain_ap, itL_ap, itT_ap, itS_ap, itR1_ap,
  sNil_ap, sSeq_ap, sIf_ap, sRet_ap, sRetN_ap, sBrk_ap, sCnt_ap, sExp_ap, sAsg_ap, sPar_ap, sPar3_ap, tgN_ap, tgNil_ap, tgCons_ap, sSetIx_ap, sFor_ap, Wp_mLc,
  List.map_cons, List.map_nil, List.cons_append, List.nil_append, List.replicate_succ, List.replicate_zero, List.getElem?_cons_zero, List.getElem?_cons_succ, List.set_cons_zero, List.set_cons_succ, List.length_cons, List.length_nil,
  Option.some.injEq, Option.bind_some, exists_eq_left, exists_eq_left', true_and, and_true, D.bl.injEq, D.int.injEq, D.str.injEq, D.ref.injEq, D.tup.injEq, D.lst.injEq, List.cons.injEq, if_true, if_false, Bool.false_eq_true, reduceCtorEq, false_and, and_false, or_false, false_or, exists_false])
local macro_rules | `(tactic| walk_at "isi") => `(tactic| simp only [isi_NoneType_bool, isi_NoneType_int, isi_NoneType_str, isi_NoneType_tuple, isi_NoneType_list, isi_NoneType_dict, isi_bool_bool, isi_bool_int, isi_bool_str, isi_bool_tuple, isi_bool_list, isi_bool_dict,
  isi_int_bool, isi_int_int, isi_int_str, isi_int_tuple, isi_int_list, isi_int_dict, isi_str_bool, isi_str_int, isi_str_str, isi_str_tuple, isi_str_list, isi_str_dict, isi_tuple_bool, isi_tuple_int, isi_tuple_str, isi_tuple_tuple, isi_tuple_list, isi_tuple_dict,
  isi_list_bool, isi_list_int, isi_list_str, isi_list_tuple, isi_list_list, isi_list_dict, isi_dict_bool, isi_dict_int, isi_dict_str, isi_dict_tuple, isi_dict_list, isi_dict_dict, tru_bl, tru_non, Option.some.injEq, exists_eq_left', exists_eq_left, if_true, if_false, Bool.false_eq_true, Bool.not_true, Bool.not_false, true_and, false_and, or_false, false_or, reduceCtorEq, D.bl.injEq])

theorem vd_py : ∀ {k : Nat} {d : D}, Vd k d → ∃ x, pyD d = some x ∧ PyData.canLay0 x = true ∧ PyData.depth x ≤ k := by
  have sc : ∀ {d : D}, Sc d → ∃ x, pyD d = some x ∧ PyData.canLay0 x = true ∧ PyData.depth x = 0 := fun h => by
    rcases h with ⟨b, rfl⟩ | ⟨i, rfl, _⟩ | ⟨x, rfl, l, k⟩
    · exact ⟨_, rfl, rfl, by simp [PyData.depth]⟩
    · exact ⟨_, rfl, rfl, by simp [PyData.depth]⟩
    · exact ⟨_, rfl, by simp only [PyData.canLay0]; exact strOk_of fun c hc => Nat.lt_trans (k c hc) (by decide), by simp [PyData.depth]⟩
  intro k
  induction k with
  | zero =>
    intro d h
    obtain ⟨x, e, c, p⟩ := sc h
    exact ⟨x, e, c, by omega⟩
  | succ k ih =>
    intro d h
    rcases h with h | ⟨xs, rfl, l, h⟩
    · obtain ⟨x, e, c, p⟩ := sc h
      exact ⟨x, e, c, by omega⟩
    · have all : ∀ xs : List D, (∀ x ∈ xs, Vd k x) → ∃ ds, pyDs xs = some ds ∧ PyData.canLayAll0 ds = true ∧ PyData.depthAll ds ≤ k := by
        intro xs
        induction xs with
        | nil => intro _; exact ⟨[], rfl, rfl, by simp [PyData.depthAll]⟩
        | cons x r ihr =>
          intro h
          obtain ⟨ds, e, c, p⟩ := ihr fun y hy => h y (List.mem_cons_of_mem _ hy)
          obtain ⟨z, e2, c2, p2⟩ := ih (h x List.mem_cons_self)
          exact ⟨z :: ds, by simp [pyDs, e, e2], by simp [PyData.canLayAll0, c, c2], by simp only [PyData.depthAll]; omega⟩
      obtain ⟨ds, e, c, p⟩ := all xs h
      exact ⟨.tuple ds, by simp [pyD, e], by simp only [PyData.canLay0]; exact c, by simp only [PyData.depth]; omega⟩
theorem vd_asL {k : Nat} {d : D} {s : Sto} (h : Vd k d) : asL s d = none := by
  have sc : Sc d → asL s d = none := fun h => by
    rcases h with ⟨b, rfl⟩ | ⟨i, rfl, _⟩ | ⟨x, rfl, l, k⟩ <;> rfl
  cases k with
  | zero => exact sc h
  | succ k =>
    rcases h with h | ⟨xs, rfl, _⟩
    · exact sc h
    · rfl
def eqD (d e : D) : Bool := match pyD d, pyD e with
  | some x, some y => PyData.eqv x y
  | _, _ => false
theorem eqD_comm (d e : D) : eqD d e = eqD e d := by
  unfold eqD
  cases pyD d <;> cases pyD e <;> first | rfl | exact PySem.W.eqv_comm _ _
theorem eq_vd {s : Sto} {k : Nat} {d e : D} (hd : Vd k d) (he : Vd k e) (hk : k ≤ 64) : opEq s d e = some (.bl (eqD d e)) := by
  obtain ⟨x, ex, cx, px⟩ := vd_py hd
  obtain ⟨y, ey, cy, py⟩ := vd_py he
  have s1 : SeqAt.shaped x = true := by
    unfold SeqAt.shaped
    rw [Bool.and_eq_true]
    exact ⟨cx, decide_eq_true (by omega)⟩
  have s2 : SeqAt.shaped y = true := by
    unfold SeqAt.shaped
    rw [Bool.and_eq_true]
    exact ⟨cy, decide_eq_true (by omega)⟩
  simp only [opEq, pyA, vd_asL hd, vd_asL he, ex, ey, s1, s2, and_self, if_true, eqD]
def Bt (k : Nat) (d : D) : Prop := Th (k + 2) d ∧ Sz (k + 2) (10 * Wt k + 200) d
theorem Nr.bt {k : Nat} {d : D} (h : Nr k d) : Bt k d := ⟨h.1, h.2.mono (Nat.le_refl _) (by omega)⟩
def bentC (k : Nat) : Nat := 3 * (k + 1)
theorem bent_ok {n : Nat} : ∀ (k m j : Nat) {s : Sto} {T : Nat} {d : D}, k ≤ m → j ≤ 64 → PotAt s n T → T + bentC k ≤ 2 ^ 40 → Vd j d → Wp (F__law_bent (m + 1) [.ref n, d, .int (k : Int)] s) (Dr s n (T + bentC k) (Bt j))
  | k, m, j, s, T, d, hm, hj, h, hT, hd => by
    have sl : sizeLine = 16777216 := sizeLine_eq
    have hb : bentC k = 3 * (k + 1) := rfl
    have nearK : ∀ {s' : Sto} {T' : Nat}, Upd n s s' → PotAt s' n T' → T' + 1 ≤ T + bentC k → Wp (F__law_near [.ref n, d] s') (Dr s n (T + bentC k) (Bt j)) := fun u p hl =>
      (near_ok p (by omega) hd).mono fun v s1 q => q.mono u hl Nr.bt
    rw [F__law_bent, mFun_ap (n := 3) rfl, b__law_bent]
    simp only [List.map_cons, List.map_nil, List.cons_append, List.nil_append, List.replicate_succ, List.replicate_zero]
    refine seqK (fun e s' => e = [some (.ref n), some d, some (.int (k : Int)), none] ∧ PotAt s' n (T + 1) ∧ Upd n s s' ∧ ∃ xs, d = .tup xs ∧ xs ≠ [] ∧ ∃ k', k = k' + 1) ?_ ?_
    · walk_at "ev"
      refine ⟨_, rfl, _, rfl, ?_⟩
      by_cases k0 : k = 0
      · subst k0
        rw [if_pos (by rfl)]
        exact nearK Upd.refl h (by omega)
      have ne : PyData.eqv (.int ((k : Nat) : Int)) (.int 0) = false := by
        show ((k : Int) == 0) = false
        exact beq_eq_false_iff_ne.mpr (by omega)
      rw [ne, if_neg (by decide)]
      have isT : (∃ xs, d = .tup xs) ∨ isiD "tuple" s d = some (.bl false) := by
        have sc : Sc d → isiD "tuple" s d = some (.bl false) := fun h => by
          rcases h with ⟨b, rfl⟩ | ⟨i, rfl, _⟩ | ⟨x, rfl, l, k⟩ <;> simp
        cases j with
        | zero => exact .inr (sc hd)
        | succ j =>
          rcases hd with hd | ⟨xs, rfl, _⟩
          · exact .inr (sc hd)
          · exact .inl ⟨xs, rfl⟩
      rcases isT with ⟨xs, rfl⟩ | isT
      · walk_at "isi"
        have em : Vd j (.tup []) := by
          cases j with
          | zero => obtain ⟨_, h⟩ | ⟨_, h, _⟩ | ⟨_, h, _⟩ := hd <;> cases h
          | succ j => exact .inr ⟨[], rfl, by simp, by simp⟩
        refine ⟨by decide, _, eq_vd hd em hj, _, rfl, ?_⟩
        cases hq : eqD (.tup xs) (.tup []) with
        | true => rw [if_pos rfl]; exact nearK Upd.refl h (by omega)
        | false =>
          rw [if_neg (by decide)]
          have x0 : xs ≠ [] := fun z => by subst z; exact absurd hq (by decide)
          refine (take_ok h (by omega) (by omega) (by omega)).mono fun d1 s1 ⟨⟨r1, e1, r10, r11⟩, p1, u1⟩ => ?_
          subst e1
          refine ⟨_, rfl, _, rfl, ?_⟩
          split
          · exact nearK u1 p1 (by omega)
          · exact ⟨p1, u1, xs, rfl, x0, k - 1, by omega⟩
      · exact ⟨_, isT, _, rfl, by rw [if_pos (by rfl)]; exact nearK Upd.refl h (by omega)⟩
    rintro _ s1 ⟨rfl, p1, u1, xs, rfl, x0, k', rfl⟩
    obtain ⟨m, rfl⟩ : ∃ q, m = q + 1 := ⟨m - 1, by omega⟩
    have vs : ∃ j', j = j' + 1 ∧ xs.length ≤ 16 ∧ ∀ x ∈ xs, Vd j' x := by
      cases j with
      | zero => obtain ⟨_, h⟩ | ⟨_, h, _⟩ | ⟨_, h, _⟩ := hd <;> cases h
      | succ j =>
        rcases hd with (⟨_, h⟩ | ⟨_, h, _⟩ | ⟨_, h, _⟩) | ⟨ys, e, l, h⟩
        · cases h
        · cases h
        · cases h
        · cases e; exact ⟨j, rfl, l, h⟩
    obtain ⟨j', rfl, l16, hx⟩ := vs
    have l0 : 0 < xs.length := List.length_pos_iff.mpr x0
    walk_at "ev"
    refine ⟨_, rfl, (take_ok p1 (by omega) (by show (0 : Int) < (xs.length : Int); omega) (by show (xs.length : Int) < 1073741824; omega)).mono fun d2 s2 ⟨⟨r, e, h0, h1⟩, p2, u2⟩ => ?_⟩
    subst e
    obtain ⟨x, ex, hm2⟩ := at_lt h0 h1
    refine ⟨r, rfl, _, rfl, x, ex, _, rfl, ?_⟩
    have e1 : ((k' + 1 : Nat) : Int) - 1 = (k' : Int) := by omega
    rw [e1]
    have hb2 : bentC k' = 3 * (k' + 1) := rfl
    refine (bent_ok k' m j' (by omega) (by omega) p2 (by omega) (hx x hm2)).mono fun v s3 ⟨hv, p3, u3⟩ => ?_
    have c1 := cutD_len xs none (some r)
    have c2 := cutD_len xs (some (r + 1)) none
    refine ⟨by decide, _, add_tup (by simp; omega), _, rfl, _, rfl, _, rfl, _, add_tup (by simp; omega), ?_, p3.mono (by omega), (u1.trans u2).trans u3⟩
    refine ⟨.inr ⟨_, rfl, by simp; omega, fun y hy => ?_⟩, ?_⟩
    · simp only [List.mem_append, List.mem_cons, List.not_mem_nil, or_false] at hy
      rcases hy with (hy | rfl) | hy
      · exact (vd_th (hx y (cutD_mem hy))).up (by omega)
      · exact hv.1.up (by omega)
      · exact (vd_th (hx y (cutD_mem hy))).up (by omega)
    · have z1 : SzL (j' + 2) ((cutD xs none (some r)).length * (Wt j' + 2)) (cutD xs none (some r)) := (SzL.all fun y hy => (vd_sz (hx y (cutD_mem hy))).mono (k' := j' + 2) (by omega) (Nat.le_refl _))
      have z2 : SzL (j' + 2) ((cutD xs (some (r + 1)) none).length * (Wt j' + 2)) (cutD xs (some (r + 1)) none) := (SzL.all fun y hy => (vd_sz (hx y (cutD_mem hy))).mono (k' := j' + 2) (by omega) (Nat.le_refl _))
      have m1 := Nat.mul_le_mul_right (Wt j' + 2) (show (cutD xs none (some r)).length ≤ 16 by omega)
      have m2 := Nat.mul_le_mul_right (Wt j' + 2) (show (cutD xs (some (r + 1)) none).length ≤ 16 by omega)
      have w0 := Wt_ge j'
      refine ((z1.app (SzL.one hv.2)).app z2).tup.mono (by omega) ?_
      simp only [Wt]
      omega
end K01
end
section
set_option maxRecDepth 100000
set_option maxHeartbeats 1000000
namespace K01
open PySem L2 Mi
local macro_rules | `(tactic| walk_at "ev") => `(tactic| simp only [Wp_ok, Wp_bind, Wp_quiet, WpS_fl, WpS_then, Nx_nx, Nx_rt, Nx_bk, Nx_ct, mVar_ap, mC_ap, mOp_ap, mUn_ap, mB_ap, mTru_ap, mAnd_ap, mOr_ap, mNot_ap,
  bAnd_ap, bOr_ap, bNot_ap, bYes_ap, mIf_ap, mNil_ap, mCons_ap, mTup_ap, mLst_ap, mLstR_ap, mDic0_ap, mCall_ap, mCb_ap, mMb_ap, mStr_ap, mRevT_ap, mPart_ap, mNoPart_ap, mSl_ap, mChain_ap, itL_ap, itT_ap, itS_ap, itR1_ap,
  sNil_ap, sSeq_ap, sIf_ap, sRet_ap, sRetN_ap, sBrk_ap, sCnt_ap, sExp_ap, sAsg_ap, sPar_ap, sPar3_ap, tgN_ap, tgNil_ap, tgCons_ap, sSetIx_ap, sFor_ap, Wp_mLc,
  List.map_cons, List.map_nil, List.cons_append, List.nil_append, List.replicate_succ, List.replicate_zero, List.getElem?_cons_zero, List.getElem?_cons_succ, List.set_cons_zero, List.set_cons_succ, List.length_cons, List.length_nil,
  Option.some.injEq, Option.bind_some, exists_eq_left, exists_eq_left', true_and, and_true, D.bl.injEq, D.int.injEq, D.str.injEq, D.ref.injEq, D.tup.injEq, D.lst.injEq, List.cons.injEq, if_true, if_false, Bool.false_eq_true, reduceCtorEq, false_and, and_false, or_false, false_or, exists_false])
local macro_rules | `(tactic| walk_at "isi") => `(tactic| simp only [isi_NoneType_bool, isi_NoneType_int, isi_NoneType_str, isi_NoneType_tuple, isi_NoneType_list, isi_NoneType_dict, isi_bool_bool, isi_bool_int, isi_bool_str, isi_bool_tuple, isi_bool_list, isi_bool_dict,
  isi_int_bool, isi_int_int, isi_int_str, isi_int_tuple, isi_int_list, isi_int_dict, isi_str_bool, isi_str_int, isi_str_str, isi_str_tuple, isi_str_list, isi_str_dict, isi_tuple_bool, isi_tuple_int, isi_tuple_str, isi_tuple_tuple, isi_tuple_list, isi_tuple_dict,
  isi_list_bool, isi_list_int, isi_list_str, isi_list_tuple, isi_list_list, isi_list_dict, isi_dict_bool, isi_dict_int, isi_dict_str, isi_dict_tuple, isi_dict_list, isi_dict_dict, tru_bl, tru_non, Option.some.injEq, exists_eq_left', exists_eq_left, if_true, if_false, Bool.false_eq_true, Bool.not_true, Bool.not_false, true_and, false_and, or_false, false_or, reduceCtorEq, D.bl.injEq])

/-! ### which texts are values -/
def okS (x : Str) : Bool := match x.cps.toList with
  | [] => true
  | k :: r => if k ∈ ("#?" : Str).cps.toList then decide (r.length ≤ 80) && (decide (r ≠ []) && r.all fun c => decide (c ∈ (TEXT ++ ("./[]" : Str)).cps.toList))
    else decide (r.length + 1 ≤ 20) && (k :: r).all fun c => decide (c ∈ TEXT.cps.toList)
theorem all_map {t A : List Nat} : ((t.map fun c => decide (c ∈ A)).all id) = t.all fun c => decide (c ∈ A) := by
  induction t with
  | nil => rfl
  | cons c r ih => simp [ih]
theorem sort_strE {s : Sto} {x : Str} (h : strK x) : Wp (F__law_sort [.str x] s) fun v s' => s' = s ∧ ((v = .non ∧ okS x = false) ∨ ((∃ w, v = .str w) ∧ okS x = true)) := by
  rw [F__law_sort, mFun_ap (n := 1) rfl, b__law_sort]
  simp only [List.map_cons, List.map_nil, List.cons_append, List.nil_append, List.replicate_succ, List.replicate_zero]
  have e0 : ∀ c ∈ ("" : Str).cps.toList, c < 0x110000 := by intro c hc; simp [show ("" : Str).cps.toList = [] from rfl] at hc
  refine seqK (fun e s' => e = [some (.str x), none, none, none, none, none, none] ∧ s = s') ?_ ?_
  · walk_at "ev"; walk_at "isi"
  rintro _ _ ⟨rfl, rfl⟩
  refine seqK (fun e s' => e = [some (.str x), none, none, none, none, none, none] ∧ s = s') ?_ ?_
  · walk_at "ev"; walk_at "isi"
  rintro _ _ ⟨rfl, rfl⟩
  refine seqK (fun e s' => e = [some (.str x), none, none, none, none, none, none] ∧ s = s') ?_ ?_
  · walk_at "ev"; walk_at "isi"
  rintro _ _ ⟨rfl, rfl⟩
  refine seqK (fun e s' => e = [some (.str x), some (.str TEXT), some (.str "text"), some (.int 20), some (.str x), none, none] ∧ s = s') ?_ ?_
  · walk_at "ev"; exact ⟨by decide, _, rfl, rfl⟩
  rintro _ _ ⟨rfl, rfl⟩
  refine seqK (fun e s' => s = s' ∧ ∃ (sg wd tx : Str) (ms : Int), e = [some (.str x), some (.str sg), some (.str wd), some (.int ms), some (.str tx), none, none] ∧ (∀ c ∈ wd.cps.toList, c < 0x110000) ∧ strK tx ∧
    okS x = (decide ((tx.length : Int) ≤ ms) && ((wd == "text" || !(tx == "")) && tx.cps.toList.all fun c => decide (c ∈ sg.cps.toList)))) ?_ ?_
  · walk_at "ev"
    refine ⟨_, ne_str h.2 e0, _, rfl, ?_⟩
    have wt : (("text" : Str) == "text") = true := by decide
    by_cases hx : x = ""
    · have hb : (x == "") = true := beq_iff_eq.mpr hx
      rw [hb]
      simp only [Bool.not_true, Bool.false_eq_true, if_false]
      refine ⟨TEXT, "text", x, 20, ⟨rfl, rfl, rfl, rfl⟩, lit_ok (by decide +kernel), h, ?_⟩
      subst hx
      decide +kernel
    · have hb : (x == "") = false := beq_eq_false_iff_ne.mpr hx
      rw [hb]
      simp only [Bool.not_false, if_true]
      have hl : ∃ k r, x.cps.toList = k :: r := by
        cases e : x.cps.toList with
        | nil => exact absurd (TL.ext_tl (y := "") e) hx
        | cons k r => exact ⟨k, r, rfl⟩
      obtain ⟨k, r, hk⟩ := hl
      have lx : x.length = r.length + 1 := by rw [TL.len_tl, show TL.tl x = k :: r from hk]; rfl
      refine ⟨_, ix_str (i := 0) (by rw [hk]; rfl), _, in_sign, _, rfl, ?_⟩
      by_cases hm : k ∈ ("#?" : Str).cps.toList
      · rw [if_pos (decide_eq_true hm)]
        have one : ∀ c ∈ (⟨#[k]⟩ : Str).cps.toList, c < 0x110000 := by
          intro c hc
          have : c = k := by simpa using hc
          have := h.2 k (by rw [hk]; exact List.mem_cons_self)
          omega
        have lc : (cutS x (some 1) none).length = r.length := by rw [TL.len_tl, show TL.tl (cutS x (some 1) none) = r from cut1 hk]
        have em : (!(cutS x (some 1) none == "")) = decide (r ≠ []) := by
          by_cases hr : r = []
          · have : cutS x (some 1) none = "" := TL.ext_tl (y := "") (by show (cutS x (some 1) none).cps.toList = _; rw [cut1 hk, hr]; rfl)
            rw [this, hr]; rfl
          · have : cutS x (some 1) none ≠ "" := fun z => hr (by rw [← cut1 hk, z]; rfl)
            rw [beq_eq_false_iff_ne.mpr this, decide_eq_true hr]; rfl
        have asId : ∀ (y : Str), (∀ c ∈ y.cps.toList, c < 0x110000) → (y == "text") = false → ∃ z, slD s (D.str x) (some 1) none = some z ∧ ∃ d e f, (D.str y = d ∧ D.int 80 = e ∧ z = f) ∧ ∃ z, opAdd s (D.str TEXT) (D.str "./[]") = some z ∧
            ∃ (sg wd tx : Str) (ms : Int), (z = D.str sg ∧ d = D.str wd ∧ e = D.int ms ∧ f = D.str tx) ∧ (∀ c ∈ wd.cps.toList, c < 0x110000) ∧ strK tx ∧
              okS x = (decide ((tx.length : Int) ≤ ms) && ((wd == "text" || !(tx == "")) && tx.cps.toList.all fun c => decide (c ∈ sg.cps.toList))) := by
          intro y hy hyt
          refine ⟨_, rfl, _, _, _, ⟨rfl, rfl, rfl⟩, _, add_str (by decide), TEXT ++ "./[]", y, cutS x (some 1) none, 80, ⟨rfl, rfl, rfl, rfl⟩, hy, ⟨by have := h.1; omega, fun c hc => ?_⟩, ?_⟩
          · rw [cut1 hk] at hc
            exact h.2 c (by rw [hk]; exact List.mem_cons_of_mem _ hc)
          · rw [hyt, em, cut1 hk, lc]
            simp only [okS, hk, if_pos hm, Bool.false_or]
            congr 1
            rw [decide_eq_decide]
            omega
        refine ⟨_, ix_str (i := 0) (by rw [hk]; rfl), _, eq_str one (lit_ok (by decide +kernel)), _, rfl, ?_⟩
        split
        · exact asId "id" (lit_ok (by decide +kernel)) (by decide)
        · exact asId "unknown" (lit_ok (by decide +kernel)) (by decide)
      · rw [if_neg (by simpa using hm)]
        refine ⟨TEXT, "text", x, 20, ⟨rfl, rfl, rfl, rfl⟩, lit_ok (by decide +kernel), h, ?_⟩
        simp only [okS, hk, if_neg hm, wt, lx, Bool.true_or, Bool.true_and]
        congr 1
        rw [decide_eq_decide]
        omega
  rintro _ _ ⟨rfl, sg, wd, tx, ms, rfl, hw, ht, fin⟩
  refine seqK (fun e s' => s = s' ∧ ∃ b : Bool, e = [some (.str x), some (.str sg), some (.str wd), some (.int ms), some (.str tx), some (.bl b), none] ∧ b = (decide ((tx.length : Int) ≤ ms) && (wd == "text" || !(tx == "")))) ?_ ?_
  · walk_at "ev"
    refine ⟨_, rfl, _, rfl, ?_⟩
    by_cases hl : (tx.length : Int) ≤ ms
    · refine .inl ⟨by show some (decide ((tx.length : Int) ≤ ms)) = _; rw [decide_eq_true hl], _, eq_str hw (lit_ok (by decide +kernel)), ?_⟩
      rw [decide_eq_true hl]
      by_cases hwt : wd = "text"
      · exact .inr ⟨by rw [hwt]; rfl, true, by rw [hwt]; rfl, by rw [hwt]; rfl⟩
      · refine .inl ⟨by rw [beq_eq_false_iff_ne.mpr hwt]; rfl, _, ne_str ht.2 e0, _, rfl, by rw [beq_eq_false_iff_ne.mpr hwt]; rfl⟩
    · exact .inr ⟨by show some (decide ((tx.length : Int) ≤ ms)) = _; rw [decide_eq_false hl], false, by show D.bl (decide ((tx.length : Int) ≤ ms)) = _; rw [decide_eq_false hl], by rw [decide_eq_false hl]; rfl⟩
  rintro _ _ ⟨rfl, b, rfl, hb⟩
  walk_at "ev"
  refine ⟨b, rfl, ?_⟩
  cases b with
  | false =>
    rw [if_neg (by decide)]
    rw [fin, ← Bool.and_assoc, ← hb]; rfl
  | true =>
    rw [if_pos rfl]
    refine Wp.mono (lc_signs (by show 6 < 7; decide) (by decide) rfl ht.1) ?_
    intro out s2 ⟨e, eo⟩
    subst e
    refine ⟨_, all_bls eo, _, rfl, ?_⟩
    rw [all_map]
    have okx : okS x = tx.cps.toList.all fun c => decide (c ∈ sg.cps.toList) := by rw [fin, ← Bool.and_assoc, ← hb, Bool.true_and]
    cases ha : (tx.cps.toList.all fun c => decide (c ∈ sg.cps.toList)) with
    | true => rw [if_pos rfl]; exact ⟨rfl, ⟨_, rfl⟩, okx.trans ha⟩
    | false => rw [if_neg (by decide)]; exact ⟨rfl, okx.trans ha⟩
end K01
end
section
set_option maxRecDepth 100000
set_option maxHeartbeats 1000000
namespace K01
open PySem L2 Mi
local macro_rules | `(tactic| walk_at "ev") => `(tactic| simp only [Wp_ok, Wp_bind, Wp_quiet, WpS_fl, WpS_then, Nx_nx, Nx_rt, Nx_bk, Nx_ct, mVar_ap, mC_ap, mOp_ap, mUn_ap, mB_ap, mTru_ap, mAnd_ap, mOr_ap, mNot_ap,
  bAnd_ap, bOr_ap, bNot_ap, bYes_ap, mIf_ap, mNil_ap, mCons_ap, mTup_ap, mLst_ap, mLstR_ap, mDic0_ap, mCall_ap, mCb_ap, mMb_ap, mStr_ap, mRevT_ap, mPart_ap, mNoPart_ap, mSl_ap, mChain_ap, itL_ap, itT_ap, itS_ap, itR1_ap,
  sNil_ap, sSeq_ap, sIf_ap, sRet_ap, sRetN_ap, sBrk_ap, sCnt_ap, sExp_ap, sAsg_ap, sPar_ap, sPar3_ap, tgN_ap, tgNil_ap, tgCons_ap, sSetIx_ap, sFor_ap, Wp_mLc,
  List.map_cons, List.map_nil, List.cons_append, List.nil_append, List.replicate_succ, List.replicate_zero, List.getElem?_cons_zero, List.getElem?_cons_succ, List.set_cons_zero, List.set_cons_succ, List.length_cons, List.length_nil,
  Option.some.injEq, Option.bind_some, exists_eq_left, exists_eq_left', true_and, and_true, D.bl.injEq, D.int.injEq, D.str.injEq, D.ref.injEq, D.tup.injEq, D.lst.injEq, List.cons.injEq, if_true, if_false, Bool.false_eq_true, reduceCtorEq, false_and, and_false, or_false, false_or, exists_false])
local macro_rules | `(tactic| walk_at "isi") => `(tactic| simp only [isi_NoneType_bool, isi_NoneType_int, isi_NoneType_str, isi_NoneType_tuple, isi_NoneType_list, isi_NoneType_dict, isi_bool_bool, isi_bool_int, isi_bool_str, isi_bool_tuple, isi_bool_list, isi_bool_dict,
  isi_int_bool, isi_int_int, isi_int_str, isi_int_tuple, isi_int_list, isi_int_dict, isi_str_bool, isi_str_int, isi_str_str, isi_str_tuple, isi_str_list, isi_str_dict, isi_tuple_bool, isi_tuple_int, isi_tuple_str, isi_tuple_tuple, isi_tuple_list, isi_tuple_dict,
  isi_list_bool, isi_list_int, isi_list_str, isi_list_tuple, isi_list_list, isi_list_dict, isi_dict_bool, isi_dict_int, isi_dict_str, isi_dict_tuple, isi_dict_list, isi_dict_dict, tru_bl, tru_non, Option.some.injEq, exists_eq_left', exists_eq_left, if_true, if_false, Bool.false_eq_true, Bool.not_true, Bool.not_false, true_and, false_and, or_false, false_or, reduceCtorEq, D.bl.injEq])

/-! ### the program's own tests of scalars -/
theorem lc_signsC {env : Mi.Env} {s : Sto} {i : Nat} {t sg : Str} (hi : i < env.length) (hl : t.length ≤ 1000) :
    Wp (lcGo (fun _ => True) (tgN i) bYes (mOp opIn (mVar i) (mC (.str sg))) env (signs t) [] s) fun out s' => s' = s ∧ out = (t.cps.toList.map fun c => decide (c ∈ sg.cps.toList)).map .bl := by
  have ls : (signs t).length = t.length := by simp [signs, TL.len_tl]
  refine Wp.mono (lc_pair (Rr := fun d y => ∃ c, d = .str ⟨#[c]⟩ ∧ y = .bl (decide (c ∈ sg.cps.toList))) True.intro (signs t) [] ?h (by rw [ls]; simp; omega)) ?k
  case h =>
    intro d hd
    obtain ⟨c, hc, rfl⟩ := List.mem_map.mp hd
    refine ⟨_, rfl, ?_⟩
    walk_at "ev"
    exact ⟨_, List.getElem?_set_self hi, _, in_sign, c, rfl, rfl⟩
  case k =>
    intro out s' ⟨e, ys, e2, p⟩
    refine ⟨e, ?_⟩
    rw [e2, List.nil_append]
    clear e e2 ls hl
    unfold signs at p
    generalize t.cps.toList = l at p ⊢
    induction l generalizing ys with
    | nil => cases p; rfl
    | cons c r ih =>
      rw [List.map_cons] at p
      cases p with
      | cons h t =>
        obtain ⟨c', e1, e2⟩ := h
        rw [ih _ t, e2]
        have : c = c' := by
          have := congrArg (fun x : Str => x.cps.toList) (D.str.inj e1)
          simpa using this
        rw [this]; rfl
theorem isx {T : String} {s : Sto} {d : D} (h : clsD s d = none) : isiX "Record" T s d = isiD T s d := by simp only [isiX, h]
theorem text_ok {s : Sto} {x : Str} (h : strK x) : Wp (F_is_text [.str x] s) fun v s' => s' = s ∧ v = .bl (decide ((x.length : Int) ≤ 20) && x.cps.toList.all fun c => decide (c ∈ TEXT.cps.toList)) := by
  rw [F_is_text, mFun_ap (n := 1) rfl, b_is_text]
  walk_at "ev"
  rw [isx rfl]
  refine ⟨_, isi_str_str .., .inl ⟨rfl, _, rfl, _, rfl, ?_⟩⟩
  by_cases hl : (x.length : Int) ≤ 20
  · refine .inl ⟨by show some (decide ((x.length : Int) ≤ 20)) = _; rw [decide_eq_true hl], ?_⟩
    refine Wp.mono (lc_signsC (i := 1) (by show 1 < 2; decide) h.1) ?_
    intro out s1 ⟨e, eo⟩
    subst e
    refine ⟨_, all_bls eo, rfl, ?_⟩
    rw [all_map, decide_eq_true hl]; rfl
  · refine .inr ⟨by show some (decide ((x.length : Int) ≤ 20)) = _; rw [decide_eq_false hl], ?_⟩
    rw [decide_eq_false hl]
    first | rfl | exact ⟨rfl, rfl⟩ | (show D.bl (decide ((x.length : Int) ≤ 20)) = _; rw [decide_eq_false hl]; rfl)
def okM (x : Str) (m : Nat) : Bool := match x.cps.toList with
  | [] => false
  | k :: r => decide (k = m) && (decide (r.length ≤ 80) && (decide (r ≠ []) && r.all fun c => decide (c ∈ (TEXT ++ ("./[]" : Str)).cps.toList)))
theorem marked_ok {s : Sto} {x : Str} {m : Nat} (h : strK x) (hm : m < 128) : Wp (F_is_marked [.str x, .str ⟨#[m]⟩] s) fun v s' => s' = s ∧ v = .bl (okM x m) := by
  have om : ∀ k : Nat, k < 0x110000 → ∀ c ∈ (⟨#[k]⟩ : Str).cps.toList, c < 0x110000 := by
    intro k hk c hc
    have : c = k := by simpa using hc
    omega
  rw [F_is_marked, mFun_ap (n := 2) rfl, b_is_marked]
  simp only [List.map_cons, List.map_nil, List.cons_append, List.nil_append, List.replicate_succ, List.replicate_zero]
  refine seqK (fun e s' => e = [some (.str x), some (.str ⟨#[m]⟩), none] ∧ s = s' ∧ ∃ k r, x.cps.toList = k :: r ∧ k = m ∧ r.length ≤ 80 ∧ r ≠ []) ?_ ?_
  · walk_at "ev"
    rw [isx rfl]
    refine ⟨_, isi_str_str .., _, rfl, ?_⟩
    simp only [Bool.not_true, Bool.false_eq_true, if_false]
    refine ⟨_, rfl, ?_⟩
    have lx : x.length = x.cps.toList.length := by rw [TL.len_tl]
    by_cases h2 : (2 : Int) ≤ (x.length : Int)
    · refine .inl ⟨by show some (D.bl (decide ((2 : Int) ≤ (x.length : Int)))) = _; rw [decide_eq_true h2], _, rfl, _, rfl, ?_⟩
      obtain ⟨k, r, hk⟩ : ∃ k r, x.cps.toList = k :: r := by
        cases e : x.cps.toList with
        | nil => rw [e] at lx; simp at lx; omega
        | cons k r => exact ⟨k, r, rfl⟩
      have lr : x.length = r.length + 1 := by rw [lx, hk]; rfl
      have r0 : r ≠ [] := fun z => by rw [z] at lr; simp at lr; omega
      by_cases h81 : (x.length : Int) ≤ 81
      · rw [if_neg (by show ¬ (!decide ((x.length : Int) ≤ 81)) = true; rw [decide_eq_true h81]; decide)]
        have kb := h.2 k (by rw [hk]; exact List.mem_cons_self)
        refine ⟨_, ix_str (i := 0) (by rw [hk]; rfl), _, ne_str (om k kb) (om m (by omega)), _, rfl, ?_⟩
        by_cases km : k = m
        · subst km
          rw [if_neg (by simp)]
          exact ⟨k, r, hk, rfl, by omega, r0⟩
        · have ne : ((⟨#[k]⟩ : Str) == ⟨#[m]⟩) = false := beq_eq_false_iff_ne.mpr fun z => km (by
            have := congrArg (fun y : Str => y.cps.toList) z
            simpa using this)
          rw [ne, if_pos (by decide)]
          simp [okM, hk, km]
      · rw [if_pos (by show (!decide ((x.length : Int) ≤ 81)) = true; rw [decide_eq_false h81]; rfl)]
        have : ¬ r.length ≤ 80 := by omega
        simp [okM, hk, this]
    · refine .inr ⟨by show some (D.bl (decide ((2 : Int) ≤ (x.length : Int)))) = _; rw [decide_eq_false h2], ?_⟩
      rw [if_pos (by decide)]
      unfold okM
      cases e : x.cps.toList with
      | nil => rfl
      | cons k r =>
        have : r = [] := by
          rw [e] at lx
          cases r with
          | nil => rfl
          | cons a b => simp at lx; omega
        simp [this]
  rintro _ _ ⟨rfl, rfl, k, r, hk, rfl, hr, hr0⟩
  have lc : (cutS x (some 1) none).length = r.length := by rw [TL.len_tl, show TL.tl (cutS x (some 1) none) = r from cut1 hk]
  walk_at "ev"
  refine ⟨_, rfl, _, rfl, ?_⟩
  refine Wp.mono (lc_signsC (i := 2) (by show 2 < 3; decide) (by rw [lc]; omega)) ?_
  intro out s1 ⟨e, eo⟩
  subst e
  refine ⟨_, all_bls eo, rfl, ?_⟩
  rw [all_map, cut1 hk]
  simp only [okM, hk, decide_true, Bool.true_and, decide_eq_true hr, decide_eq_true hr0]
  rfl
theorem hash_sign : ("#" : Str) = ⟨#[35]⟩ := by decide
theorem ask_sign : ("?" : Str) = ⟨#[63]⟩ := by decide
theorem marks_two : ("#?" : Str).cps.toList = [35, 63] := by decide
theorem ids_no35 : (35 : Nat) ∉ TEXT.cps.toList ∧ (63 : Nat) ∉ TEXT.cps.toList := by decide +kernel
theorem okS_eq (x : Str) : okS x = ((decide ((x.length : Int) ≤ 20) && x.cps.toList.all fun c => decide (c ∈ TEXT.cps.toList)) || (okM x 35 || okM x 63)) := by
  have lx : x.length = x.cps.toList.length := by rw [TL.len_tl]
  unfold okS okM
  rw [lx]
  cases e : x.cps.toList with
  | nil => rfl
  | cons k r =>
    simp only [marks_two, List.length_cons]
    by_cases h1 : k = 35
    · subst h1
      have n1 := ids_no35.1
      simp [n1]
      exact fun _ z => absurd (Array.mem_toList_iff.mpr z) n1
    · by_cases h2 : k = 63
      · subst h2
        have n1 := ids_no35.2
        simp [n1]
        exact fun _ z => absurd (Array.mem_toList_iff.mpr z) n1
      · have nm : k ∉ [35, 63] := by simp [h1, h2]
        rw [if_neg nm]
        simp only [h1, h2, decide_false, Bool.false_and, Bool.or_false]
        congr 1
        rw [decide_eq_decide]
        omega
end K01
end
section
set_option maxRecDepth 100000
set_option maxHeartbeats 1000000
namespace K01
open PySem L2 Mi
local macro_rules | `(tactic| walk_at "ev") => `(tactic| simp only [Wp_ok, Wp_bind, Wp_quiet, WpS_fl, WpS_then, Nx_nx, Nx_rt, Nx_bk, Nx_ct, mVar_ap, mC_ap, mOp_ap, mUn_ap, mB_ap, mTru_ap, mAnd_ap, mOr_ap, mNot_ap,
  bAnd_ap, bOr_ap, bNot_ap, bYes_ap, mIf_ap, mNil_ap, mCons_ap, mTup_ap, mLst_ap, mLstR_ap, mDic0_ap, mCall_ap, mCb_ap, mMb_ap, mStr_ap, mRevT_ap, mPart_ap, mNoPart_ap, mSl_ap, mChain_ap, itL_ap, itT_ap, itS_ap, itR1_ap,
  sNil_ap, sSeq_ap, sIf_ap, sRet_ap, sRetN_ap, sBrk_ap, sCnt_ap, sExp_ap, sAsg_ap, sPar_ap, sPar3_ap, tgN_ap, tgNil_ap, tgCons_ap, sSetIx_ap, sFor_ap, Wp_mLc,
  List.map_cons, List.map_nil, List.cons_append, List.nil_append, List.replicate_succ, List.replicate_zero, List.getElem?_cons_zero, List.getElem?_cons_succ, List.set_cons_zero, List.set_cons_succ, List.length_cons, List.length_nil,
  Option.some.injEq, Option.bind_some, exists_eq_left, exists_eq_left', true_and, and_true, D.bl.injEq, D.int.injEq, D.str.injEq, D.ref.injEq, D.tup.injEq, D.lst.injEq, List.cons.injEq, if_true, if_false, Bool.false_eq_true, reduceCtorEq, false_and, and_false, or_false, false_or, exists_false])
local macro_rules | `(tactic| walk_at "isi") => `(tactic| simp only [isi_NoneType_bool, isi_NoneType_int, isi_NoneType_str, isi_NoneType_tuple, isi_NoneType_list, isi_NoneType_dict, isi_bool_bool, isi_bool_int, isi_bool_str, isi_bool_tuple, isi_bool_list, isi_bool_dict,
  isi_int_bool, isi_int_int, isi_int_str, isi_int_tuple, isi_int_list, isi_int_dict, isi_str_bool, isi_str_int, isi_str_str, isi_str_tuple, isi_str_list, isi_str_dict, isi_tuple_bool, isi_tuple_int, isi_tuple_str, isi_tuple_tuple, isi_tuple_list, isi_tuple_dict,
  isi_list_bool, isi_list_int, isi_list_str, isi_list_tuple, isi_list_list, isi_list_dict, isi_dict_bool, isi_dict_int, isi_dict_str, isi_dict_tuple, isi_dict_list, isi_dict_dict, tru_bl, tru_non, Option.some.injEq, exists_eq_left', exists_eq_left, if_true, if_false, Bool.false_eq_true, Bool.not_true, Bool.not_false, true_and, false_and, or_false, false_or, reduceCtorEq, D.bl.injEq])

def plB : D → Bool
  | .bl _ => true
  | .int i => decide (-1000000 ≤ i) && decide (i ≤ 1000000)
  | .str x => okS x
  | _ => false
theorem plain_str {s : Sto} {x : Str} (h : strK x) : Wp (F_is_plain [.str x] s) fun v s' => s' = s ∧ v = .bl (okS x) := by
  rw [F_is_plain, mFun_ap (n := 1) rfl, b_is_plain]
  simp only [List.map_cons, List.map_nil, List.cons_append, List.nil_append, List.replicate_succ, List.replicate_zero]
  refine seqK (fun e s' => e = [some (.str x)] ∧ s = s') ?_ ?_
  · walk_at "ev"
    rw [F_is_integer, mFun_ap (n := 1) rfl, b_is_integer]
    walk_at "ev"
    rw [isx rfl]
    exact ⟨_, isi_str_int .., .inr ⟨rfl, _, rfl, by rw [if_neg (by decide)]; rfl⟩⟩
  rintro _ _ ⟨rfl, rfl⟩
  walk_at "ev"
  rw [isx rfl]
  refine ⟨_, isi_str_bool .., .inl ⟨rfl, ?_⟩⟩
  refine (text_ok h).mono fun v s1 ⟨e1, e2⟩ => ?_
  subst e1; subst e2
  rw [okS_eq]
  cases (decide ((x.length : Int) ≤ 20) && x.cps.toList.all fun c => decide (c ∈ TEXT.cps.toList)) with
  | true => exact .inr ⟨rfl, rfl, rfl⟩
  | false =>
    refine .inl ⟨rfl, ?_⟩
    rw [F_is_id, mFun_ap (n := 1) rfl, b_is_id]
    walk_at "ev"
    rw [hash_sign]
    refine (marked_ok (m := 35) h (by decide)).mono fun v s1 ⟨e1, e2⟩ => ?_
    subst e1; subst e2
    cases okM x 35 with
    | true => exact .inr ⟨rfl, rfl, rfl⟩
    | false =>
      refine .inl ⟨rfl, ?_⟩
      rw [F_is_unknown, mFun_ap (n := 1) rfl, b_is_unknown]
      walk_at "ev"
      rw [ask_sign]
      refine (marked_ok (m := 63) h (by decide)).mono fun v s1 ⟨e1, e2⟩ => ?_
      subst e1; subst e2
      exact ⟨rfl, by simp⟩
end K01
end
section
set_option maxRecDepth 100000
set_option maxHeartbeats 1000000
namespace K01
open PySem L2 Mi
local macro_rules | `(tactic| walk_at "ev") => `(tactic| simp only [Wp_ok, Wp_bind, Wp_quiet, WpS_fl, WpS_then, Nx_nx, Nx_rt, Nx_bk, Nx_ct, mVar_ap, mC_ap, mOp_ap, mUn_ap, mB_ap, mTru_ap, mAnd_ap, mOr_ap, mNot_ap,
  bAnd_ap, bOr_ap, bNot_ap, bYes_ap, mIf_ap, mNil_ap, mCons_ap, mTup_ap, mLst_ap, mLstR_ap, mDic0_ap, mCall_ap, mCb_ap, mMb_ap, mStr_ap, mRevT_ap, mPart_ap, mNoPart_ap, mSl_ap, mChain_ap, itL_ap, itT_ap, itS_ap, itR1_ap,
  sNil_ap, sSeq_ap, sIf_ap, sRet_ap, sRetN_ap, sBrk_ap, sCnt_ap, sExp_ap, sAsg_ap, sPar_ap, sPar3_ap, tgN_ap, tgNil_ap, tgCons_ap, sSetIx_ap, sFor_ap, Wp_mLc,
  List.map_cons, List.map_nil, List.cons_append, List.nil_append, List.replicate_succ, List.replicate_zero, List.getElem?_cons_zero, List.getElem?_cons_succ, List.set_cons_zero, List.set_cons_succ, List.length_cons, List.length_nil,
  Option.some.injEq, Option.bind_some, exists_eq_left, exists_eq_left', true_and, and_true, D.bl.injEq, D.int.injEq, D.str.injEq, D.ref.injEq, D.tup.injEq, D.lst.injEq, List.cons.injEq, if_true, if_false, Bool.false_eq_true, reduceCtorEq, false_and, and_false, or_false, false_or, exists_false])
local macro_rules | `(tactic| walk_at "isi") => `(tactic| simp only [isi_NoneType_bool, isi_NoneType_int, isi_NoneType_str, isi_NoneType_tuple, isi_NoneType_list, isi_NoneType_dict, isi_bool_bool, isi_bool_int, isi_bool_str, isi_bool_tuple, isi_bool_list, isi_bool_dict,
  isi_int_bool, isi_int_int, isi_int_str, isi_int_tuple, isi_int_list, isi_int_dict, isi_str_bool, isi_str_int, isi_str_str, isi_str_tuple, isi_str_list, isi_str_dict, isi_tuple_bool, isi_tuple_int, isi_tuple_str, isi_tuple_tuple, isi_tuple_list, isi_tuple_dict,
  isi_list_bool, isi_list_int, isi_list_str, isi_list_tuple, isi_list_list, isi_list_dict, isi_dict_bool, isi_dict_int, isi_dict_str, isi_dict_tuple, isi_dict_list, isi_dict_dict, tru_bl, tru_non, Option.some.injEq, exists_eq_left', exists_eq_left, if_true, if_false, Bool.false_eq_true, Bool.not_true, Bool.not_false, true_and, false_and, or_false, false_or, reduceCtorEq, D.bl.injEq])


/-! ### plain things, exactly -/
/-- no text, no number, no list of the program's -/
def Odd (s : Sto) (d : D) : Prop := ∀ T ∈ (["int", "bool", "str", "tuple"] : List String), isiX "Record" T s d = some (.bl false)
theorem plain_odd {s : Sto} {d : D} (h : Odd s d) : Wp (F_is_plain [d] s) fun v s' => s' = s ∧ v = .bl false := by
  have h1 := h "int" (by simp)
  have h2 := h "bool" (by simp)
  have h3 := h "str" (by simp)
  have mk : ∀ m : Str, Wp (F_is_marked [d, .str m] s) fun v s' => s' = s ∧ v = .bl false := fun m => by
    rw [F_is_marked, mFun_ap (n := 2) rfl, b_is_marked]
    simp only [List.map_cons, List.map_nil, List.cons_append, List.nil_append, List.replicate_succ, List.replicate_zero]
    refine seqK (fun e s' => False) ?_ fun _ _ h => h.elim
    walk_at "ev"
    exact ⟨_, h3, _, rfl, by rw [if_pos (by rfl)]; trivial⟩
  rw [F_is_plain, mFun_ap (n := 1) rfl, b_is_plain]
  simp only [List.map_cons, List.map_nil, List.cons_append, List.nil_append, List.replicate_succ, List.replicate_zero]
  refine seqK (fun e s' => e = [some d] ∧ s = s') ?_ ?_
  · walk_at "ev"
    rw [F_is_integer, mFun_ap (n := 1) rfl, b_is_integer]
    walk_at "ev"
    exact ⟨_, h1, .inr ⟨rfl, _, rfl, by rw [if_neg (by decide)]; rfl⟩⟩
  rintro _ _ ⟨rfl, rfl⟩
  walk_at "ev"
  refine ⟨_, h2, .inl ⟨rfl, ?_⟩⟩
  rw [F_is_text, mFun_ap (n := 1) rfl, b_is_text]
  walk_at "ev"
  refine ⟨_, h3, .inr ⟨rfl, .inl ⟨rfl, ?_⟩⟩⟩
  rw [F_is_id, mFun_ap (n := 1) rfl, b_is_id]
  walk_at "ev"
  refine (mk _).mono fun v s1 ⟨e1, e2⟩ => ?_
  subst e1; subst e2
  refine .inl ⟨rfl, ?_⟩
  rw [F_is_unknown, mFun_ap (n := 1) rfl, b_is_unknown]
  walk_at "ev"
  exact (mk _).mono fun v s1 ⟨e1, e2⟩ => ⟨e1, e2⟩
theorem plain_int {s : Sto} {i : Int} : Wp (F_is_plain [.int i] s) fun v s' => s' = s ∧ v = .bl (plB (.int i)) := by
  rw [F_is_plain, mFun_ap (n := 1) rfl, b_is_plain]
  simp only [List.map_cons, List.map_nil, List.cons_append, List.nil_append, List.replicate_succ, List.replicate_zero]
  refine seqK (fun e s' => False) ?_ fun _ _ h => h.elim
  walk_at "ev"
  rw [F_is_integer, mFun_ap (n := 1) rfl, b_is_integer]
  walk_at "ev"
  rw [isx rfl]
  refine ⟨_, isi_int_int .., .inl ⟨rfl, ?_⟩⟩
  rw [isx rfl]
  refine ⟨_, isi_int_bool .., _, rfl, _, rfl, ?_⟩
  rw [if_pos (by rfl)]
  refine ⟨_, rfl, ?_⟩
  simp only [plB]
  by_cases h1 : (-1000000 : Int) ≤ i
  · refine .inl ⟨by show some (D.bl (decide ((-1000000 : Int) ≤ i))) = _; rw [decide_eq_true h1], _, rfl, ?_⟩
    first | (rw [decide_eq_true h1]; rfl) | exact ⟨rfl, by rw [decide_eq_true h1]; rfl⟩
  · refine .inr ⟨by show some (D.bl (decide ((-1000000 : Int) ≤ i))) = _; rw [decide_eq_false h1], ?_⟩
    rw [decide_eq_false h1]
    first | rfl | exact ⟨rfl, rfl⟩
theorem plain_bl {s : Sto} {b : Bool} : Wp (F_is_plain [.bl b] s) fun v s' => s' = s ∧ v = .bl true := by
  rw [F_is_plain, mFun_ap (n := 1) rfl, b_is_plain]
  simp only [List.map_cons, List.map_nil, List.cons_append, List.nil_append, List.replicate_succ, List.replicate_zero]
  refine seqK (fun e s' => e = [some (.bl b)] ∧ s = s') ?_ ?_
  · walk_at "ev"
    rw [F_is_integer, mFun_ap (n := 1) rfl, b_is_integer]
    walk_at "ev"
    rw [isx rfl]
    refine ⟨_, isi_bool_int .., .inl ⟨rfl, ?_⟩⟩
    rw [isx rfl]
    refine ⟨_, isi_bool_bool .., _, rfl, _, rfl, ?_⟩
    rw [if_neg (by decide)]
    first | rfl | exact ⟨rfl, rfl⟩
  rintro _ _ ⟨rfl, rfl⟩
  walk_at "ev"
  rw [isx rfl]
  exact ⟨_, isi_bool_bool .., .inr ⟨rfl, by first | rfl | exact ⟨rfl, rfl⟩⟩⟩
theorem odd_flat {s : Sto} {d : D} (h : d = .non ∨ (∃ xs, d = .lst xs) ∨ ∃ kvs, d = .dic kvs) : Odd s d := by
  intro T hT
  simp only [List.mem_cons, List.not_mem_nil, or_false] at hT
  rcases h with rfl | ⟨xs, rfl⟩ | ⟨kvs, rfl⟩ <;> rcases hT with rfl | rfl | rfl | rfl <;> rw [isx rfl] <;> simp
/-- a leaf of what is_value looks at -/
structure Lf (s : Sto) (d : D) : Prop where
  tp : isiX "Record" "tuple" s d = some (.bl false)
  pl : Wp (F_is_plain [d] s) fun v s' => s' = s ∧ v = .bl (plB d)
  nt : ∀ xs, d ≠ .tup xs
theorem lf_flat {s : Sto} {d : D} (h : Flat d) : Lf s d := by
  rcases h with rfl | ⟨b, rfl⟩ | ⟨i, rfl⟩ | ⟨x, rfl, hx⟩ | ⟨xs, rfl⟩ | ⟨kvs, rfl⟩
  · exact ⟨by rw [isx rfl]; simp, plain_odd (odd_flat (.inl rfl)), by simp⟩
  · exact ⟨by rw [isx rfl]; simp, plain_bl, by simp⟩
  · exact ⟨by rw [isx rfl]; simp, plain_int, by simp⟩
  · exact ⟨by rw [isx rfl]; simp, plain_str hx, by simp⟩
  · exact ⟨by rw [isx rfl]; simp, plain_odd (odd_flat (.inr (.inl ⟨xs, rfl⟩))), by simp⟩
  · exact ⟨by rw [isx rfl]; simp, plain_odd (odd_flat (.inr (.inr ⟨kvs, rfl⟩))), by simp⟩
theorem sort_e {s : Sto} {d : D} (h : Flat d) : Wp (F__law_sort [d] s) fun v s' => s' = s ∧ ((v = .non ∧ plB d = false) ∨ ((∃ w, v = .str w) ∧ plB d = true)) := by
  rcases h with rfl | ⟨b, rfl⟩ | ⟨i, rfl⟩ | ⟨x, rfl, hx⟩ | ⟨xs, rfl⟩ | ⟨kvs, rfl⟩
  · rw [F__law_sort, mFun_ap (n := 1) rfl, b__law_sort]
    simp only [List.map_cons, List.map_nil, List.cons_append, List.nil_append, List.replicate_succ, List.replicate_zero]
    refine seqK (fun e s' => e = [some .non, none, none, none, none, none, none] ∧ s = s') ?_ ?_
    · walk_at "ev"; walk_at "isi"
    rintro _ _ ⟨rfl, rfl⟩
    refine seqK (fun e s' => e = [some .non, none, none, none, none, none, none] ∧ s = s') ?_ ?_
    · walk_at "ev"; walk_at "isi"
    rintro _ _ ⟨rfl, rfl⟩
    refine seqK (fun e s' => False) ?_ fun _ _ h => h.elim
    walk_at "ev"; walk_at "isi"
    first | exact .inl ⟨rfl, rfl⟩ | rfl
  · rw [F__law_sort, mFun_ap (n := 1) rfl, b__law_sort]
    simp only [List.map_cons, List.map_nil, List.cons_append, List.nil_append, List.replicate_succ, List.replicate_zero]
    refine seqK (fun e s' => False) ?_ fun _ _ h => h.elim
    walk_at "ev"; walk_at "isi"
    exact ⟨⟨_, rfl⟩, rfl⟩
  · rw [F__law_sort, mFun_ap (n := 1) rfl, b__law_sort]
    simp only [List.map_cons, List.map_nil, List.cons_append, List.nil_append, List.replicate_succ, List.replicate_zero]
    refine seqK (fun e s' => e = [some (.int i), none, none, none, none, none, none] ∧ s = s') ?_ ?_
    · walk_at "ev"; walk_at "isi"
    rintro _ _ ⟨rfl, rfl⟩
    refine seqK (fun e s' => False) ?_ fun _ _ h => h.elim
    walk_at "ev"; walk_at "isi"
    refine ⟨_, rfl, ?_⟩
    by_cases h1 : (-1000000 : Int) ≤ i
    · refine .inl ⟨by show some (D.bl (decide ((-1000000 : Int) ≤ i))) = _; rw [decide_eq_true h1], _, rfl, _, rfl, ?_⟩
      by_cases h2 : i ≤ 1000000
      · rw [if_pos (decide_eq_true h2)]
        exact ⟨⟨_, rfl⟩, by simp only [plB, decide_eq_true h1, decide_eq_true h2]; rfl⟩
      · rw [if_neg (by simpa using h2)]
        simp only [plB, decide_eq_true h1, decide_eq_false h2]; rfl
    · refine .inr ⟨by show some (D.bl (decide ((-1000000 : Int) ≤ i))) = _; rw [decide_eq_false h1], ?_⟩
      have : plB (.int i) = false := by simp only [plB, decide_eq_false h1]; rfl
      first | exact this | exact .inl ⟨rfl, this⟩ | exact ⟨rfl, .inl ⟨rfl, this⟩⟩
  · exact sort_strE hx
  · rw [F__law_sort, mFun_ap (n := 1) rfl, b__law_sort]
    simp only [List.map_cons, List.map_nil, List.cons_append, List.nil_append, List.replicate_succ, List.replicate_zero]
    refine seqK (fun e s' => e = [some (.lst xs), none, none, none, none, none, none] ∧ s = s') ?_ ?_
    · walk_at "ev"; walk_at "isi"
    rintro _ _ ⟨rfl, rfl⟩
    refine seqK (fun e s' => e = [some (.lst xs), none, none, none, none, none, none] ∧ s = s') ?_ ?_
    · walk_at "ev"; walk_at "isi"
    rintro _ _ ⟨rfl, rfl⟩
    refine seqK (fun e s' => False) ?_ fun _ _ h => h.elim
    walk_at "ev"; walk_at "isi"
    first | exact .inl ⟨rfl, rfl⟩ | rfl
  · rw [F__law_sort, mFun_ap (n := 1) rfl, b__law_sort]
    simp only [List.map_cons, List.map_nil, List.cons_append, List.nil_append, List.replicate_succ, List.replicate_zero]
    refine seqK (fun e s' => e = [some (.dic kvs), none, none, none, none, none, none] ∧ s = s') ?_ ?_
    · walk_at "ev"; walk_at "isi"
    rintro _ _ ⟨rfl, rfl⟩
    refine seqK (fun e s' => e = [some (.dic kvs), none, none, none, none, none, none] ∧ s = s') ?_ ?_
    · walk_at "ev"; walk_at "isi"
    rintro _ _ ⟨rfl, rfl⟩
    refine seqK (fun e s' => False) ?_ fun _ _ h => h.elim
    walk_at "ev"; walk_at "isi"
    first | exact .inl ⟨rfl, rfl⟩ | rfl
end K01
end
section
set_option maxRecDepth 100000
set_option maxHeartbeats 1000000
namespace K01
open PySem L2 Mi
local macro_rules | `(tactic| walk_at "ev") => `(tactic| simp only [Wp_ok, Wp_bind, Wp_quiet, WpS_fl, WpS_then, Nx_nx, Nx_rt, Nx_bk, Nx_ct, mVar_ap, mC_ap, mOp_ap, mUn_ap, mB_ap, mTru_ap, mAnd_ap, mOr_ap, mNot_ap,
  bAnd_ap, bOr_ap, bNot_ap, bYes_ap, mIf_ap, mNil_ap, mCons_ap, mTup_ap, mLst_ap, mLstR_ap, mDic0_ap, mCall_ap, mCb_ap, mMb_ap, mStr_ap, mRevT_ap, mPart_ap, mNoPart_ap, mSl_ap, mChain_ap, itL_ap, itT_ap, itS_ap, itR1_ap,
  sNil_ap, sSeq_ap, sIf_ap, sRet_ap, sRetN_ap, sBrk_ap, sCnt_ap, sExp_ap, sAsg_ap, sPar_ap, sPar3_ap, tgN_ap, tgNil_ap, tgCons_ap, sSetIx_ap, sFor_ap, Wp_mLc,
  List.map_cons, List.map_nil, List.cons_append, List.nil_append, List.replicate_succ, List.replicate_zero, List.getElem?_cons_zero, List.getElem?_cons_succ, List.set_cons_zero, List.set_cons_succ, List.length_cons, List.length_nil,
  Option.some.injEq, Option.bind_some, exists_eq_left, exists_eq_left', true_and, and_true, D.bl.injEq, D.int.injEq, D.str.injEq, D.ref.injEq, D.tup.injEq, D.lst.injEq, List.cons.injEq, if_true, if_false, Bool.false_eq_true, reduceCtorEq, false_and, and_false, or_false, false_or, exists_false])
local macro_rules | `(tactic| walk_at "isi") => `(tactic| simp only [isi_NoneType_bool, isi_NoneType_int, isi_NoneType_str, isi_NoneType_tuple, isi_NoneType_list, isi_NoneType_dict, isi_bool_bool, isi_bool_int, isi_bool_str, isi_bool_tuple, isi_bool_list, isi_bool_dict,
  isi_int_bool, isi_int_int, isi_int_str, isi_int_tuple, isi_int_list, isi_int_dict, isi_str_bool, isi_str_int, isi_str_str, isi_str_tuple, isi_str_list, isi_str_dict, isi_tuple_bool, isi_tuple_int, isi_tuple_str, isi_tuple_tuple, isi_tuple_list, isi_tuple_dict,
  isi_list_bool, isi_list_int, isi_list_str, isi_list_tuple, isi_list_list, isi_list_dict, isi_dict_bool, isi_dict_int, isi_dict_str, isi_dict_tuple, isi_dict_list, isi_dict_dict, tru_bl, tru_non, Option.some.injEq, exists_eq_left', exists_eq_left, if_true, if_false, Bool.false_eq_true, Bool.not_true, Bool.not_false, true_and, false_and, or_false, false_or, reduceCtorEq, D.bl.injEq])


/-! ### depths, exactly -/
mutual
def depD : D → Option Nat
  | .tup xs => if xs.length ≤ 16 then (depsD xs).map (· + 1) else none
  | d => if plB d then some 0 else none
def depsD : List D → Option Nat
  | [] => some 0
  | x :: r => match depD x, depsD r with
    | some a, some b => some (max a b)
    | _, _ => none
end
def dpD : Option Nat → D
  | none => .non
  | some j => .int (j : Int)
def dpf (x : D) : D := dpD (depD x)
theorem dpf_dp1 (x : D) : Dp1 (dpf x) := by
  unfold dpf
  cases depD x with
  | none => exact .inl rfl
  | some j => exact .inr ⟨j, rfl⟩
theorem depD_leaf {d : D} (h : ∀ xs, d ≠ .tup xs) : depD d = if plB d then some 0 else none := by
  cases d with
  | tup xs => exact absurd rfl (h xs)
  | _ => simp only [depD]
theorem deps_none : ∀ {xs : List D}, depsD xs = none ↔ D.non ∈ xs.map dpf
  | [] => by simp [depsD]
  | x :: r => by
    have ih := deps_none (xs := r)
    simp only [depsD, List.map_cons, List.mem_cons]
    cases hx : depD x with
    | none => simp [dpf, hx, dpD]
    | some a =>
      cases hr : depsD r with
      | none => rw [hr] at ih; simp only [true_iff] at ih; simp [ih]
      | some b => rw [hr] at ih; simp only [reduceCtorEq, false_iff] at ih; simp [dpf, hx, dpD, ih]
theorem deps_some : ∀ {xs : List D} {b : Nat}, depsD xs = some b → ∃ ns : List Int, xs.map dpf = ns.map .int ∧ (∀ n ∈ ns, 0 ≤ n) ∧ maxI (0 :: ns) = (b : Int) ∧ (match ns with | [] => (0 : Int) | n :: r => maxI (n :: r)) = (b : Int)
  | [], b, h => by
    cases h
    exact ⟨[], rfl, by simp, rfl, rfl⟩
  | x :: r, b, h => by
    simp only [depsD] at h
    split at h
    · rename_i a c hx hr
      cases h
      obtain ⟨ns, e, p, m, _⟩ := deps_some hr
      have all : ∀ n ∈ ((a : Int) :: ns), 0 ≤ n := fun n hn => by
        rcases List.mem_cons.mp hn with rfl | hn
        · omega
        · exact p n hn
      have m1 := maxI_max (0 :: ns) (by simp)
      have m2 := maxI_max ((a : Int) :: ns) (by simp)
      have m3 := maxI_max (0 :: (a : Int) :: ns) (by simp)
      have k2 : maxI ((a : Int) :: ns) = ((max a c : Nat) : Int) := by
        refine Int.le_antisymm ?_ ?_
        · rcases List.mem_cons.mp m2.1 with h | h
          · omega
          · have := m1.2 _ (List.mem_cons_of_mem _ h); omega
        · have ha := m2.2 a (by simp)
          have hc : (c : Int) ≤ maxI ((a : Int) :: ns) := by
            rw [← m]
            rcases List.mem_cons.mp m1.1 with h | h
            · rw [h]; omega
            · exact m2.2 _ (List.mem_cons_of_mem _ h)
          omega
      refine ⟨(a : Int) :: ns, by rw [List.map_cons, e]; simp [dpf, hx, dpD], all, ?_, k2⟩
      have e0 : maxI (0 :: (a : Int) :: ns) = if maxI ((a : Int) :: ns) ≤ 0 then 0 else maxI ((a : Int) :: ns) := by simp only [maxI]
      rw [e0, k2]
      split
      · omega
      · rfl
    · cases h
/-- what is looked at, nested at most so deep -/
def Tl (s : Sto) : Nat → D → Prop
  | 0, d => Lf s d
  | k + 1, d => Lf s d ∨ ∃ xs, d = .tup xs ∧ xs.length ≤ 1000 ∧ ∀ x ∈ xs, Tl s k x
theorem th_tl {s : Sto} : ∀ {k : Nat} {d : D}, Th k d → Tl s k d
  | 0, _, h => lf_flat h
  | k + 1, _, h => by
    rcases h with h | ⟨xs, e, l, h⟩
    · exact .inl (lf_flat h)
    · exact .inr ⟨xs, e, l, fun x hx => th_tl (h x hx)⟩
theorem lc_map {G : Sto → Prop} {g : Tg} {fe : ET} {env : Mi.Env} {s : Sto} {f : D → D} (hG : G s) :
    ∀ (ds acc : List D), (∀ d ∈ ds, ∃ e2, g d env = some e2 ∧ Wp (fe e2 s) fun y s' => s' = s ∧ y = f d) → acc.length + ds.length ≤ 1000000 →
      Wp (lcGo G g bYes fe env ds acc s) fun out s' => s' = s ∧ out = acc ++ ds.map f
  | [], acc, _, _ => by
    rw [lcGo, if_pos hG]
    exact ⟨rfl, by simp⟩
  | d :: r, acc, h, hl => by
    obtain ⟨e2, he, hw⟩ := h d List.mem_cons_self
    rw [lcGo, if_pos hG, he]
    rw [List.length_cons] at hl
    walk_at "ev"
    refine hw.mono fun y s1 ⟨e, hy⟩ => ?_
    subst e
    rw [if_pos (Nat.lt_of_lt_of_le (show acc.length < 1000001 by omega) (by decide))]
    refine (lc_map hG r (acc ++ [y]) (fun x hx => h x (List.mem_cons_of_mem _ hx)) (by simp; omega)).mono fun out s2 ⟨e2, e3⟩ => ⟨e2, by rw [e3, hy]; simp⟩
theorem isx_tup {s : Sto} {xs : List D} : isiX "Record" "tuple" s (.tup xs) = some (.bl true) := by rw [isx rfl]; simp
theorem depth_leaf {s : Sto} {d : D} (h : Lf s d) (m : Nat) : Wp (F_depth_of (m + 1) [d] s) fun v s' => s' = s ∧ v = dpf d := by
  rw [F_depth_of, mFun_ap (n := 1) rfl, b_depth_of]
  simp only [List.map_cons, List.map_nil, List.cons_append, List.nil_append, List.replicate_succ, List.replicate_zero]
  refine seqK (fun e s' => False) ?_ fun _ _ h => h.elim
  walk_at "ev"
  refine ⟨_, h.tp, _, rfl, ?_⟩
  simp only [Bool.not_false, if_true]
  refine h.pl.mono fun v s1 ⟨e, hv⟩ => ?_
  subst e; subst hv
  refine ⟨_, rfl, ?_⟩
  rw [dpf, depD_leaf h.nt]
  cases plB d <;> simp [dpD]
theorem depth_ok {s : Sto} : ∀ (k m : Nat) {d : D}, k ≤ m → Tl s k d → Wp (F_depth_of (m + 1) [d] s) fun v s' => s' = s ∧ v = dpf d
  | 0, m, d, _, h => depth_leaf h m
  | k + 1, m, d, hm, h => by
    rcases h with h | ⟨xs, rfl, hl, hx⟩
    · exact depth_leaf h m
    obtain ⟨m, rfl⟩ : ∃ j, m = j + 1 := ⟨m - 1, by omega⟩
    rw [F_depth_of, mFun_ap (n := 1) rfl, b_depth_of]
    simp only [List.map_cons, List.map_nil, List.cons_append, List.nil_append, List.replicate_succ, List.replicate_zero]
    refine seqK (fun e s' => e = [some (.tup xs), none, none] ∧ s = s') ?_ ?_
    · walk_at "ev"
      exact ⟨_, isx_tup, _, rfl, by rw [if_neg (by decide)]; first | trivial | exact ⟨rfl, rfl⟩⟩
    rintro _ _ ⟨rfl, rfl⟩
    refine seqK (fun e s' => s = s' ∧ e = [some (.tup xs), some (.lst (xs.map dpf)), none]) ?_ ?_
    · walk_at "ev"
      refine Wp.mono (lc_map (f := dpf) True.intro xs [] ?h (by simp; omega)) ?k
      case h =>
        intro x hxm
        refine ⟨_, rfl, ?_⟩
        simp only [wipeE]
        walk_at "ev"
        exact depth_ok k m (by omega) (hx x hxm)
      case k =>
        intro out s1 ⟨e, e2⟩
        subst e
        rw [List.nil_append] at e2
        subst e2
        first | trivial | exact ⟨rfl, rfl⟩
    rintro _ _ ⟨rfl, rfl⟩
    have hy : ∀ y ∈ xs.map dpf, Dp1 y := fun y hy => by
      obtain ⟨x, _, rfl⟩ := List.mem_map.mp hy
      exact dpf_dp1 x
    refine seqK (fun e s' => s = s' ∧ e = [some (.tup xs), some (.lst (xs.map dpf)), none] ∧ xs.length ≤ 16 ∧ D.non ∉ xs.map dpf) ?_ ?_
    · walk_at "ev"
      refine ⟨_, rfl, _, rfl, _, rfl, ?_⟩
      by_cases c : (16 : Int) < (xs.length : Int)
      · rw [if_pos (decide_eq_true c)]
        have : ¬ xs.length ≤ 16 := by omega
        simp [dpf, depD, this, dpD]
      · rw [if_neg (by simpa using c)]
        obtain ⟨b, e, iff⟩ := non_in (s := s) hy
        refine ⟨_, e, b, rfl, ?_⟩
        cases b with
        | true =>
          have := deps_none.mpr (iff.mp rfl)
          simp [dpf, depD, this, dpD]
        | false =>
          simp only [Bool.false_eq_true, if_false]
          exact ⟨by omega, fun z => absurd (iff.mpr z) (by decide)⟩
    rintro _ _ ⟨rfl, rfl, l16, hn⟩
    obtain ⟨b, hb⟩ : ∃ b, depsD xs = some b := by
      cases h : depsD xs with
      | none => exact absurd (deps_none.mp h) hn
      | some b => exact ⟨b, rfl⟩
    obtain ⟨ns, e, p, m1, m2⟩ := deps_some hb
    walk_at "ev"
    rw [e]
    have ed : dpf (.tup xs) = .int (1 + (b : Int)) := by
      simp only [dpf, depD, l16, if_true, hb, Option.map_some, dpD]
      congr 1; omega
    refine ⟨.int (b : Int), ?_, _, rfl, ?_⟩
    · unfold maxDf
      have e : asL s (.lst (ns.map D.int)) = some (ns.map D.int) := rfl
      rw [e, Option.bind_some, allInt_map]
      cases ns with
      | nil => simp only at m2; simp only; rw [m2]
      | cons n r => simp only at m2; simp only; rw [m2]
    · first | exact ed.symm | exact ⟨rfl, ed.symm⟩
theorem ldeep_leaf {s : Sto} {d : D} (h : Flat d) (m : Nat) : Wp (F__law_deep (m + 1) [d] s) fun v s' => s' = s ∧ v = dpf d := by
  have key : isiD "tuple" s d = some (.bl false) := by
    rcases h with rfl | ⟨b, rfl⟩ | ⟨i, rfl⟩ | ⟨x, rfl, hx⟩ | ⟨xs, rfl⟩ | ⟨kvs, rfl⟩ <;> simp
  rw [F__law_deep, mFun_ap (n := 1) rfl, b__law_deep]
  simp only [List.map_cons, List.map_nil, List.cons_append, List.nil_append, List.replicate_succ, List.replicate_zero]
  refine seqK (fun e s' => False) ?_ fun _ _ h => h.elim
  walk_at "ev"
  refine ⟨_, key, _, rfl, ?_⟩
  simp only [Bool.not_false, if_true]
  refine (sort_e h).mono fun v s1 ⟨e, hv⟩ => ?_
  subst e
  have nt := (lf_flat (s := s1) h).nt
  rcases hv with ⟨rfl, hp⟩ | ⟨⟨w, rfl⟩, hp⟩
  · exact ⟨_, rfl, _, rfl, by rw [dpf, depD_leaf nt, hp]; simp [isNonD, dpD]⟩
  · exact ⟨_, rfl, _, rfl, by rw [dpf, depD_leaf nt, hp]; simp [isNonD, dpD]⟩
theorem ldeep_ok {s : Sto} : ∀ (k m : Nat) {d : D}, k ≤ m → Th k d → Wp (F__law_deep (m + 1) [d] s) fun v s' => s' = s ∧ v = dpf d
  | 0, m, d, _, h => ldeep_leaf h m
  | k + 1, m, d, hm, h => by
    rcases h with h | ⟨xs, rfl, hl, hx⟩
    · exact ldeep_leaf h m
    obtain ⟨m, rfl⟩ : ∃ j, m = j + 1 := ⟨m - 1, by omega⟩
    rw [F__law_deep, mFun_ap (n := 1) rfl, b__law_deep]
    simp only [List.map_cons, List.map_nil, List.cons_append, List.nil_append, List.replicate_succ, List.replicate_zero]
    refine seqK (fun e s' => e = [some (.tup xs), none, none] ∧ s = s') ?_ ?_
    · walk_at "ev"; walk_at "isi"
    rintro _ _ ⟨rfl, rfl⟩
    refine seqK (fun e s' => s = s' ∧ e = [some (.tup xs), some (.lst (xs.map dpf)), none]) ?_ ?_
    · walk_at "ev"
      refine Wp.mono (lc_map (f := dpf) True.intro xs [] ?h (by simp; omega)) ?k
      case h =>
        intro x hxm
        refine ⟨_, rfl, ?_⟩
        simp only [wipeE]
        walk_at "ev"
        exact ldeep_ok k m (by omega) (hx x hxm)
      case k =>
        intro out s1 ⟨e, e2⟩
        subst e
        rw [List.nil_append] at e2
        subst e2
        first | trivial | exact ⟨rfl, rfl⟩
    rintro _ _ ⟨rfl, rfl⟩
    have hy : ∀ y ∈ xs.map dpf, Dp1 y := fun y hy => by
      obtain ⟨x, _, rfl⟩ := List.mem_map.mp hy
      exact dpf_dp1 x
    refine seqK (fun e s' => s = s' ∧ e = [some (.tup xs), some (.lst (xs.map dpf)), none] ∧ xs.length ≤ 16 ∧ D.non ∉ xs.map dpf) ?_ ?_
    · walk_at "ev"
      refine ⟨_, rfl, _, rfl, _, rfl, ?_⟩
      by_cases c : (16 : Int) < (xs.length : Int)
      · rw [if_pos (decide_eq_true c)]
        have : ¬ xs.length ≤ 16 := by omega
        simp [dpf, depD, this, dpD]
      · rw [if_neg (by simpa using c)]
        obtain ⟨b, e, iff⟩ := non_in (s := s) hy
        refine ⟨_, e, b, rfl, ?_⟩
        cases b with
        | true =>
          have := deps_none.mpr (iff.mp rfl)
          simp [dpf, depD, this, dpD]
        | false =>
          simp only [Bool.false_eq_true, if_false]
          exact ⟨by omega, fun z => absurd (iff.mpr z) (by decide)⟩
    rintro _ _ ⟨rfl, rfl, l16, hn⟩
    obtain ⟨b, hb⟩ : ∃ b, depsD xs = some b := by
      cases h : depsD xs with
      | none => exact absurd (deps_none.mp h) hn
      | some b => exact ⟨b, rfl⟩
    obtain ⟨ns, e, p, m1, m2⟩ := deps_some hb
    walk_at "ev"
    rw [e]
    have ed : dpf (.tup xs) = .int (1 + (b : Int)) := by
      simp only [dpf, depD, l16, if_true, hb, Option.map_some, dpD]
      congr 1; omega
    have ln : ns.length ≤ 16 := by
      have := congrArg List.length e
      rw [List.length_map, List.length_map] at this
      omega
    have sl : sizeLine = 16777216 := sizeLine_eq
    refine ⟨by decide, _, add_lst (by simp; omega), .int (b : Int), ?_, _, rfl, ?_⟩
    · show (match ((asL s (.lst ([D.int 0] ++ ns.map D.int))).bind allInt) with | some (n :: ns) => some (D.int (maxI (n :: ns))) | _ => none) = _
      have e : asL s (.lst ([D.int 0] ++ ns.map D.int)) = some ((0 :: ns).map D.int) := rfl
      rw [e, Option.bind_some, allInt_map]
      simp only
      rw [m1]
    · first | exact ed.symm | exact ⟨rfl, ed.symm⟩
/-- is it a value -/
def valB (d : D) : Bool := match depD d with
  | some j => decide ((j : Int) ≤ 3)
  | none => false
theorem is_value_ok {s : Sto} {k : Nat} {d : D} (hk : k ≤ 9) (h : Tl s k d) : Wp (F_is_value [d] s) fun v s' => s' = s ∧ v = .bl (valB d) := by
  rw [F_is_value, mFun_ap (n := 1) rfl, b_is_value]
  walk_at "ev"
  refine (depth_ok k 9 (by omega) h).mono fun v s1 ⟨e, hv⟩ => ?_
  subst e; subst hv
  unfold dpf valB
  cases depD d with
  | none => exact ⟨_, rfl, .inr ⟨rfl, by first | rfl | exact ⟨rfl, rfl⟩⟩⟩
  | some j => exact ⟨_, rfl, .inl ⟨rfl, _, rfl, by first | rfl | exact ⟨rfl, rfl⟩⟩⟩
/-- what may be asked -/
structure Askd (d : D) : Prop where
  th : Th 8 d
  sh : ∃ x, ∀ s, cbShow s [d] = some (.str x)
theorem sh_bl {s : Sto} {b : Bool} : cbShow s [.bl b] = some (.str (PyData.bool b).shown) := by
  simp only [cbShow, shD, pyD]
  rw [if_pos ⟨rfl, by simp [PyData.depth], by simp only [PyData.shown]; cases b <;> decide⟩]
theorem asked_ok {s : Sto} {d : D} (h : Askd d) : Wp (F__law_asked [d] s) fun v s' => s' = s ∧ v = .bl true := by
  obtain ⟨x, hx⟩ := h.sh
  rw [F__law_asked, mFun_ap (n := 1) rfl, b__law_asked]
  walk_at "ev"
  refine ⟨_, hx s, (ldeep_ok 8 9 (by omega) h.th).mono fun v s1 ⟨e, hv⟩ => ?_⟩
  subst e; subst hv
  refine ⟨_, _, ⟨rfl, rfl⟩, ?_⟩
  refine (is_value_ok (k := 8) (by omega) (th_tl h.th)).mono fun v s2 ⟨e, hv⟩ => ?_
  subst e; subst hv
  refine ⟨_, sh_bl, ?_⟩
  unfold dpf valB
  cases depD d with
  | none => exact ⟨_, rfl, .inr ⟨rfl, _, sh_bl, _, eq_strs, .inl ⟨by simp [dpD, isNonD], _, hx s2, _, eq_strs, rfl, by simp⟩⟩⟩
  | some j => exact ⟨_, rfl, .inl ⟨rfl, _, rfl, _, sh_bl, _, eq_strs, .inl ⟨by simp, _, hx s2, _, eq_strs, rfl, by simp⟩⟩⟩
end K01
end
section
set_option maxRecDepth 100000
set_option maxHeartbeats 1000000
namespace K01
open PySem L2 Mi
local macro_rules | `(tactic| walk_at "ev") => `(tactic| simp only [Wp_ok, Wp_bind, Wp_quiet, WpS_fl, WpS_then, Nx_nx, Nx_rt, Nx_bk, Nx_ct, mVar_ap, mC_ap, mOp_ap, mUn_ap, mB_ap, mTru_ap, mAnd_ap, mOr_ap, mNot_ap,
  bAnd_ap, bOr_ap, bNot_ap, bYes_ap, mIf_ap, mNil_ap, mCons_ap, mTup_ap, mLst_ap, mLstR_ap, mDic0_ap, mCall_ap, mCb_ap, mMb_ap, mStr_ap, mRevT_ap, mPart_ap, mNoPart_ap, mSl_ap, mChain_ap, itL_ap, itT_ap, itS_ap, itR1_ap,
  sNil_ap, sSeq_ap, sIf_ap, sRet_ap, sRetN_ap, sBrk_ap, sCnt_ap, sExp_ap, sAsg_ap, sPar_ap, sPar3_ap, tgN_ap, tgNil_ap, tgCons_ap, sSetIx_ap, sFor_ap, Wp_mLc,
  List.map_cons, List.map_nil, List.cons_append, List.nil_append, List.replicate_succ, List.replicate_zero, List.getElem?_cons_zero, List.getElem?_cons_succ, List.set_cons_zero, List.set_cons_succ, List.length_cons, List.length_nil,
  Option.some.injEq, Option.bind_some, exists_eq_left, exists_eq_left', true_and, and_true, D.bl.injEq, D.int.injEq, D.str.injEq, D.ref.injEq, D.tup.injEq, D.lst.injEq, List.cons.injEq, if_true, if_false, Bool.false_eq_true, reduceCtorEq, false_and, and_false, or_false, false_or, exists_false])
local macro_rules | `(tactic| walk_at "isi") => `(tactic| simp only [isi_NoneType_bool, isi_NoneType_int, isi_NoneType_str, isi_NoneType_tuple, isi_NoneType_list, isi_NoneType_dict, isi_bool_bool, isi_bool_int, isi_bool_str, isi_bool_tuple, isi_bool_list, isi_bool_dict,
  isi_int_bool, isi_int_int, isi_int_str, isi_int_tuple, isi_int_list, isi_int_dict, isi_str_bool, isi_str_int, isi_str_str, isi_str_tuple, isi_str_list, isi_str_dict, isi_tuple_bool, isi_tuple_int, isi_tuple_str, isi_tuple_tuple, isi_tuple_list, isi_tuple_dict,
  isi_list_bool, isi_list_int, isi_list_str, isi_list_tuple, isi_list_list, isi_list_dict, isi_dict_bool, isi_dict_int, isi_dict_str, isi_dict_tuple, isi_dict_list, isi_dict_dict, tru_bl, tru_non, Option.some.injEq, exists_eq_left', exists_eq_left, if_true, if_false, Bool.false_eq_true, Bool.not_true, Bool.not_false, true_and, false_and, or_false, false_or, reduceCtorEq, D.bl.injEq])


def flB : D → Bool
  | .non => true
  | .bl _ => true
  | .int _ => true
  | .str x => decide (x.length ≤ 1000) && x.cps.toList.all fun c => decide (c < 0x110000)
  | .lst _ => true
  | .dic _ => true
  | _ => false
def thB : Nat → D → Bool
  | 0, d => flB d
  | k + 1, d => flB d || match d with
    | .tup xs => decide (xs.length ≤ 1000) && xs.all (thB k)
    | _ => false
theorem flB_ok {d : D} (h : flB d = true) : Flat d := by
  cases d with
  | non => exact .inl rfl
  | bl b => exact fl_bl
  | int i => exact fl_int
  | str x =>
    simp only [flB, Bool.and_eq_true, decide_eq_true_eq, List.all_eq_true] at h
    exact fl_str ⟨h.1, fun c hc => h.2 c hc⟩
  | lst xs => exact fl_lst
  | dic kvs => exact fl_dic
  | _ => cases h
theorem thB_ok : ∀ {k : Nat} {d : D}, thB k d = true → Th k d
  | 0, _, h => flB_ok h
  | k + 1, d, h => by
    simp only [thB, Bool.or_eq_true] at h
    rcases h with h | h
    · exact .inl (flB_ok h)
    · split at h
      · rename_i xs
        simp only [Bool.and_eq_true, decide_eq_true_eq, List.all_eq_true] at h
        exact .inr ⟨xs, rfl, h.1, fun x hx => thB_ok (h.2 x hx)⟩
      · cases h
def shB (d : D) : Bool := match shD d with
  | some x => x.showable && (decide (x.depth ≤ 60) && decide (x.shown.length ≤ 1000))
  | none => false
theorem shB_ok {d : D} (h : shB d = true) : ∃ x, ∀ s, cbShow s [d] = some (.str x) := by
  unfold shB at h
  split at h
  · rename_i x e
    simp only [Bool.and_eq_true, decide_eq_true_eq] at h
    exact ⟨x.shown, fun s => by
      simp only [cbShow, e]
      exact if_pos ⟨h.1, h.2.1, Nat.le_trans h.2.2 (by decide)⟩⟩
  · cases h
def askB (d : D) : Bool := thB 8 d && shB d
theorem askB_ok {xs : List D} (h : xs.all askB = true) : ∀ x ∈ xs, Askd x := fun x hx => by
  have := List.all_eq_true.mp h x hx
  simp only [askB, Bool.and_eq_true] at this
  exact ⟨thB_ok this.1, shB_ok this.2⟩
def HA : List D := [.int 1000000, .int 1000001, .int (-1000000), .int (-1000001), .int 1000000000000000000000000000000, .bl true, .bl false, .non, .str "", .str (repS "a" 20), .str (repS "a" 21)]
def HB : List D := [.str "A", .str "#", .str "?", .str ("#" ++ repS "a" 80), .str ("#" ++ repS "a" 81), .str ("?" ++ repS "a" 80), .str ("?" ++ repS "a" 81), .str "##", .str "#?", .str "?#"]
def HC : List D := [.str "#a b", .str "a.b", .str "a/b", .str "a[0]", .str "#a.b/c[0]-1", .str "?a.b/c[0]-1", .str "?A", .str "-", .str "--", .str "#-", .str " ", .str "a\n"]
def e0 : D := .tup []
def HD : List D := [.str "#\n", .tup [], .tup (List.replicate 16 (.int 1)), .tup (List.replicate 17 (.int 1)), .tup [.tup []], .tup [.tup [.tup []]], .tup [.tup [.tup [.tup []]]], .tup [.tup [.tup [.int 1]]], .tup [.tup [.tup [.tup [.int 1]]]]]
def HE : List D := [.tup [.tup [.tup []], .int 1, .str "a"]]
def HF : List D := [.lst [], .lst [.int 1], .tup [.lst [.int 1]], .dic [], .dic [(.inr "a", .int 1)], .tup [.dic []], .tup [.non], .tup [.str "A"], .tup [.tup [.int 10000000]], .tup [.tup [.tup [], .tup [.tup [], .tup []]]]]
def SG : Str := "!$&()*+,:;<=>@^_`{|}~ 5z"
def HG : List D := signs SG
def HH : List D := SG.cps.toList.map fun c => .str ("#" ++ ⟨#[c]⟩)
def HI : List D := SG.cps.toList.map fun c => .str ("?" ++ ⟨#[c]⟩)
theorem hand_ask : (HA ++ HB ++ HC ++ HD ++ HE ++ HF ++ HG ++ HH ++ HI).all askB = true := by decide +kernel
end K01
end
section
set_option maxRecDepth 100000
set_option maxHeartbeats 1000000
namespace Mi
open PySem L2
/-! ### the calculus for what came later -/
section
variable {env : Env} {s : Sto} {Q : D → Sto → Prop} {Qs : Fl → Sto → Prop}
theorem mAddR_ap {fa fb : ET} : Wp (mAddR fa fb env s) Q = Wp (fa env s) fun d s1 => Wp (fb env s1) fun e s2 => ∃ xs ys, asL s2 d = some xs ∧ asL s2 e = some ys ∧ xs.length + ys.length ≤ sizeLine ∧ Q (.ref s2.length) (s2 ++ [.lst true (xs ++ ys)]) := by
  simp only [mAddR, Wp_bind]
  congr; funext d s1; congr; funext e s2
  cases asL s2 d <;> cases asL s2 e <;> simp
  rename_i xs ys
  split
  · rename_i h; simp [h]
  · rename_i h; simp [h]
theorem mApp_ap {fo fv : ET} : Wp (mApp fo fv env s) Q = Wp (fo env s) fun o s1 => ∃ n zs, o = .ref n ∧ s1[n]? = some (.lst true zs) ∧ Wp (fv env s1) fun v s2 => ∃ xs, s2[n]? = some (.lst true xs) ∧ xs.length < sizeLine ∧ Q .non (s2.set n (.lst true (xs ++ [v]))) := by
  simp only [mApp, Wp_bind]
  congr; funext o s1
  cases o with
  | ref n =>
    simp
    cases h : s1[n]? with
    | none => simp
    | some ob =>
      cases ob with
      | lst m xs =>
        cases m with
        | false => simp
        | true =>
          simp
          apply iff_of_eq
          congr; funext v s2
          cases h2 : s2[n]? with
          | none => simp
          | some ob =>
            cases ob with
            | lst m xs =>
              cases m with
              | false => simp
              | true =>
                simp
                split
                · rename_i h; simp [h]
                · rename_i h; simp [h]
            | _ => simp
      | _ => simp
  | _ => simp
theorem mDic1_ap {x : Str} {fv : ET} : Wp (mDic1 x fv env s) Q = Wp (fv env s) fun v s2 => Q (.dic [(.inr x, v)]) s2 := by simp [mDic1]
theorem mCm_ap {nm : Str} {F : FT} {fs : AT} : Wp (mCm nm F fs env s) Q = Wp (fs env s) fun ds s1 => Wp (F (.cls nm :: ds) s1) Q := by simp [mCm]
theorem mkK_ap {nm pa : Str} {F : FT} {kvs : List (Key × D)} : Wp (mkK nm pa F kvs s) Q = ∃ ks, strKeys kvs = some ks ∧ (ks.all (fun k => decide (k ≠ pa)) = true ∧ ks.length ≤ 1000) ∧ Wp (F [.ref s.length, .dic kvs] (s ++ [.ins true nm []])) fun v s2 => v = .non ∧ Q (.ref s.length) s2 := by
  simp only [mkK]
  cases strKeys kvs with
  | none => simp
  | some ks =>
    simp only [Option.some.injEq, exists_eq_left']
    split
    · rename_i h
      simp only [Wp_bind, Wp_quiet, h, and_self, true_and]
      congr; funext v s2
      cases v <;> simp
    · rename_i h
      simp only [Wp_no, h, false_and]
theorem mMk0_ap {nm pa : Str} {F : FT} : Wp (mMk0 nm pa F env s) Q = Wp (mkK nm pa F [] s) Q := rfl
theorem mMkV_ap {nm pa : Str} {F : FT} {j i : Nat} : Wp (mMkV nm pa F j i env s) Q = ∃ kvs, env[j]? = some (some (.cls nm)) ∧ env[i]? = some (some (.dic kvs)) ∧ Wp (mkK nm pa F kvs s) Q := by
  unfold mMkV
  split
  · rename_i nm' kvs h1 h2
    rw [h1, h2]
    simp only [Option.some.injEq, D.cls.injEq, D.dic.injEq]
    split
    · rename_i e; subst e; simp
    · rename_i e; simp [e]
  · rename_i h
    refine propext ⟨fun q => q.elim, fun ⟨kvs, a, b, _⟩ => (h _ _ a b).elim⟩
theorem sSetF_ap {nm f : Str} {fv fo : ET} : WpS (sSetF nm f fv fo env s) Qs = Wp (fv env s) fun v s1 => Wp (fo env s1) fun o s2 => ∃ n fs, o = .ref n ∧ s2[n]? = some (.ins true nm fs) ∧ fs.length < 1000 ∧ Qs (.nx env) (s2.set n (.ins true nm (putFD f v fs))) := by
  simp only [sSetF, WpS_st]
  congr; funext v s1; congr; funext o s2
  cases o with
  | ref n =>
    simp
    cases h : s2[n]? with
    | none => simp
    | some ob =>
      cases ob with
      | ins m nm' fs =>
        cases m with
        | false => simp
        | true =>
          simp
          by_cases e : nm' = nm
          · subst e
            by_cases l : fs.length < 1000 <;> simp [l]
          · simp [e]
      | _ => simp
  | _ => simp
theorem itK_ap {i : Nat} {Qi : List D × (Sto → Prop) → Sto → Prop} : Wp (itK i env s) Qi = ∃ kvs, env[i]? = some (some (.dic kvs)) ∧ (kvs.all fun kv => keyOk kv.1) = true ∧ Qi (kvs.map fun kv => kD kv.1, fun _ => True) s := by
  unfold itK
  split
  · rename_i kvs h
    rw [h]
    split
    · rename_i e; simp only [Wp_ok]
      refine propext ⟨fun q => ⟨kvs, rfl, e, q⟩, fun ⟨k, a, b, c⟩ => ?_⟩
      cases a; exact c
    · rename_i e
      refine propext ⟨fun q => q.elim, fun ⟨k, a, b, c⟩ => ?_⟩
      cases a; exact absurd b e
  · rename_i h
    refine propext ⟨fun q => q.elim, fun ⟨kvs, a, _⟩ => (h _ a).elim⟩
theorem Wp_mDc {it : IT} {g : Tg} {bt : BT} {fk fv : ET} {vs : List Nat} : Wp (mDc it g bt fk fv vs env s) Q = Wp (it env s) fun p s1 => Wp (dcGo p.2 g bt fk fv (wipeE env vs) p.1 [] s1) fun ds s2 => Q (.dic ds) s2 := by
  simp [mDc]
theorem Wp_dcGo {G : Sto → Prop} {g : Tg} {bt : BT} {fk fv : ET} {Q : List (Key × D) → Sto → Prop} (I : List D → List (Key × D) → Sto → Prop) (hG : ∀ r acc s, I r acc s → G s)
    (step : ∀ d r acc s, I (d :: r) acc s → ∃ env2, g d env = some env2 ∧ Wp (bt env2 s) fun b s1 => if b then Wp (fk env2 s1) (fun k s2 => Wp (fv env2 s2) fun v s3 => ∃ key, keyOf k = some key ∧ acc.length < sizeLine ∧ I r (putD acc key v) s3) else I r acc s1)
    (fin : ∀ acc s, I [] acc s → Q acc s) : ∀ (ds : List D) (acc : List (Key × D)) (s : Sto), I ds acc s → Wp (dcGo G g bt fk fv env ds acc s) Q
  | [], acc, s, h => by
    rw [dcGo, if_pos (hG _ _ _ h)]
    exact fin acc s h
  | d :: r, acc, s, h => by
    rw [dcGo, if_pos (hG _ _ _ h)]
    obtain ⟨env2, e, q⟩ := step d r acc s h
    rw [e]
    simp only [Wp_bind]
    refine q.mono fun b s1 q1 => ?_
    cases b with
    | false => exact Wp_dcGo I hG step fin r acc s1 (by simpa using q1)
    | true =>
      simp only [if_true] at q1
      simp only [Wp_bind]
      refine q1.mono fun k s2 q2 => q2.mono fun v s3 ⟨key, ek, hl, q3⟩ => ?_
      rw [ek]
      simp only
      rw [if_pos hl]
      exact Wp_dcGo I hG step fin r _ s3 q3
end
end Mi
end
section
set_option maxRecDepth 100000
set_option maxHeartbeats 1000000
namespace K01
open PySem L2 Mi
local macro_rules | `(tactic| walk_at "ev") => `(tactic| simp only [Wp_ok, Wp_bind, Wp_quiet, WpS_fl, WpS_then, Nx_nx, Nx_rt, Nx_bk, Nx_ct, mVar_ap, mC_ap, mOp_ap, mUn_ap, mB_ap, mTru_ap, mAnd_ap, mOr_ap, mNot_ap,
  bAnd_ap, bOr_ap, bNot_ap, bYes_ap, mIf_ap, mNil_ap, mCons_ap, mTup_ap, mLst_ap, mLstR_ap, mDic0_ap, mCall_ap, mCb_ap, mMb_ap, mStr_ap, mRevT_ap, mPart_ap, mNoPart_ap, mSl_ap, mChain_ap, itL_ap, itT_ap, itS_ap, itR1_ap,
  sNil_ap, sSeq_ap, sIf_ap, sRet_ap, sRetN_ap, sBrk_ap, sCnt_ap, sExp_ap, sAsg_ap, sPar_ap, sPar3_ap, tgN_ap, tgNil_ap, tgCons_ap, sSetIx_ap, sFor_ap, Wp_mLc,
  List.map_cons, List.map_nil, List.cons_append, List.nil_append, List.replicate_succ, List.replicate_zero, List.getElem?_cons_zero, List.getElem?_cons_succ, List.set_cons_zero, List.set_cons_succ, List.length_cons, List.length_nil,
  Option.some.injEq, Option.bind_some, exists_eq_left, exists_eq_left', true_and, and_true, D.bl.injEq, D.int.injEq, D.str.injEq, D.ref.injEq, D.tup.injEq, D.lst.injEq, List.cons.injEq, if_true, if_false, Bool.false_eq_true, reduceCtorEq, false_and, and_false, or_false, false_or, exists_false])
local macro_rules | `(tactic| walk_at "isi") => `(tactic| simp only [isi_NoneType_bool, isi_NoneType_int, isi_NoneType_str, isi_NoneType_tuple, isi_NoneType_list, isi_NoneType_dict, isi_bool_bool, isi_bool_int, isi_bool_str, isi_bool_tuple, isi_bool_list, isi_bool_dict,
  isi_int_bool, isi_int_int, isi_int_str, isi_int_tuple, isi_int_list, isi_int_dict, isi_str_bool, isi_str_int, isi_str_str, isi_str_tuple, isi_str_list, isi_str_dict, isi_tuple_bool, isi_tuple_int, isi_tuple_str, isi_tuple_tuple, isi_tuple_list, isi_tuple_dict,
  isi_list_bool, isi_list_int, isi_list_str, isi_list_tuple, isi_list_list, isi_list_dict, isi_dict_bool, isi_dict_int, isi_dict_str, isi_dict_tuple, isi_dict_list, isi_dict_dict, tru_bl, tru_non, Option.some.injEq, exists_eq_left', exists_eq_left, if_true, if_false, Bool.false_eq_true, Bool.not_true, Bool.not_false, true_and, false_and, or_false, false_or, reduceCtorEq, D.bl.injEq])

theorem mul_strK {s : Sto} {x : Str} {k : Nat} (h : 2 ≤ k ∧ k ≤ 1000 ∧ x.length ≤ 1000) : opMul s (.str x) (.int (k : Int)) = some (.str (repS x k)) := if_pos ⟨by omega, by omega, h.2.2⟩
theorem rep_one {d : D} : ∀ k : Nat, (List.replicate k [d]).flatten = List.replicate k d
  | 0 => rfl
  | k + 1 => by rw [List.replicate_succ, List.flatten_cons, List.replicate_succ, rep_one k]; rfl
theorem mul_tupK {s : Sto} {d : D} {k : Nat} (h : 2 ≤ k ∧ k ≤ 1000) : opMul s (.tup [d]) (.int (k : Int)) = some (.tup (List.replicate k d)) := by
  simp only [opMul]
  rw [if_neg (by simp), if_pos ⟨by simp, by omega, by omega, by simp⟩]
  simp only [Int.toNat_natCast]
  rw [rep_one]
theorem lc_signsK {env : Mi.Env} {s : Sto} {i : Nat} {t m : Str} (hi : i < env.length) (hl : t.length ≤ 1000) (hm : m.length ≤ 1000) :
    Wp (lcGo (fun _ => True) (tgN i) bYes (mOp opAdd (mC (.str m)) (mVar i)) env (signs t) [] s) fun out s' => s' = s ∧ out = t.cps.toList.map fun c => .str (m ++ ⟨#[c]⟩) := by
  have ls : (signs t).length = t.length := by simp [signs, TL.len_tl]
  have sl : sizeLine = 16777216 := sizeLine_eq
  refine Wp.mono (lc_map (G := fun _ => True) (g := tgN i) (fe := mOp opAdd (mC (.str m)) (mVar i)) (env := env) (s := s) (f := fun d => match d with | .str x => .str (m ++ x) | d => d) trivial (signs t) [] ?h (by rw [ls]; simp; omega)) ?k
  case h =>
    intro d hd
    obtain ⟨c, hc, rfl⟩ := List.mem_map.mp hd
    refine ⟨_, rfl, ?_⟩
    walk_at "ev"
    exact ⟨_, List.getElem?_set_self hi, _, add_str (by have : (⟨#[c]⟩ : Str).length = 1 := rfl; omega), rfl⟩
  case k =>
    intro out s' ⟨e, e2⟩
    refine ⟨e, ?_⟩
    rw [e2]; simp [signs]
theorem lc_signsI {env : Mi.Env} {s : Sto} {i : Nat} {t : Str} (hi : i < env.length) (hl : t.length ≤ 1000) :
    Wp (lcGo (fun _ => True) (tgN i) bYes (mVar i) env (signs t) [] s) fun out s' => s' = s ∧ out = signs t := by
  have ls : (signs t).length = t.length := by simp [signs, TL.len_tl]
  refine Wp.mono (lc_map (G := fun _ => True) (g := tgN i) (fe := mVar i) (env := env) (s := s) (f := id) trivial (signs t) [] ?h (by rw [ls]; simp; omega)) ?k
  case h =>
    intro d hd
    refine ⟨_, rfl, ?_⟩
    walk_at "ev"
    exact ⟨_, List.getElem?_set_self hi, rfl⟩
  case k =>
    intro out s' ⟨e, e2⟩
    refine ⟨e, ?_⟩
    rw [e2]; simp
theorem add_refL {s : Sto} {n : Nat} {m : Bool} {xs ys : List D} (h : s[n]? = some (.lst m xs)) (hl : xs.length + ys.length ≤ sizeLine) : opAdd s (.ref n) (.lst ys) = some (.lst (xs ++ ys)) := by simp [opAdd, asL, h, hl]
theorem hand_all {s : Sto} : Wp (F__law_by_hand [] s) fun v _ => v = .lst (HA ++ HB ++ HC ++ HD ++ HE ++ HF ++ HG ++ HH ++ HI) := by
  have sl : sizeLine = 16777216 := sizeLine_eq
  rw [F__law_by_hand, mFun_ap (n := 0) rfl, b__law_by_hand]
  simp only [List.map_cons, List.map_nil, List.cons_append, List.nil_append, List.replicate_succ, List.replicate_zero]
  refine seqK (fun e s' => e = [some (.lst HA), none, none] ∧ s = s') ?_ ?_
  · walk_at "ev"
    refine ⟨_, pow_nn (j := 6) (k := 4) (by decide) (by decide) (by decide), _, pow_nn (j := 6) (k := 4) (by decide) (by decide) (by decide), _, rfl, _, pow_nn (j := 6) (k := 4) (by decide) (by decide) (by decide), _, rfl, _, pow_nn (j := 6) (k := 4) (by decide) (by decide) (by decide), _, rfl, _, rfl, _, pow_nn (j := 30) (k := 4) (by decide) (by decide) (by decide), ?_⟩
    exact ⟨_, mul_strK (k := 20) (by decide), _, mul_strK (k := 21) (by decide), by decide, by rfl⟩
  rintro _ _ ⟨rfl, rfl⟩
  refine seqK (fun e s' => e = [some (.lst (HA ++ HB)), none, none] ∧ s = s') ?_ ?_
  · walk_at "ev"
    exact ⟨_, mul_strK (k := 80) (by decide), _, add_str (by decide), _, mul_strK (k := 81) (by decide), _, add_str (by decide), _, mul_strK (k := 80) (by decide), _, add_str (by decide), _, mul_strK (k := 81) (by decide), _, add_str (by decide), by decide, _, add_lst (by decide), rfl⟩
  rintro _ _ ⟨rfl, rfl⟩
  refine seqK (fun e s' => e = [some (.lst (HA ++ HB ++ HC)), none, none] ∧ s = s') ?_ ?_
  · walk_at "ev"
    exact ⟨by decide, _, add_lst (by decide), rfl⟩
  rintro _ _ ⟨rfl, rfl⟩
  refine seqK (fun e s' => e = [some (.ref s.length), none, none] ∧ s' = s ++ [.lst true (HA ++ HB ++ HC ++ HD)]) ?_ ?_
  · simp only [mAddR_ap, sAsg_ap]
    walk_at "ev"
    refine ⟨by decide, by decide, _, mul_tupK (k := 16) (by decide), by decide, _, mul_tupK (k := 17) (by decide), ?_⟩
    repeat (first | exact ⟨_, _, rfl, rfl, by decide, rfl⟩ | refine ⟨by decide, ?_⟩)
  rintro _ _ ⟨rfl, rfl⟩
  refine seqK (fun e s' => e = [some (.ref s.length), none, none] ∧ s' = s ++ [.lst true (HA ++ HB ++ HC ++ HD ++ HE)]) ?_ ?_
  · simp only [mApp_ap, sExp_ap]
    walk_at "ev"
    refine ⟨_, _, rfl, List.getElem?_concat_length, ?_⟩
    refine ⟨by decide, by decide, by decide, _, List.getElem?_concat_length, by decide, ?_⟩
    simp [HE]
  rintro _ _ ⟨rfl, rfl⟩
  refine seqK (fun e s' => e = [some (.lst (HA ++ HB ++ HC ++ HD ++ HE ++ HF)), none, none]) ?_ ?_
  · rw [sAsg_ap, mOp_ap, mVar_ap]
    refine ⟨_, rfl, ?_⟩
    rw [mLst_ap]
    simp only [mDic1_ap, mCons_ap]
    walk_at "ev"
    refine ⟨by decide, by decide, by decide, by decide, by decide, by decide, by decide, _, pow_nn (j := 7) (k := 4) (by decide) (by decide) (by decide), ?_⟩
    repeat (first | exact ⟨_, add_refL List.getElem?_concat_length (by decide), rfl⟩ | refine ⟨by decide, ?_⟩)
  rintro _ s rfl
  walk_at "ev"
  refine (lc_signsI (t := SG) (by decide) (by decide)).mono fun out s1 ⟨e1, e2⟩ => ?_
  subst e1; subst e2
  refine ⟨_, add_lst (by decide), ?_⟩
  refine (lc_signsK (t := SG) (by decide) (by decide) (by decide)).mono fun out s1 ⟨e1, e2⟩ => ?_
  subst e1; subst e2
  refine ⟨_, add_lst (by decide), ?_⟩
  refine (lc_signsK (t := SG) (by decide) (by decide) (by decide)).mono fun out s1 ⟨e1, e2⟩ => ?_
  subst e1; subst e2
  exact ⟨_, add_lst (by decide), rfl⟩
end K01
end
section
set_option maxRecDepth 100000
set_option maxHeartbeats 1000000
namespace K01
open PySem L2 Mi
local macro_rules | `(tactic| walk_at "ev") => `(tactic| simp only [Wp_ok, Wp_bind, Wp_quiet, WpS_fl, WpS_then, Nx_nx, Nx_rt, Nx_bk, Nx_ct, mVar_ap, mC_ap, mOp_ap, mUn_ap, mB_ap, mTru_ap, mAnd_ap, mOr_ap, mNot_ap,
  bAnd_ap, bOr_ap, bNot_ap, bYes_ap, mIf_ap, mNil_ap, mCons_ap, mTup_ap, mLst_ap, mLstR_ap, mDic0_ap, mCall_ap, mCb_ap, mMb_ap, mStr_ap, mRevT_ap, mPart_ap, mNoPart_ap, mSl_ap, mChain_ap, itL_ap, itT_ap, itS_ap, itR1_ap,
  sNil_ap, sSeq_ap, sIf_ap, sRet_ap, sRetN_ap, sBrk_ap, sCnt_ap, sExp_ap, sAsg_ap, sPar_ap, sPar3_ap, tgN_ap, tgNil_ap, tgCons_ap, sSetIx_ap, sFor_ap, Wp_mLc,
  List.map_cons, List.map_nil, List.cons_append, List.nil_append, List.replicate_succ, List.replicate_zero, List.getElem?_cons_zero, List.getElem?_cons_succ, List.set_cons_zero, List.set_cons_succ, List.length_cons, List.length_nil,
  Option.some.injEq, Option.bind_some, exists_eq_left, exists_eq_left', true_and, and_true, D.bl.injEq, D.int.injEq, D.str.injEq, D.ref.injEq, D.tup.injEq, D.lst.injEq, List.cons.injEq, if_true, if_false, Bool.false_eq_true, reduceCtorEq, false_and, and_false, or_false, false_or, exists_false])
local macro_rules | `(tactic| walk_at "isi") => `(tactic| simp only [isi_NoneType_bool, isi_NoneType_int, isi_NoneType_str, isi_NoneType_tuple, isi_NoneType_list, isi_NoneType_dict, isi_bool_bool, isi_bool_int, isi_bool_str, isi_bool_tuple, isi_bool_list, isi_bool_dict,
  isi_int_bool, isi_int_int, isi_int_str, isi_int_tuple, isi_int_list, isi_int_dict, isi_str_bool, isi_str_int, isi_str_str, isi_str_tuple, isi_str_list, isi_str_dict, isi_tuple_bool, isi_tuple_int, isi_tuple_str, isi_tuple_tuple, isi_tuple_list, isi_tuple_dict,
  isi_list_bool, isi_list_int, isi_list_str, isi_list_tuple, isi_list_list, isi_list_dict, isi_dict_bool, isi_dict_int, isi_dict_str, isi_dict_tuple, isi_dict_list, isi_dict_dict, tru_bl, tru_non, Option.some.injEq, exists_eq_left', exists_eq_left, if_true, if_false, Bool.false_eq_true, Bool.not_true, Bool.not_false, true_and, false_and, or_false, false_or, reduceCtorEq, D.bl.injEq])

theorem odd_rec {s : Sto} {n : Nat} {m : Bool} {fs : List (Str × D)} (h : s[n]? = some (.ins m "Record" fs)) : Odd s (.ref n) := by
  intro T hT
  simp only [isiX, clsD, h, if_true]
theorem lf_rec {s : Sto} {n : Nat} {m : Bool} {fs : List (Str × D)} (h : s[n]? = some (.ins m "Record" fs)) : Lf s (.ref n) :=
  ⟨odd_rec h "tuple" (by simp), plain_odd (odd_rec h), by simp⟩
theorem value_rec {s : Sto} {n : Nat} {m : Bool} {fs : List (Str × D)} (h : s[n]? = some (.ins m "Record" fs)) : Wp (F_is_value [.ref n] s) fun v s' => s' = s ∧ v = .bl false :=
  is_value_ok (k := 0) (by omega) (lf_rec h)
theorem value_rect {s : Sto} {n : Nat} {m : Bool} {fs : List (Str × D)} (h : s[n]? = some (.ins m "Record" fs)) : Wp (F_is_value [.tup [.ref n]] s) fun v s' => s' = s ∧ v = .bl false := by
  have : valB (.tup [.ref n]) = false := rfl
  rw [← this]
  exact is_value_ok (k := 1) (by omega) (.inr ⟨_, rfl, by simp, fun x hx => by rw [List.mem_singleton.mp hx]; exact lf_rec h⟩)
theorem value_dic {s : Sto} {kvs : List (Key × D)} : Wp (F_is_value [.dic kvs] s) fun v s' => s' = s ∧ v = .bl false :=
  is_value_ok (k := 0) (by omega) (lf_flat (.inr (.inr (.inr (.inr (.inr ⟨_, rfl⟩))))))
abbrev LET : Str := "abcdefghijklmnopqrstuvwxyz"
theorem name_a {s : Sto} : Wp (F_is_name [.str "a"] s) fun v s' => s' = s ∧ v = .bl true := by
  rw [F_is_name, mFun_ap (n := 1) rfl, b_is_name]
  walk_at "ev"
  refine ⟨_, isi_str_str .., .inl ⟨rfl, _, rfl, ?_⟩⟩
  refine .inl ⟨rfl, _, rfl, .inl ⟨rfl, ?_⟩⟩
  refine (lc_signsC (t := "a") (sg := LET) (by decide) (by decide)).mono fun out s1 ⟨e1, e2⟩ => ?_
  subst e1; subst e2
  exact ⟨_, rfl, rfl, by rfl⟩
theorem ne_self {s : Sto} : opNe s (.str "a") (.str "self") = some (.bl true) := by
  rw [ne_strs]; rfl
theorem all_true {ds : List D} (h : ∀ d ∈ ds, d = .bl true) {s : Sto} : cbAll s [.lst ds] = some (.bl true) := by
  have e : ds = (List.replicate ds.length true).map .bl := by
    induction ds with
    | nil => rfl
    | cons d r ih =>
      rw [List.length_cons, List.replicate_succ, List.map_cons, ← ih fun x hx => h x (List.mem_cons_of_mem _ hx), h d List.mem_cons_self]
  rw [all_bls e]
  simp
def Kv (kvs : List (Key × D)) : Prop := kvs = [] ∨ ∃ d, kvs = [(.inr "a", d)]
theorem check_ok {s : Sto} {kvs : List (Key × D)} (h : Kv kvs) : Wp (F_check_parts [.dic kvs] s) fun v s' => s' = s := by
  have hl : kvs.length ≤ 1 := by rcases h with rfl | ⟨d, rfl⟩ <;> simp
  have hk : (kvs.all fun kv => keyOk kv.1) = true := by rcases h with rfl | ⟨d, rfl⟩ <;> rfl
  have hs : ∀ x ∈ kvs.map (fun kv => kD kv.1), x = .str "a" := by rcases h with rfl | ⟨d, rfl⟩ <;> simp [kD]
  rw [F_check_parts, mFun_ap (n := 1) rfl, b_check_parts]
  simp only [sIf_ap, bOr_ap, bNot_ap, mTru_ap, mB_ap, mOp_ap, mCb_ap, mCons_ap, Wp_mLc, itK_ap]
  walk_at "ev"
  refine ⟨_, rfl, _, rfl, _, rfl, ?_⟩
  rw [if_neg (by simp; omega)]
  refine ⟨kvs, rfl, hk, ?_⟩
  refine Wp.mono (lc_map (f := fun _ => .bl true) trivial _ [] ?h (by simp; omega)) ?k
  case h =>
    intro d hd
    rw [hs d hd]
    refine ⟨_, rfl, ?_⟩
    simp only [wipeE]
    walk_at "ev"
    refine name_a.mono fun v s1 ⟨e1, e2⟩ => ?_
    subst e1; subst e2
    exact .inl ⟨rfl, _, ne_self, rfl, by simp⟩
  case k =>
    intro out s1 ⟨e1, e2⟩
    subst e1
    refine ⟨_, all_true (by rw [e2]; simp; intro d x y _ h; exact h.symm), _, rfl, ?_⟩
    simp
theorem init_ok {s : Sto} {n : Nat} {kvs : List (Key × D)} (h : Kv kvs) (hn : s[n]? = some (.ins true "Record" [])) :
    Wp (F_Record___init__ [.ref n, .dic kvs] s) fun v s' => v = .non ∧ ∃ fs, s' = s.set n (.ins true "Record" fs) := by
  rw [F_Record___init__, mFun_ap (n := 2) rfl, b_Record___init__]
  simp only [List.map_cons, List.map_nil, List.cons_append, List.nil_append, List.replicate_succ, List.replicate_zero]
  refine seqK (fun e s' => e = [some (.ref n), some (.dic kvs), none] ∧ s' = s) ?_ ?_
  · walk_at "ev"
    exact (check_ok h).mono fun v s1 e1 => e1
  rintro _ s ⟨rfl, rfl⟩
  simp only [sSetF_ap, Wp_mDc, itL_ap, mCb_ap, mCons_ap]
  walk_at "ev"
  have hs : ∃ ks, cbSortD s [.dic kvs] = some (.lst ks) ∧ (∀ k ∈ ks, k = .str "a" ∧ ∃ d, valD kvs (.inr "a") = some d) ∧ ks.length ≤ 1 := by
    rcases h with rfl | ⟨d, rfl⟩
    · exact ⟨[], by simp [cbSortD, strKeys, srtS], by simp, by simp⟩
    · exact ⟨[.str "a"], by simp [cbSortD, strKeys, srtS]; decide, by simp [valD], by simp⟩
  obtain ⟨ks, e1, e2, e3⟩ := hs
  refine ⟨_, e1, ks, rfl, ?_⟩
  refine Wp_dcGo (fun r acc s' => s' = s ∧ (∀ k ∈ r, k = .str "a" ∧ ∃ d, valD kvs (.inr "a") = some d) ∧ acc.length + r.length ≤ 1000) ?_ ?_ ?_ ks [] s ⟨rfl, e2, by simp; omega⟩
  · rintro r acc _ ⟨rfl, _⟩; rfl
  · rintro d r acc _ ⟨rfl, h2, h3⟩
    obtain ⟨rfl, v, hv⟩ := h2 _ List.mem_cons_self
    refine ⟨_, rfl, ?_⟩
    simp only [wipeE]
    walk_at "ev"
    refine ⟨v, hv, _, rfl, ?_, fun k hk => h2 k (List.mem_cons_of_mem _ hk), ?_⟩
    · have sl : sizeLine = 16777216 := sizeLine_eq
      omega
    · rw [List.length_cons] at h3
      unfold putD
      split <;> simp <;> omega
  · rintro acc _ ⟨rfl, _⟩
    exact ⟨n, [], rfl, hn, by simp, _, rfl⟩
theorem mk_ok {s : Sto} {kvs : List (Key × D)} (h : Kv kvs) : Wp (mkK "Record" "this_record" F_Record___init__ kvs s) fun v s' => ∃ n fs, v = .ref n ∧ s'[n]? = some (.ins true "Record" fs) := by
  rw [mkK_ap]
  refine ⟨kvs.map fun _ => "a", by rcases h with rfl | ⟨d, rfl⟩ <;> rfl, ⟨by rcases h with rfl | ⟨d, rfl⟩ <;> rfl, by rcases h with rfl | ⟨d, rfl⟩ <;> simp⟩, ?_⟩
  refine (init_ok h List.getElem?_concat_length).mono fun v s1 ⟨e1, fs, e2⟩ => ?_
  refine ⟨e1, _, fs, rfl, ?_⟩
  rw [e2]
  exact List.getElem?_set_self (by simp)
theorem of_ok {s : Sto} : Wp (F_Record_of [.cls "Record", .tup [.tup [.str "a", .int 1]]] s) fun v s' => ∃ n fs, v = .ref n ∧ s'[n]? = some (.ins true "Record" fs) := by
  rw [F_Record_of, mFun_ap (n := 2) rfl, b_Record_of]
  simp only [List.map_cons, List.map_nil, List.cons_append, List.nil_append, List.replicate_succ, List.replicate_zero]
  refine seqK (fun e s' => ∃ a b, e = [some (.cls "Record"), some (.tup [.tup [.str "a", .int 1]]), some (.dic [(.inr "a", .int 1)]), a, b]) ?_ ?_
  · simp only [sAsg_ap, Wp_mDc]
    walk_at "ev"
    refine Wp_dcGo (fun r acc s' => (r = [.tup [.str "a", .int 1]] ∧ acc = []) ∨ (r = [] ∧ acc = [(.inr "a", .int 1)])) (fun _ _ _ _ => trivial) ?_ ?_ _ _ _ (.inl ⟨rfl, rfl⟩)
    · rintro d r acc s (⟨h1, rfl⟩ | ⟨h1, _⟩)
      · cases h1
        refine ⟨_, rfl, ?_⟩
        walk_at "ev"
        exact ⟨_, rfl, _, rfl, _, rfl, by decide, rfl⟩
      · cases h1
    · rintro acc s (⟨h1, _⟩ | ⟨_, rfl⟩)
      · cases h1
      · exact ⟨_, _, rfl, rfl, rfl⟩
  rintro _ s ⟨a, b, rfl⟩
  refine seqK (fun e s' => e = [some (.cls "Record"), some (.tup [.tup [.str "a", .int 1]]), some (.dic [(.inr "a", .int 1)]), a, b]) ?_ ?_
  · walk_at "ev"
    exact (check_ok (.inr ⟨_, rfl⟩)).mono fun v s1 e1 => trivial
  rintro _ s rfl
  rw [sRet_ap, mMkV_ap]
  exact ⟨_, rfl, rfl, mk_ok (.inr ⟨_, rfl⟩)⟩
end K01
end
section
set_option maxRecDepth 100000
set_option maxHeartbeats 1000000
namespace K01
open PySem L2 Mi
local macro_rules | `(tactic| walk_at "ev") => `(tactic| simp only [Wp_ok, Wp_bind, Wp_quiet, WpS_fl, WpS_then, Nx_nx, Nx_rt, Nx_bk, Nx_ct, mVar_ap, mC_ap, mOp_ap, mUn_ap, mB_ap, mTru_ap, mAnd_ap, mOr_ap, mNot_ap,
  bAnd_ap, bOr_ap, bNot_ap, bYes_ap, mIf_ap, mNil_ap, mCons_ap, mTup_ap, mLst_ap, mLstR_ap, mDic0_ap, mCall_ap, mCb_ap, mMb_ap, mStr_ap, mRevT_ap, mPart_ap, mNoPart_ap, mSl_ap, mChain_ap, itL_ap, itT_ap, itS_ap, itR1_ap,
  sNil_ap, sSeq_ap, sIf_ap, sRet_ap, sRetN_ap, sBrk_ap, sCnt_ap, sExp_ap, sAsg_ap, sPar_ap, sPar3_ap, tgN_ap, tgNil_ap, tgCons_ap, sSetIx_ap, sFor_ap, Wp_mLc,
  List.map_cons, List.map_nil, List.cons_append, List.nil_append, List.replicate_succ, List.replicate_zero, List.getElem?_cons_zero, List.getElem?_cons_succ, List.set_cons_zero, List.set_cons_succ, List.length_cons, List.length_nil,
  Option.some.injEq, Option.bind_some, exists_eq_left, exists_eq_left', true_and, and_true, D.bl.injEq, D.int.injEq, D.str.injEq, D.ref.injEq, D.tup.injEq, D.lst.injEq, List.cons.injEq, if_true, if_false, Bool.false_eq_true, reduceCtorEq, false_and, and_false, or_false, false_or, exists_false])
local macro_rules | `(tactic| walk_at "isi") => `(tactic| simp only [isi_NoneType_bool, isi_NoneType_int, isi_NoneType_str, isi_NoneType_tuple, isi_NoneType_list, isi_NoneType_dict, isi_bool_bool, isi_bool_int, isi_bool_str, isi_bool_tuple, isi_bool_list, isi_bool_dict,
  isi_int_bool, isi_int_int, isi_int_str, isi_int_tuple, isi_int_list, isi_int_dict, isi_str_bool, isi_str_int, isi_str_str, isi_str_tuple, isi_str_list, isi_str_dict, isi_tuple_bool, isi_tuple_int, isi_tuple_str, isi_tuple_tuple, isi_tuple_list, isi_tuple_dict,
  isi_list_bool, isi_list_int, isi_list_str, isi_list_tuple, isi_list_list, isi_list_dict, isi_dict_bool, isi_dict_int, isi_dict_str, isi_dict_tuple, isi_dict_list, isi_dict_dict, tru_bl, tru_non, Option.some.injEq, exists_eq_left', exists_eq_left, if_true, if_false, Bool.false_eq_true, Bool.not_true, Bool.not_false, true_and, false_and, or_false, false_or, reduceCtorEq, D.bl.injEq])

theorem ask_of {d : D} {k B : Nat} (ht : Th 8 d) (h : Sz k B d) (hk : k ≤ 60) (hB : B ≤ sizeLine) : Askd d := by
  obtain ⟨x, e, a, b, c⟩ := h
  refine ⟨ht, x.shown, fun s => ?_⟩
  simp only [cbShow, shD, e]
  rw [if_pos ⟨a, by omega, by omega⟩]
theorem bt_ask {d : D} (h : Bt 3 d) : Askd d := ask_of (h.1.up (by omega)) h.2 (by omega) (by decide)
theorem vd_ask {d : D} (h : Vd 3 d) : Askd d := ask_of ((vd_th h).up (by omega)) (vd_sz h) (by omega) (by decide)
theorem all_map_true {ds : List D} {s : Sto} : cbAll s [.lst ([] ++ ds.map fun _ => .bl true)] = some (.bl true) :=
  all_true fun d hd => by
    rw [List.nil_append] at hd
    obtain ⟨_, _, rfl⟩ := List.mem_map.mp hd
    rfl
theorem lc_any {g : Tg} {fe : ET} {env : Mi.Env} {P : D → Prop} : ∀ (ds acc : List D) (s : Sto), (∀ d ∈ ds, ∃ e2, g d env = some e2 ∧ ∀ s, Wp (fe e2 s) fun y _ => P y) → acc.length + ds.length ≤ 1000000 → (∀ x ∈ acc, P x) →
      Wp (lcGo (fun _ => True) g bYes fe env ds acc s) fun out _ => ∀ x ∈ out, P x
  | [], acc, s, _, _, ha => by
    rw [lcGo, if_pos True.intro]
    exact ha
  | d :: r, acc, s, h, hl, ha => by
    obtain ⟨e2, he, hw⟩ := h d List.mem_cons_self
    rw [lcGo, if_pos True.intro, he]
    rw [List.length_cons] at hl
    walk_at "ev"
    refine (hw s).mono fun y s1 hy => ?_
    rw [if_pos (Nat.lt_of_lt_of_le (show acc.length < 1000001 by omega) (by decide))]
    refine lc_any r (acc ++ [y]) s1 (fun x hx => h x (List.mem_cons_of_mem _ hx)) (by simp; omega) fun x hx => ?_
    rcases List.mem_append.mp hx with hx | hx
    · exact ha x hx
    · rw [List.mem_singleton.mp hx]; exact hy
theorem ite_both {b : Bool} {P Q : Prop} (hp : P) (hq : Q) : if b = true then P else Q := by
  cases b
  · exact hq
  · exact hp
theorem pot_ok {s : Sto} {ns : List Int} {k : Int} (h0 : 0 ≤ k) (h3 : k < 3) : Wp (F__law_pot [.scr ns, .int k] s) fun v s' => ∃ n, v = .ref n ∧ PotAt s' n 0 := by
  rw [F__law_pot, mFun_ap (n := 2) rfl, b__law_pot]
  simp only [List.map_cons, List.map_nil, List.cons_append, List.nil_append, List.replicate_succ, List.replicate_zero]
  refine seqK (fun e s' => ∃ c, e = [some (.scr ns), some (.int k), some (.int c), none]) ?_ ?_
  · walk_at "ev"
    refine ⟨_, rfl, _, rfl, _, rfl, ?_⟩
    by_cases c : k < (ns.length : Int)
    · rw [if_pos (decide_eq_true c)]
      obtain ⟨x, hx, _⟩ := at_lt h0 c
      exact ⟨.int x, by show (atI ns k).map _ = _; rw [hx]; rfl, x, rfl⟩
    · rw [if_neg (by simpa using c)]
      exact ⟨_, mul_l (by decide) (by decide), _, rfl, _, rfl⟩
  rintro _ s ⟨c, rfl⟩
  refine seqK (fun e s' => ∃ g : Int, e = [some (.scr ns), some (.int k), some (.int c), some (.int g)] ∧ 0 ≤ g) ?_ ?_
  · walk_at "ev"
    refine ⟨_, rfl, _, pow_nn (j := 18) (k := 4) (by decide) (by decide) (by decide), _, rfl, _, rfl, ?_⟩
    refine ite_both ?_ (by decide)
    refine ⟨_, rfl, _, pow_nn (j := 60) (k := 4) (by decide) (by decide) (by decide), _, pow_nn (j := 3) (k := 200) (by decide) (by decide) (by decide), _, mod_pos (by decide), _, rfl, Int.emod_nonneg _ (by decide)⟩
  rintro _ s ⟨g, rfl, hg⟩
  walk_at "ev"
  have b1 := Int.emod_nonneg c (show (2305843009213693951 : Int) ≠ 0 by decide)
  have b2 := Int.emod_lt_of_pos c (show (0 : Int) < 2305843009213693951 by decide)
  refine ⟨_, mod_pos (by decide), _, mul_r (by decide) (by decide), _, mul_l (by decide) (by decide), _, mul_r (by omega) (by omega), _, rfl, _, rfl, _, mod_pos (by decide), by decide, g, _, 0, List.getElem?_concat_length, hg, ?_, ?_, by decide, by decide⟩
  · exact Int.emod_nonneg _ (by decide)
  · exact Int.lt_trans (Int.emod_lt_of_pos _ (by decide)) (by decide)
theorem right_ok {s : Sto} {n : Nat} (h : PotAt s n 0) : Wp (F__law_right [.ref n] s) fun v _ => v = .bl true := by
  rw [F__law_right, mFun_ap (n := 1) rfl, b__law_right]
  simp only [List.map_cons, List.map_nil, List.cons_append, List.nil_append, List.replicate_succ, List.replicate_zero]
  have c3 : valC 3 = 133800 := by decide
  have cb : bentC 3 = 12 := rfl
  refine seqK (fun e s' => True) ?_ ?_
  · walk_at "ev"
    refine ⟨by decide, ?_⟩
    refine WpS_forGo (fun r e s => (∃ a b c, e = [some (.ref n), a, b, c]) ∧ ∃ T, PotAt s n T ∧ T + r.length * 200000 ≤ 4000000) (fun _ _ _ _ => trivial) ?step (fun _ _ _ => trivial) _ _ s ⟨⟨_, _, _, rfl⟩, 0, h, by decide⟩
    case step =>
      rintro one r _ s ⟨⟨a, b, c, rfl⟩, T, p, hT⟩
      refine ⟨_, rfl, ?_⟩
      rw [List.length_cons] at hT
      refine seqK (fun e s' => ∃ v c, e = [some (.ref n), some one, some v, c] ∧ Vd 3 v ∧ PotAt s' n (T + 133800)) ?_ ?_
      · walk_at "ev"
        refine (value_ok 3 4 (by decide) p (by omega)).mono fun v s1 ⟨hv, p1, u1⟩ => ?_
        exact ⟨_, _, ⟨rfl, rfl⟩, hv, p1⟩
      rintro _ s ⟨v, c, rfl, hv, p1⟩
      walk_at "ev"
      refine (asked_ok (vd_ask hv)).mono fun w s1 ⟨e1, e2⟩ => ?_
      subst e1; subst e2
      refine ⟨_, rfl, ?_⟩
      simp only [Bool.not_true, Bool.false_eq_true, if_false]
      refine ⟨by decide, ?_⟩
      refine Wp.mono (lc_draw (n := n) (c := bentC 3) (B := 2 ^ 40) (P := fun y => y = .bl true) ?hg (rangeD 0 (6 : Int).toNat) [] s1 (T + 133800) (by decide) (by simp) p1 (by rw [cb]; have : (rangeD 0 (6 : Int).toNat).length = 6 := rfl; omega)) ?_
      case hg =>
        intro d
        refine ⟨_, rfl, fun s T h hT => ?_⟩
        simp only [wipeE]
        walk_at "ev"
        refine (bent_ok 3 4 3 (by decide) (by decide) h (by omega) hv).mono fun v s1 ⟨hv, p1, u1⟩ => ?_
        refine (asked_ok (bt_ask hv)).mono fun w s2 ⟨e1, e2⟩ => ?_
        subst e1
        exact ⟨e2, p1, u1⟩
      intro out s2 ⟨l2, h2, p2, u2⟩
      refine ⟨_, all_true h2, _, rfl, ?_⟩
      simp only [Bool.not_true, Bool.false_eq_true, if_false]
      have : (rangeD 0 (6 : Int).toNat).length = 6 := rfl
      rw [this, cb] at p2
      exact ⟨⟨_, _, _, rfl, rfl, rfl⟩, _, p2, by omega⟩
  intro e s _
  walk_at "ev"
theorem law_mir {s : Sto} (ns : List Int) : Wp (F_law [.scr ns] s) fun v _ => v = .bl true := by
  rw [F_law, mFun_ap (n := 1) rfl, b_law]
  simp only [List.map_cons, List.map_nil, List.cons_append, List.nil_append, List.replicate_succ, List.replicate_zero]
  refine seqK (fun e s' => e = [some (.scr ns), none, none]) ?_ ?_
  · walk_at "ev"
    refine hand_all.mono fun v s1 e1 => ?_
    subst e1
    refine ⟨_, rfl, ?_⟩
    refine Wp.mono (lc_map (f := fun _ => .bl true) (show stays (.lst (HA ++ HB ++ HC ++ HD ++ HE ++ HF ++ HG ++ HH ++ HI)) (HA ++ HB ++ HC ++ HD ++ HE ++ HF ++ HG ++ HH ++ HI) s1 from rfl) _ [] ?h (by decide)) ?_
    case h =>
      intro d hd
      refine ⟨_, rfl, ?_⟩
      simp only [wipeE]
      walk_at "ev"
      exact asked_ok (askB_ok hand_ask d hd)
    intro out s2 ⟨e1, e2⟩
    subst e2
    refine ⟨_, all_map_true, _, rfl, ?_⟩
    simp
  rintro _ s rfl
  refine seqK (fun e s' => e = [some (.scr ns), none, none]) ?_ ?_
  · simp only [sIf_ap, bOr_ap, mTru_ap, mCall_ap, mCm_ap, mCons_ap, mTup_ap, mDic1_ap, mMk0_ap]
    walk_at "ev"
    refine ⟨by decide, by decide, ?_⟩
    refine of_ok.mono fun v s1 ⟨n, fs, e, hn⟩ => ?_
    subst e
    refine (value_rec hn).mono fun v s2 ⟨e1, e2⟩ => ?_
    subst e2
    refine ⟨_, rfl, ?_⟩
    simp only [Bool.false_eq_true, if_false]
    refine (mk_ok (.inl rfl)).mono fun v s1 ⟨n, fs, e, hn⟩ => ?_
    subst e
    refine ⟨by decide, ?_⟩
    refine (value_rect hn).mono fun v s2 ⟨e1, e2⟩ => ?_
    subst e2
    refine ⟨_, rfl, ?_⟩
    simp only [Bool.false_eq_true, if_false]
    refine (mk_ok (.inl rfl)).mono fun v s1 ⟨n, fs, e, hn⟩ => ?_
    refine value_dic.mono fun v s2 ⟨e1, e2⟩ => ?_
    subst e2
    refine ⟨_, rfl, ?_⟩
    simp
  rintro _ s rfl
  walk_at "ev"
  have mx : ∃ j : Int, cbMax s [.int 1, .int (if (ns.length : Int) < 3 then (ns.length : Int) else 3)] = some (.int j) ∧ 0 ≤ j ∧ j ≤ 3 := by
    refine ⟨_, rfl, ?_⟩
    split <;> split <;> omega
  obtain ⟨j, ej, j0, j3⟩ := mx
  refine ⟨_, rfl, _, rfl, _, ej, j, rfl, ⟨by omega, by omega⟩, ?_⟩
  refine Wp.mono (lc_any (P := fun y => y = .bl true) (rangeD 0 j.toNat) [] s ?h (by simp [rangeD]; omega) (by simp)) ?_
  case h =>
    intro d hd
    obtain ⟨i, i0, i1, rfl⟩ : ∃ i : Int, 0 ≤ i ∧ i < 3 ∧ d = .int i := by
      unfold rangeD at hd
      obtain ⟨i, hi, rfl⟩ := List.mem_map.mp hd
      have := List.mem_range.mp hi
      exact ⟨_, by omega, by omega, rfl⟩
    refine ⟨_, rfl, fun s => ?_⟩
    simp only [wipeE]
    walk_at "ev"
    refine (pot_ok i0 i1).mono fun v s1 ⟨n, e, p⟩ => ?_
    subst e
    exact right_ok p
  intro out s1 ho
  exact ⟨_, all_true ho, rfl⟩
end K01
end
section
set_option maxRecDepth 100000
set_option maxHeartbeats 4000000
namespace K01
open PySem L2 Mi
def spLaw (K : PySem.W.Frag) : Sp := fun vs H Q _ => ∃ (a : Addr) (ns : List Int), vs = [.ref a] ∧ SqL K H a (ns.map V.int) ∧ ∀ H', Q (.bl true) H'
theorem law_spec {K : PySem.W.Frag} {mg : Str → Option Value} {vs : List V} {H : Hp} {Q : VK} {E : XK} (h : spLaw K vs H Q E) : spM ⟨K, mg⟩ F_law vs H Q E := by
  obtain ⟨a, ns, rfl, hS, q⟩ := h
  have nl : ¬ Lv ⟨[], [], []⟩ a := by
    rintro (⟨n, o, h, _⟩ | h)
    · simp at h
    · simp at h
  refine ⟨⟨[], [], []⟩, [.scr ns], ⟨rfl, by simp, by simp, by simp⟩, .cons (.scr (hS.imp (fun z => ⟨z, nl⟩) id)) .nil, ?_⟩
  have z := law_mir (s := []) ns
  show Fin _ _ _ _ (F_law [.scr ns] []) _
  cases e : F_law [.scr ns] [] with
  | no => rw [e] at z; exact z.elim
  | ex x s => rw [e] at z; exact z.elim
  | ok d s =>
    rw [e] at z
    have z : d = .bl true := z
    subst z
    intro c1 H1 _ _ _ v r
    cases r
    exact q H1
theorem all_mk {l : PySem.W.OpenLaw} {w : World} {K : PySem.W.Frag} {h : Heap} {mg : Str → Option Value} {fa C_Record f1 f2 f3 f4 f5 f6 f7 f8 f9 f10 f11 f12 p12 f13 f14 f15 f16 f17 f18 f19 f20 f21 f22 f23 f24 f25 : Addr} (X : K.In h) (G : h.Ns mainGlobals mg) (hfa : mg "law" = some (.ref fa))
    {od1 an1 od2 an2 od3 an3 od4 an4 od5 an5 od6 an6 od7 an7 od8 an8 od9 an9 od10 an10 od11 an11 od12 an12 od13 an13 od14 an14 od15 an15 od16 an16 od17 an17 od18 an18 od19 an19 od20 an20 od21 an21 od22 an22 od23 an23 od24 an24 od25 an25 : Option Addr} {sl1 sl2 sl3 sl4 sl5 sl6 sl7 sl8 sl9 sl10 sl11 sl12 sl13 sl14 sl15 sl16 sl17 sl18 sl19 sl20 sl21 sl22 sl23 sl24 sl25 : Array (Option Value)} {oc1 kV1 dc1 pm1 cd1 ct1 oc2 kV2 dc2 pm2 cd2 ct2 oc3 kV3 dc3 pm3 cd3 ct3 oc4 kV4 dc4 pm4 cd4 ct4 oc5 kV5 dc5 pm5 cd5 ct5 oc6 kV6 dc6 pm6 cd6 ct6 oc7 kV7 dc7 pm7 cd7 ct7 oc8 kV8 dc8 pm8 cd8 ct8 oc9 kV9 dc9 pm9 cd9 ct9 oc10 kV10 dc10 pm10 cd10 ct10 oc11 kV11 dc11 pm11 cd11 ct11 oc12 kV12 dc12 pm12 cd12 ct12 oc13 kV13 dc13 pm13 cd13 ct13 oc14 kV14 dc14 pm14 cd14 ct14 oc15 kV15 dc15 pm15 cd15 ct15 oc16 kV16 dc16 pm16 cd16 ct16 oc17 kV17 dc17 pm17 cd17 ct17 oc18 kV18 dc18 pm18 cd18 ct18 oc19 kV19 dc19 pm19 cd19 ct19 oc20 kV20 dc20 pm20 cd20 ct20 oc21 kV21 dc21 pm21 cd21 ct21 oc22 kV22 dc22 pm22 cd22 ct22 oc23 kV23 dc23 pm23 cd23 ct23 oc24 kV24 dc24 pm24 cd24 ct24 oc25 kV25 dc25 pm25 cd25 ct25 : Value} {t_ID_MARK t_ID_SIGNS t_LETTERS t_MOST_DEPTH t_MOST_ID t_MOST_INTEGER t_MOST_LIST t_MOST_NAME t_MOST_PARTS t_MOST_TEXT t_SELF t_TEXT_SIGNS t_UNKNOWN_MARK : Tok} {rest12 : List Value}
    (aC_Record : PySem.W.nsIn K mainGlobals "Record" = some (some (.ref C_Record)))
    (pg_Record : PySem.W.plainGet K C_Record Str.empty = true)
    (hd_Record : PySem.W.hasDictIn K C_Record = true)
    (po_Record : PySem.W.plainOver K C_Record = true)
    (sa_Record : PySem.W.findIn K (.ref C_Record) "__setattr__" = some (some (.builtin "object.__setattr__")))
    (ca_Record : PySem.W.findIn K (.ref C_Record) "__class__" = some (some (.builtin "object.__class__")))
    (cg_Record : PySem.W.specialIn K (.builtin "object.__class__") "__get__" = some (some (.builtin "getset_descriptor.__get__")))
    (ck_Record : PySem.W.takesIn K (.builtin "object.__class__") = some true)
    (cm_Record : PySem.W.mroIn K C_Record (.type "object") = some true)
    (ki_Record_int : PySem.W.mroIn K C_Record (.type "int") = some false)
    (ki_Record_bool : PySem.W.mroIn K C_Record (.type "bool") = some false)
    (ki_Record_str : PySem.W.mroIn K C_Record (.type "str") = some false)
    (ki_Record_tuple : PySem.W.mroIn K C_Record (.type "tuple") = some false)
    (na_Record_held_parts : PySem.W.findIn K (.ref C_Record) "held_parts" = some none)
    (a1 : PySem.W.nsIn K mainGlobals "is_integer" = some (some (.ref f1)))
    (l1 : K.lookup f1 = some ⟨oc1, od1, .func (PySem.W.fnOf "is_integer" "is_integer" (defArgs s_is_integer) (defBody s_is_integer) (defScope s_is_integer) .none kV1 dc1 pm1 an1 cd1 ct1), sl1⟩)
    (c1 : PySem.W.codeIn K cd1 "is_integer" = true)
    (k1 : PySem.W.keepIn K (.ref f1) = true)
    (a2 : PySem.W.nsIn K mainGlobals "is_name" = some (some (.ref f2)))
    (l2 : K.lookup f2 = some ⟨oc2, od2, .func (PySem.W.fnOf "is_name" "is_name" (defArgs s_is_name) (defBody s_is_name) (defScope s_is_name) .none kV2 dc2 pm2 an2 cd2 ct2), sl2⟩)
    (c2 : PySem.W.codeIn K cd2 "is_name" = true)
    (k2 : PySem.W.keepIn K (.ref f2) = true)
    (a3 : PySem.W.nsIn K mainGlobals "is_text" = some (some (.ref f3)))
    (l3 : K.lookup f3 = some ⟨oc3, od3, .func (PySem.W.fnOf "is_text" "is_text" (defArgs s_is_text) (defBody s_is_text) (defScope s_is_text) .none kV3 dc3 pm3 an3 cd3 ct3), sl3⟩)
    (c3 : PySem.W.codeIn K cd3 "is_text" = true)
    (k3 : PySem.W.keepIn K (.ref f3) = true)
    (a4 : PySem.W.nsIn K mainGlobals "is_marked" = some (some (.ref f4)))
    (l4 : K.lookup f4 = some ⟨oc4, od4, .func (PySem.W.fnOf "is_marked" "is_marked" (defArgs s_is_marked) (defBody s_is_marked) (defScope s_is_marked) .none kV4 dc4 pm4 an4 cd4 ct4), sl4⟩)
    (c4 : PySem.W.codeIn K cd4 "is_marked" = true)
    (k4 : PySem.W.keepIn K (.ref f4) = true)
    (a5 : PySem.W.nsIn K mainGlobals "is_id" = some (some (.ref f5)))
    (l5 : K.lookup f5 = some ⟨oc5, od5, .func (PySem.W.fnOf "is_id" "is_id" (defArgs s_is_id) (defBody s_is_id) (defScope s_is_id) .none kV5 dc5 pm5 an5 cd5 ct5), sl5⟩)
    (c5 : PySem.W.codeIn K cd5 "is_id" = true)
    (k5 : PySem.W.keepIn K (.ref f5) = true)
    (a6 : PySem.W.nsIn K mainGlobals "is_unknown" = some (some (.ref f6)))
    (l6 : K.lookup f6 = some ⟨oc6, od6, .func (PySem.W.fnOf "is_unknown" "is_unknown" (defArgs s_is_unknown) (defBody s_is_unknown) (defScope s_is_unknown) .none kV6 dc6 pm6 an6 cd6 ct6), sl6⟩)
    (c6 : PySem.W.codeIn K cd6 "is_unknown" = true)
    (k6 : PySem.W.keepIn K (.ref f6) = true)
    (a7 : PySem.W.nsIn K mainGlobals "is_plain" = some (some (.ref f7)))
    (l7 : K.lookup f7 = some ⟨oc7, od7, .func (PySem.W.fnOf "is_plain" "is_plain" (defArgs s_is_plain) (defBody s_is_plain) (defScope s_is_plain) .none kV7 dc7 pm7 an7 cd7 ct7), sl7⟩)
    (c7 : PySem.W.codeIn K cd7 "is_plain" = true)
    (k7 : PySem.W.keepIn K (.ref f7) = true)
    (a8 : PySem.W.nsIn K mainGlobals "depth_of" = some (some (.ref f8)))
    (l8 : K.lookup f8 = some ⟨oc8, od8, .func (PySem.W.fnOf "depth_of" "depth_of" (defArgs s_depth_of) (defBody s_depth_of) (defScope s_depth_of) .none kV8 dc8 pm8 an8 cd8 ct8), sl8⟩)
    (c8 : PySem.W.codeIn K cd8 "depth_of" = true)
    (k8 : PySem.W.keepIn K (.ref f8) = true)
    (a9 : PySem.W.nsIn K mainGlobals "is_value" = some (some (.ref f9)))
    (l9 : K.lookup f9 = some ⟨oc9, od9, .func (PySem.W.fnOf "is_value" "is_value" (defArgs s_is_value) (defBody s_is_value) (defScope s_is_value) .none kV9 dc9 pm9 an9 cd9 ct9), sl9⟩)
    (c9 : PySem.W.codeIn K cd9 "is_value" = true)
    (k9 : PySem.W.keepIn K (.ref f9) = true)
    (a10 : PySem.W.nsIn K mainGlobals "check_parts" = some (some (.ref f10)))
    (l10 : K.lookup f10 = some ⟨oc10, od10, .func (PySem.W.fnOf "check_parts" "check_parts" (defArgs s_check_parts) (defBody s_check_parts) (defScope s_check_parts) .none kV10 dc10 pm10 an10 cd10 ct10), sl10⟩)
    (c10 : PySem.W.codeIn K cd10 "check_parts" = true)
    (k10 : PySem.W.keepIn K (.ref f10) = true)
    (mi_Record : PySem.W.findIn K (.ref C_Record) "__init__" = some (some (.ref f11)))
    (mm_Record : PySem.W.makesIn K C_Record = true)
    (mf_Record : PySem.W.isFn K (.ref f11) = true)
    (mk_Record : PySem.W.keepIn K (.ref C_Record) = true)
    (l11 : K.lookup f11 = some ⟨oc11, od11, .func (PySem.W.fnOf "__init__" "Record.__init__" (defArgs s_Record___init__) (defBody s_Record___init__) (defScope s_Record___init__) .none kV11 dc11 pm11 an11 cd11 ct11), sl11⟩)
    (c11 : PySem.W.codeIn K cd11 "Record.__init__" = true)
    (rd12 : PySem.W.readsIn K C_Record (.type "type") = true)
    (ga12 : PySem.W.specialIn K (.ref C_Record) "__getattribute__" = some (some (.builtin "type.__getattribute__")))
    (fc12 : PySem.W.findCls K (.ref C_Record) (.type "type") "of" = some (.get (.builtin "classmethod.__get__") (.ref p12) .none (.ref C_Record)))
    (rc12 : PySem.W.recIn K p12 "classmethod" = some (.ref f12 :: rest12))
    (fi12 : PySem.W.fnIn K f12 = true)
    (l12 : K.lookup f12 = some ⟨oc12, od12, .func (PySem.W.fnOf "of" "Record.of" (defArgs s_Record_of) (defBody s_Record_of) (defScope s_Record_of) .none kV12 dc12 pm12 an12 cd12 ct12), sl12⟩)
    (c12 : PySem.W.codeIn K cd12 "Record.of" = true)
    (k12 : PySem.W.keepIn K (.ref f12) = true)
    (a13 : PySem.W.nsIn K mainGlobals "_law_pot" = some (some (.ref f13)))
    (l13 : K.lookup f13 = some ⟨oc13, od13, .func (PySem.W.fnOf "_law_pot" "_law_pot" (defArgs s__law_pot) (defBody s__law_pot) (defScope s__law_pot) .none kV13 dc13 pm13 an13 cd13 ct13), sl13⟩)
    (c13 : PySem.W.codeIn K cd13 "_law_pot" = true)
    (k13 : PySem.W.keepIn K (.ref f13) = true)
    (a14 : PySem.W.nsIn K mainGlobals "_law_take" = some (some (.ref f14)))
    (l14 : K.lookup f14 = some ⟨oc14, od14, .func (PySem.W.fnOf "_law_take" "_law_take" (defArgs s__law_take) (defBody s__law_take) (defScope s__law_take) .none kV14 dc14 pm14 an14 cd14 ct14), sl14⟩)
    (c14 : PySem.W.codeIn K cd14 "_law_take" = true)
    (k14 : PySem.W.keepIn K (.ref f14) = true)
    (a15 : PySem.W.nsIn K mainGlobals "_law_pick" = some (some (.ref f15)))
    (l15 : K.lookup f15 = some ⟨oc15, od15, .func (PySem.W.fnOf "_law_pick" "_law_pick" (defArgs s__law_pick) (defBody s__law_pick) (defScope s__law_pick) .none kV15 dc15 pm15 an15 cd15 ct15), sl15⟩)
    (c15 : PySem.W.codeIn K cd15 "_law_pick" = true)
    (k15 : PySem.W.keepIn K (.ref f15) = true)
    (a16 : PySem.W.nsIn K mainGlobals "_law_sort" = some (some (.ref f16)))
    (l16 : K.lookup f16 = some ⟨oc16, od16, .func (PySem.W.fnOf "_law_sort" "_law_sort" (defArgs s__law_sort) (defBody s__law_sort) (defScope s__law_sort) .none kV16 dc16 pm16 an16 cd16 ct16), sl16⟩)
    (c16 : PySem.W.codeIn K cd16 "_law_sort" = true)
    (k16 : PySem.W.keepIn K (.ref f16) = true)
    (a17 : PySem.W.nsIn K mainGlobals "_law_deep" = some (some (.ref f17)))
    (l17 : K.lookup f17 = some ⟨oc17, od17, .func (PySem.W.fnOf "_law_deep" "_law_deep" (defArgs s__law_deep) (defBody s__law_deep) (defScope s__law_deep) .none kV17 dc17 pm17 an17 cd17 ct17), sl17⟩)
    (c17 : PySem.W.codeIn K cd17 "_law_deep" = true)
    (k17 : PySem.W.keepIn K (.ref f17) = true)
    (a18 : PySem.W.nsIn K mainGlobals "_law_plain" = some (some (.ref f18)))
    (l18 : K.lookup f18 = some ⟨oc18, od18, .func (PySem.W.fnOf "_law_plain" "_law_plain" (defArgs s__law_plain) (defBody s__law_plain) (defScope s__law_plain) .none kV18 dc18 pm18 an18 cd18 ct18), sl18⟩)
    (c18 : PySem.W.codeIn K cd18 "_law_plain" = true)
    (k18 : PySem.W.keepIn K (.ref f18) = true)
    (a19 : PySem.W.nsIn K mainGlobals "_law_value" = some (some (.ref f19)))
    (l19 : K.lookup f19 = some ⟨oc19, od19, .func (PySem.W.fnOf "_law_value" "_law_value" (defArgs s__law_value) (defBody s__law_value) (defScope s__law_value) .none kV19 dc19 pm19 an19 cd19 ct19), sl19⟩)
    (c19 : PySem.W.codeIn K cd19 "_law_value" = true)
    (k19 : PySem.W.keepIn K (.ref f19) = true)
    (a20 : PySem.W.nsIn K mainGlobals "_law_near" = some (some (.ref f20)))
    (l20 : K.lookup f20 = some ⟨oc20, od20, .func (PySem.W.fnOf "_law_near" "_law_near" (defArgs s__law_near) (defBody s__law_near) (defScope s__law_near) .none kV20 dc20 pm20 an20 cd20 ct20), sl20⟩)
    (c20 : PySem.W.codeIn K cd20 "_law_near" = true)
    (k20 : PySem.W.keepIn K (.ref f20) = true)
    (a21 : PySem.W.nsIn K mainGlobals "_law_bent" = some (some (.ref f21)))
    (l21 : K.lookup f21 = some ⟨oc21, od21, .func (PySem.W.fnOf "_law_bent" "_law_bent" (defArgs s__law_bent) (defBody s__law_bent) (defScope s__law_bent) .none kV21 dc21 pm21 an21 cd21 ct21), sl21⟩)
    (c21 : PySem.W.codeIn K cd21 "_law_bent" = true)
    (k21 : PySem.W.keepIn K (.ref f21) = true)
    (a22 : PySem.W.nsIn K mainGlobals "_law_asked" = some (some (.ref f22)))
    (l22 : K.lookup f22 = some ⟨oc22, od22, .func (PySem.W.fnOf "_law_asked" "_law_asked" (defArgs s__law_asked) (defBody s__law_asked) (defScope s__law_asked) .none kV22 dc22 pm22 an22 cd22 ct22), sl22⟩)
    (c22 : PySem.W.codeIn K cd22 "_law_asked" = true)
    (k22 : PySem.W.keepIn K (.ref f22) = true)
    (a23 : PySem.W.nsIn K mainGlobals "_law_by_hand" = some (some (.ref f23)))
    (l23 : K.lookup f23 = some ⟨oc23, od23, .func (PySem.W.fnOf "_law_by_hand" "_law_by_hand" (defArgs s__law_by_hand) (defBody s__law_by_hand) (defScope s__law_by_hand) .none kV23 dc23 pm23 an23 cd23 ct23), sl23⟩)
    (c23 : PySem.W.codeIn K cd23 "_law_by_hand" = true)
    (k23 : PySem.W.keepIn K (.ref f23) = true)
    (a24 : PySem.W.nsIn K mainGlobals "_law_right" = some (some (.ref f24)))
    (l24 : K.lookup f24 = some ⟨oc24, od24, .func (PySem.W.fnOf "_law_right" "_law_right" (defArgs s__law_right) (defBody s__law_right) (defScope s__law_right) .none kV24 dc24 pm24 an24 cd24 ct24), sl24⟩)
    (c24 : PySem.W.codeIn K cd24 "_law_right" = true)
    (k24 : PySem.W.keepIn K (.ref f24) = true)
    (a25 : PySem.W.nsIn K mainGlobals "law" = some (some (.ref f25)))
    (l25 : K.lookup f25 = some ⟨oc25, od25, .func (PySem.W.fnOf "law" "law" (defArgs s_law) (defBody s_law) (defScope s_law) .none kV25 dc25 pm25 an25 cd25 ct25), sl25⟩)
    (c25 : PySem.W.codeIn K cd25 "law" = true)
    (k25 : PySem.W.keepIn K (.ref f25) = true)
    (q_ID_MARK : PySem.W.nsIn K mainGlobals "ID_MARK" = some (some (.str "#" t_ID_MARK)))
    (q_ID_SIGNS : PySem.W.nsIn K mainGlobals "ID_SIGNS" = some (some (.str "abcdefghijklmnopqrstuvwxyz0123456789-./[]" t_ID_SIGNS)))
    (q_LETTERS : PySem.W.nsIn K mainGlobals "LETTERS" = some (some (.str "abcdefghijklmnopqrstuvwxyz" t_LETTERS)))
    (q_MOST_DEPTH : PySem.W.nsIn K mainGlobals "MOST_DEPTH" = some (some (.int 3 t_MOST_DEPTH)))
    (q_MOST_ID : PySem.W.nsIn K mainGlobals "MOST_ID" = some (some (.int 81 t_MOST_ID)))
    (q_MOST_INTEGER : PySem.W.nsIn K mainGlobals "MOST_INTEGER" = some (some (.int 1000000 t_MOST_INTEGER)))
    (q_MOST_LIST : PySem.W.nsIn K mainGlobals "MOST_LIST" = some (some (.int 16 t_MOST_LIST)))
    (q_MOST_NAME : PySem.W.nsIn K mainGlobals "MOST_NAME" = some (some (.int 12 t_MOST_NAME)))
    (q_MOST_PARTS : PySem.W.nsIn K mainGlobals "MOST_PARTS" = some (some (.int 12 t_MOST_PARTS)))
    (q_MOST_TEXT : PySem.W.nsIn K mainGlobals "MOST_TEXT" = some (some (.int 20 t_MOST_TEXT)))
    (q_SELF : PySem.W.nsIn K mainGlobals "SELF" = some (some (.str "self" t_SELF)))
    (q_TEXT_SIGNS : PySem.W.nsIn K mainGlobals "TEXT_SIGNS" = some (some (.str "abcdefghijklmnopqrstuvwxyz0123456789-" t_TEXT_SIGNS)))
    (q_UNKNOWN_MARK : PySem.W.nsIn K mainGlobals "UNKNOWN_MARK" = some (some (.str "?" t_UNKNOWN_MARK)))
    (z_abs : PySem.W.nsIn K mainGlobals "abs" = some none)
    (z_all : PySem.W.nsIn K mainGlobals "all" = some none)
    (z_bool : PySem.W.nsIn K mainGlobals "bool" = some none)
    (z_int : PySem.W.nsIn K mainGlobals "int" = some none)
    (z_isinstance : PySem.W.nsIn K mainGlobals "isinstance" = some none)
    (z_len : PySem.W.nsIn K mainGlobals "len" = some none)
    (z_list : PySem.W.nsIn K mainGlobals "list" = some none)
    (z_max : PySem.W.nsIn K mainGlobals "max" = some none)
    (z_min : PySem.W.nsIn K mainGlobals "min" = some none)
    (z_range : PySem.W.nsIn K mainGlobals "range" = some none)
    (z_repr : PySem.W.nsIn K mainGlobals "repr" = some none)
    (z_sorted : PySem.W.nsIn K mainGlobals "sorted" = some none)
    (z_str : PySem.W.nsIn K mainGlobals "str" = some none)
    (z_tuple : PySem.W.nsIn K mainGlobals "tuple" = some none) :
    ∃ fd : FuncData, (∀ (s : Shared) (v : Value), BindsTo s fd ⟨[v], []⟩ [("_law_script", v)]) ∧ ∀ base : Heap, K.In base → base.Ns mainGlobals mg → FnG l.prog w K mg base CX0 17 fa fd ["_law_script"] (spLaw K) := by
  have e := hfa.symm.trans (PySem.W.mg_of X G a25)
  cases e
  have F1 := fun_mk (st := s_is_integer) l1 c1 k1
  have b1 := F1.binds (ps := ["value"]) fun _ _ _ _ _ _ us hl => match us, hl with | [_], _ => rfl
  have F2 := fun_mk (st := s_is_name) l2 c2 k2
  have b2 := F2.binds (ps := ["value"]) fun _ _ _ _ _ _ us hl => match us, hl with | [_], _ => rfl
  have F3 := fun_mk (st := s_is_text) l3 c3 k3
  have b3 := F3.binds (ps := ["value"]) fun _ _ _ _ _ _ us hl => match us, hl with | [_], _ => rfl
  have F4 := fun_mk (st := s_is_marked) l4 c4 k4
  have b4 := F4.binds (ps := ["value", "mark"]) fun _ _ _ _ _ _ us hl => match us, hl with | [_, _], _ => rfl
  have F5 := fun_mk (st := s_is_id) l5 c5 k5
  have b5 := F5.binds (ps := ["value"]) fun _ _ _ _ _ _ us hl => match us, hl with | [_], _ => rfl
  have F6 := fun_mk (st := s_is_unknown) l6 c6 k6
  have b6 := F6.binds (ps := ["value"]) fun _ _ _ _ _ _ us hl => match us, hl with | [_], _ => rfl
  have F7 := fun_mk (st := s_is_plain) l7 c7 k7
  have b7 := F7.binds (ps := ["value"]) fun _ _ _ _ _ _ us hl => match us, hl with | [_], _ => rfl
  have F8 := fun_mk (st := s_depth_of) l8 c8 k8
  have b8 := F8.binds (ps := ["value"]) fun _ _ _ _ _ _ us hl => match us, hl with | [_], _ => rfl
  have F9 := fun_mk (st := s_is_value) l9 c9 k9
  have b9 := F9.binds (ps := ["value"]) fun _ _ _ _ _ _ us hl => match us, hl with | [_], _ => rfl
  have F10 := fun_mk (st := s_check_parts) l10 c10 k10
  have b10 := F10.binds (ps := ["fields"]) fun _ _ _ _ _ _ us hl => match us, hl with | [_], _ => rfl
  have F12 := fun_mk (st := s_Record_of) l12 c12 k12
  have b12 := F12.binds (ps := ["cls", "pairs"]) fun _ _ _ _ _ _ us hl => match us, hl with | [_, _], _ => rfl
  have F13 := fun_mk (st := s__law_pot) l13 c13 k13
  have b13 := F13.binds (ps := ["_law_script", "_law_k"]) fun _ _ _ _ _ _ us hl => match us, hl with | [_, _], _ => rfl
  have F14 := fun_mk (st := s__law_take) l14 c14 k14
  have b14 := F14.binds (ps := ["_law_pot_here", "_law_size"]) fun _ _ _ _ _ _ us hl => match us, hl with | [_, _], _ => rfl
  have F15 := fun_mk (st := s__law_pick) l15 c15 k15
  have b15 := F15.binds (ps := ["_law_pot_here", "_law_some"]) fun _ _ _ _ _ _ us hl => match us, hl with | [_, _], _ => rfl
  have F16 := fun_mk (st := s__law_sort) l16 c16 k16
  have b16 := F16.binds (ps := ["_law_thing"]) fun _ _ _ _ _ _ us hl => match us, hl with | [_], _ => rfl
  have F17 := fun_mk (st := s__law_deep) l17 c17 k17
  have b17 := F17.binds (ps := ["_law_thing"]) fun _ _ _ _ _ _ us hl => match us, hl with | [_], _ => rfl
  have F18 := fun_mk (st := s__law_plain) l18 c18 k18
  have b18 := F18.binds (ps := ["_law_pot_here"]) fun _ _ _ _ _ _ us hl => match us, hl with | [_], _ => rfl
  have F19 := fun_mk (st := s__law_value) l19 c19 k19
  have b19 := F19.binds (ps := ["_law_pot_here", "_law_deep_here"]) fun _ _ _ _ _ _ us hl => match us, hl with | [_, _], _ => rfl
  have F20 := fun_mk (st := s__law_near) l20 c20 k20
  have b20 := F20.binds (ps := ["_law_pot_here", "_law_part"]) fun _ _ _ _ _ _ us hl => match us, hl with | [_, _], _ => rfl
  have F21 := fun_mk (st := s__law_bent) l21 c21 k21
  have b21 := F21.binds (ps := ["_law_pot_here", "_law_thing", "_law_deep_here"]) fun _ _ _ _ _ _ us hl => match us, hl with | [_, _, _], _ => rfl
  have F22 := fun_mk (st := s__law_asked) l22 c22 k22
  have b22 := F22.binds (ps := ["_law_thing"]) fun _ _ _ _ _ _ us hl => match us, hl with | [_], _ => rfl
  have F23 := fun_mk (st := s__law_by_hand) l23 c23 k23
  have b23 := F23.binds (ps := []) fun _ _ _ _ _ _ us hl => match us, hl with | [], _ => rfl
  have F24 := fun_mk (st := s__law_right) l24 c24 k24
  have b24 := F24.binds (ps := ["_law_pot_here"]) fun _ _ _ _ _ _ us hl => match us, hl with | [_], _ => rfl
  have F25 := fun_mk (st := s_law) l25 c25 k25
  have b25 := F25.binds (ps := ["_law_script"]) fun _ _ _ _ _ _ us hl => match us, hl with | [_], _ => rfl
  let T : Tx K mg := {
    C_Record := C_Record
    g_Record := PySem.W.mg_of X G aC_Record
    cf_Record := ⟨PySem.W.mg_of X G aC_Record, ⟨pg_Record, hd_Record, po_Record, sa_Record⟩, ca_Record, cg_Record, ck_Record, cm_Record⟩
    ki_Record_int := kit_own km_int ki_Record_int
    ki_Record_bool := kit_own km_bool ki_Record_bool
    ki_Record_str := kit_own km_str ki_Record_str
    ki_Record_tuple := kit_own km_tuple ki_Record_tuple
    na_Record_held_parts := na_Record_held_parts
    is_integer := ⟨_, _, F1, PySem.W.mg_of X G a1, b1⟩
    is_name := ⟨_, _, F2, PySem.W.mg_of X G a2, b2⟩
    is_text := ⟨_, _, F3, PySem.W.mg_of X G a3, b3⟩
    is_marked := ⟨_, _, F4, PySem.W.mg_of X G a4, b4⟩
    is_id := ⟨_, _, F5, PySem.W.mg_of X G a5, b5⟩
    is_unknown := ⟨_, _, F6, PySem.W.mg_of X G a6, b6⟩
    is_plain := ⟨_, _, F7, PySem.W.mg_of X G a7, b7⟩
    depth_of := ⟨_, _, F8, PySem.W.mg_of X G a8, b8⟩
    is_value := ⟨_, _, F9, PySem.W.mg_of X G a9, b9⟩
    check_parts := ⟨_, _, F10, PySem.W.mg_of X G a10, b10⟩
    Record___init__ := ⟨_, _, _, _, _, _, _, _, _, _, l11, c11⟩
    mk_Record := ⟨mm_Record, mi_Record, mf_Record, mk_Record⟩
    Record_of := ⟨_, _, F12, b12⟩
    mc_Record_of := .type "type"
    p_Record_of := p12
    cr_Record := ⟨rd12, ga12⟩
    cm_Record_of := ⟨fc12, ⟨_, rc12⟩, fi12⟩
    _law_pot := ⟨_, _, F13, PySem.W.mg_of X G a13, b13⟩
    _law_take := ⟨_, _, F14, PySem.W.mg_of X G a14, b14⟩
    _law_pick := ⟨_, _, F15, PySem.W.mg_of X G a15, b15⟩
    _law_sort := ⟨_, _, F16, PySem.W.mg_of X G a16, b16⟩
    _law_deep := ⟨_, _, F17, PySem.W.mg_of X G a17, b17⟩
    _law_plain := ⟨_, _, F18, PySem.W.mg_of X G a18, b18⟩
    _law_value := ⟨_, _, F19, PySem.W.mg_of X G a19, b19⟩
    _law_near := ⟨_, _, F20, PySem.W.mg_of X G a20, b20⟩
    _law_bent := ⟨_, _, F21, PySem.W.mg_of X G a21, b21⟩
    _law_asked := ⟨_, _, F22, PySem.W.mg_of X G a22, b22⟩
    _law_by_hand := ⟨_, _, F23, PySem.W.mg_of X G a23, b23⟩
    _law_right := ⟨_, _, F24, PySem.W.mg_of X G a24, b24⟩
    law := ⟨_, _, F25, PySem.W.mg_of X G a25, b25⟩
    t_ID_MARK := t_ID_MARK
    c_ID_MARK := PySem.W.mg_of X G q_ID_MARK
    t_ID_SIGNS := t_ID_SIGNS
    c_ID_SIGNS := PySem.W.mg_of X G q_ID_SIGNS
    t_LETTERS := t_LETTERS
    c_LETTERS := PySem.W.mg_of X G q_LETTERS
    t_MOST_DEPTH := t_MOST_DEPTH
    c_MOST_DEPTH := PySem.W.mg_of X G q_MOST_DEPTH
    t_MOST_ID := t_MOST_ID
    c_MOST_ID := PySem.W.mg_of X G q_MOST_ID
    t_MOST_INTEGER := t_MOST_INTEGER
    c_MOST_INTEGER := PySem.W.mg_of X G q_MOST_INTEGER
    t_MOST_LIST := t_MOST_LIST
    c_MOST_LIST := PySem.W.mg_of X G q_MOST_LIST
    t_MOST_NAME := t_MOST_NAME
    c_MOST_NAME := PySem.W.mg_of X G q_MOST_NAME
    t_MOST_PARTS := t_MOST_PARTS
    c_MOST_PARTS := PySem.W.mg_of X G q_MOST_PARTS
    t_MOST_TEXT := t_MOST_TEXT
    c_MOST_TEXT := PySem.W.mg_of X G q_MOST_TEXT
    t_SELF := t_SELF
    c_SELF := PySem.W.mg_of X G q_SELF
    t_TEXT_SIGNS := t_TEXT_SIGNS
    c_TEXT_SIGNS := PySem.W.mg_of X G q_TEXT_SIGNS
    t_UNKNOWN_MARK := t_UNKNOWN_MARK
    c_UNKNOWN_MARK := PySem.W.mg_of X G q_UNKNOWN_MARK
    z_abs := PySem.W.mg_none_of X G z_abs
    z_all := PySem.W.mg_none_of X G z_all
    z_bool := PySem.W.mg_none_of X G z_bool
    z_int := PySem.W.mg_none_of X G z_int
    z_isinstance := PySem.W.mg_none_of X G z_isinstance
    z_len := PySem.W.mg_none_of X G z_len
    z_list := PySem.W.mg_none_of X G z_list
    z_max := PySem.W.mg_none_of X G z_max
    z_min := PySem.W.mg_none_of X G z_min
    z_range := PySem.W.mg_none_of X G z_range
    z_repr := PySem.W.mg_none_of X G z_repr
    z_sorted := PySem.W.mg_none_of X G z_sorted
    z_str := PySem.W.mg_none_of X G z_str
    z_tuple := PySem.W.mg_none_of X G z_tuple }
  exact ⟨PySem.W.fnOf "law" "law" (defArgs s_law) (defBody s_law) (defScope s_law) .none kV25 dc25 pm25 an25 cd25 ct25, fun s v => .of_eq rfl, fun base _ _ => (ok_law (P := l.prog) (w := w) (base := base) T).imp fun vs H Q E h => law_spec h⟩
end K01
open PySem PySem.W PyProof.Rows
set_option maxRecDepth 100000 in
set_option maxHeartbeats 0 in
theorem PySem.Challenge.cw_laterknown_k01_values_of_any_value_holds : PySem.Challenge.rw_laterknown_k01_values_of_any_value.Holds := by
  w_on; o_law; k_head; (case hw => w_witness2)
  k_fill
  refine Mi.walk_G (l := PySem.Challenge.rw_laterknown_k01_values_of_any_value) (n := 63) (k := 17) (x := "_law_script") (sp := fun w => K01.spLaw _) rfl (by decide) rfl ⟨⟨rfl, by decide, by decide⟩, rfl⟩ (fun w h Y => PySem.W.kIn_of Y) ?F (fun _ _ a ns hl _ hS => ⟨a, ns, rfl, hS, fun _ => rfl⟩)
  case F =>
    intro w mg fa h KX G hmg
    refine' K01.all_mk KX G hmg ?aC_Record ?pg_Record ?hd_Record ?po_Record ?sa_Record ?ca_Record ?cg_Record ?ck_Record ?cm_Record ?ki_Record_int ?ki_Record_bool ?ki_Record_str ?ki_Record_tuple ?na_Record_held_parts ?a1 ?l1 ?c1 ?k1 ?a2 ?l2 ?c2 ?k2 ?a3 ?l3 ?c3 ?k3 ?a4 ?l4 ?c4 ?k4 ?a5 ?l5 ?c5 ?k5 ?a6 ?l6 ?c6 ?k6 ?a7 ?l7 ?c7 ?k7 ?a8 ?l8 ?c8 ?k8 ?a9 ?l9 ?c9 ?k9 ?a10 ?l10 ?c10 ?k10 ?mi_Record ?mm_Record ?mf_Record ?mk_Record ?l11 ?c11 ?rd12 ?ga12 ?fc12 ?rc12 ?fi12 ?l12 ?c12 ?k12 ?a13 ?l13 ?c13 ?k13 ?a14 ?l14 ?c14 ?k14 ?a15 ?l15 ?c15 ?k15 ?a16 ?l16 ?c16 ?k16 ?a17 ?l17 ?c17 ?k17 ?a18 ?l18 ?c18 ?k18 ?a19 ?l19 ?c19 ?k19 ?a20 ?l20 ?c20 ?k20 ?a21 ?l21 ?c21 ?k21 ?a22 ?l22 ?c22 ?k22 ?a23 ?l23 ?c23 ?k23 ?a24 ?l24 ?c24 ?k24 ?a25 ?l25 ?c25 ?k25 ?q_ID_MARK ?q_ID_SIGNS ?q_LETTERS ?q_MOST_DEPTH ?q_MOST_ID ?q_MOST_INTEGER ?q_MOST_LIST ?q_MOST_NAME ?q_MOST_PARTS ?q_MOST_TEXT ?q_SELF ?q_TEXT_SIGNS ?q_UNKNOWN_MARK ?z_abs ?z_all ?z_bool ?z_int ?z_isinstance ?z_len ?z_list ?z_max ?z_min ?z_range ?z_repr ?z_sorted ?z_str ?z_tuple
    (case aC_Record => k_is)
    (case pg_Record => k_is)
    (case hd_Record => k_is)
    (case po_Record => k_is)
    (case sa_Record => k_is)
    (case ca_Record => k_is)
    (case cg_Record => k_is)
    (case ck_Record => k_is)
    (case cm_Record => k_is)
    (case ki_Record_int => k_is)
    (case ki_Record_bool => k_is)
    (case ki_Record_str => k_is)
    (case ki_Record_tuple => k_is)
    (case na_Record_held_parts => k_is)
    (case a1 => k_is)
    (case l1 => k_is)
    (case c1 => k_is)
    (case k1 => k_is)
    (case a2 => k_is)
    (case l2 => k_is)
    (case c2 => k_is)
    (case k2 => k_is)
    (case a3 => k_is)
    (case l3 => k_is)
    (case c3 => k_is)
    (case k3 => k_is)
    (case a4 => k_is)
    (case l4 => k_is)
    (case c4 => k_is)
    (case k4 => k_is)
    (case a5 => k_is)
    (case l5 => k_is)
    (case c5 => k_is)
    (case k5 => k_is)
    (case a6 => k_is)
    (case l6 => k_is)
    (case c6 => k_is)
    (case k6 => k_is)
    (case a7 => k_is)
    (case l7 => k_is)
    (case c7 => k_is)
    (case k7 => k_is)
    (case a8 => k_is)
    (case l8 => k_is)
    (case c8 => k_is)
    (case k8 => k_is)
    (case a9 => k_is)
    (case l9 => k_is)
    (case c9 => k_is)
    (case k9 => k_is)
    (case a10 => k_is)
    (case l10 => k_is)
    (case c10 => k_is)
    (case k10 => k_is)
    (case mi_Record => k_is)
    (case mm_Record => k_is)
    (case mf_Record => k_is)
    (case mk_Record => k_is)
    (case l11 => k_is)
    (case c11 => k_is)
    (case rd12 => k_is)
    (case ga12 => k_is)
    (case fc12 => k_is)
    (case rc12 => k_is)
    (case fi12 => k_is)
    (case l12 => k_is)
    (case c12 => k_is)
    (case k12 => k_is)
    (case a13 => k_is)
    (case l13 => k_is)
    (case c13 => k_is)
    (case k13 => k_is)
    (case a14 => k_is)
    (case l14 => k_is)
    (case c14 => k_is)
    (case k14 => k_is)
    (case a15 => k_is)
    (case l15 => k_is)
    (case c15 => k_is)
    (case k15 => k_is)
    (case a16 => k_is)
    (case l16 => k_is)
    (case c16 => k_is)
    (case k16 => k_is)
    (case a17 => k_is)
    (case l17 => k_is)
    (case c17 => k_is)
    (case k17 => k_is)
    (case a18 => k_is)
    (case l18 => k_is)
    (case c18 => k_is)
    (case k18 => k_is)
    (case a19 => k_is)
    (case l19 => k_is)
    (case c19 => k_is)
    (case k19 => k_is)
    (case a20 => k_is)
    (case l20 => k_is)
    (case c20 => k_is)
    (case k20 => k_is)
    (case a21 => k_is)
    (case l21 => k_is)
    (case c21 => k_is)
    (case k21 => k_is)
    (case a22 => k_is)
    (case l22 => k_is)
    (case c22 => k_is)
    (case k22 => k_is)
    (case a23 => k_is)
    (case l23 => k_is)
    (case c23 => k_is)
    (case k23 => k_is)
    (case a24 => k_is)
    (case l24 => k_is)
    (case c24 => k_is)
    (case k24 => k_is)
    (case a25 => k_is)
    (case l25 => k_is)
    (case c25 => k_is)
    (case k25 => k_is)
    (case q_ID_MARK => k_is)
    (case q_ID_SIGNS => k_is)
    (case q_LETTERS => k_is)
    (case q_MOST_DEPTH => k_is)
    (case q_MOST_ID => k_is)
    (case q_MOST_INTEGER => k_is)
    (case q_MOST_LIST => k_is)
    (case q_MOST_NAME => k_is)
    (case q_MOST_PARTS => k_is)
    (case q_MOST_TEXT => k_is)
    (case q_SELF => k_is)
    (case q_TEXT_SIGNS => k_is)
    (case q_UNKNOWN_MARK => k_is)
    (case z_abs => k_is)
    (case z_all => k_is)
    (case z_bool => k_is)
    (case z_int => k_is)
    (case z_isinstance => k_is)
    (case z_len => k_is)
    (case z_list => k_is)
    (case z_max => k_is)
    (case z_min => k_is)
    (case z_range => k_is)
    (case z_repr => k_is)
    (case z_sorted => k_is)
    (case z_str => k_is)
    (case z_tuple => k_is)
end
