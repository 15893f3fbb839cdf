import PyProof.Rows.All
import Wide.All
import OpenK.AllK
import Wide.FinOn
import KE.KExcInit
import KE.KExcIs
import PyProof.ReprRoads
import PyProof.ReprNest
import HandS.ForMost
import HandS.Exc
import HandS.ExcOwn
import HandS.ExcInit
import HandS.ExcField
import HandS.ExcIs
import HandS.IsInst
import HandS.TupAny
import HandS.TupMul
import HandS.Conv
import HandS.Walk
import HandS.Star
import HandS.ClsMeth
import HandS.Flow
import HandS.Style
import HandS.Property
import HandS.WordsExc
import PyProof.ListMulRoad
import PyProof.FactsAll.tuple_2
import PySem.Challenge.RW_ringlists_k51_paths
set_option Elab.async false
set_option linter.all false
set_option maxRecDepth 100000
set_option maxHeartbeats 4000000
/-! RA: data in memory (Dq), repr of data. -/
namespace RB
open PySem PySem.Spec PyProof.Rows L2
/-! ### what stands in memory, as data: none, bools, ints, texts, lists, tuples, the empty dict -/
mutual
inductive Dq (K : PySem.W.Frag) (H : Hp) : V → PyData → Prop
  | non : Dq K H .non .none
  | bl (b : Bool) : Dq K H (.bl b) (.bool b)
  | int (i : Int) : Dq K H (.int i) (.int i)
  | str (x : Str) : Dq K H (.str x) (.str x)
  | lst {a : Addr} {xs : List V} {ds : List PyData} : SqL K H a xs → DqA K H xs ds → Dq K H (.ref a) (.list ds)
  | tup {a : Addr} {xs : List V} {ds : List PyData} : SqT K H a xs → DqA K H xs ds → Dq K H (.ref a) (.tuple ds)
  | dct {a : Addr} : H a = some (.dK []) → Dq K H (.ref a) (.dict [])
inductive DqA (K : PySem.W.Frag) (H : Hp) : List V → List PyData → Prop
  | nil : DqA K H [] []
  | cons {v : V} {vs : List V} {d : PyData} {ds : List PyData} : Dq K H v d → DqA K H vs ds → DqA K H (v :: vs) (d :: ds)
end
section
variable {X : Cx} {pins : List (Addr × Obj)} {σ : L2.St} {H : Hp} {s : Shared}
theorem empty_dict_at (I : Inv X pins σ H s) {a : Addr} (h : H a = some (.dK [])) :
    (a == sysModules) = false ∧ ∃ o n, s.heap.get? a = some o ∧ o.cls = .type "dict" ∧ o.data = .dict #[] n := by
  obtain ⟨_, hne, vs, kv, hd⟩ := (show ObjOk X.prog X.w H s.heap a (.dK []) from I.hok a _ h)
  cases kv
  obtain ⟨o, es, ep, h1, h2, h3, h4, h5, h6⟩ := hd
  refine ⟨hne, o, ep, h1, h2.1, ?_⟩
  have e : es = #[] := by
    obtain ⟨l⟩ := es
    cases l with
    | nil => rfl
    | cons x l => cases h5
  rw [h3, e]
mutual
theorem Dq.reads (I : Inv X pins σ H s) : ∀ (d : PyData) (v : V) (u : Value), Dq X.K H v d → RelV v u → ∃ as, Reads s.heap u d as
  | .none, _, _, h, r => by
    cases h
    cases r
    exact ⟨_, Reads.none⟩
  | .bool b, _, _, h, r => by
    cases h
    cases r
    exact ⟨_, Reads.bool b⟩
  | .int i, _, _, h, r => by
    cases h
    obtain ⟨t, rfl⟩ := r
    exact ⟨_, Reads.int i t⟩
  | .str x, _, _, h, r => by
    cases h
    obtain ⟨t, rfl⟩ := r
    exact ⟨_, Reads.str x t⟩
  | .list ds, _, _, h, r => by
    cases h with
    | lst hs ha =>
      cases r
      obtain ⟨its, rv, ⟨o, n, ho, hc, _, hd⟩, _⟩ := I.list hs
      obtain ⟨as, hr⟩ := DqA.readsAll I ds _ its ha rv
      exact ⟨_, Reads.list ho hc hd hr⟩
  | .tuple ds, _, _, h, r => by
    cases h with
    | tup hs ha =>
      cases r
      obtain ⟨its, rv, ⟨o, ho, hc, n, hd⟩, _⟩ := I.tuple hs
      obtain ⟨as, hr⟩ := DqA.readsAll I ds _ its ha rv
      exact ⟨_, Reads.tuple ho hc hd hr⟩
  | .dict _, _, _, h, r => by
    cases h with
    | dct ha =>
      cases r
      obtain ⟨_, o, n, h1, h2, h3⟩ := empty_dict_at I ha
      exact ⟨_, Reads.dict (as := []) (bs := []) h1 h2 h3 .nil .nil⟩
theorem DqA.readsAll (I : Inv X pins σ H s) : ∀ (ds : List PyData) (vs : List V) (us : List Value), DqA X.K H vs ds → Vals vs us → ∃ as, ReadsAll s.heap us ds as
  | [], _, _, h, r => by
    cases h
    cases r
    exact ⟨_, ReadsAll.nil⟩
  | d :: ds, _, _, h, r => by
    cases h with
    | cons h1 h2 =>
      cases r with
      | cons r1 r2 =>
        obtain ⟨as, q1⟩ := Dq.reads I d _ _ h1 r1
        obtain ⟨bs, q2⟩ := DqA.readsAll I ds _ _ h2 r2
        exact ⟨_, ReadsAll.cons q1 q2⟩
end
mutual
theorem Dq.reprK (I : Inv X pins σ H s) : ∀ (d : PyData) (v : V) (u : Value), Dq X.K H v d → RelV v u → d.showable = true → d.shown.length ≤ sizeLine → ∃ bs, ReadAtMost s.heap d.depth bs ∧ ReprK X.prog X.w bs s.heap d.depth u d.shown
  | .none, _, _, h, r, _, _ => by
    cases h
    cases r
    exact ⟨[], (fun _ h => nomatch h), by simp only [PyData.shown]; exact .of_is ReprIs.none _ _ _⟩
  | .bool b, _, _, h, r, _, _ => by
    cases h
    cases r
    exact ⟨[], (fun _ h => nomatch h), by simp only [PyData.shown]; exact .of_is (ReprIs.bool b) _ _ _⟩
  | .int i, _, _, h, r, hs, _ => by
    cases h
    obtain ⟨t, rfl⟩ := r
    exact ⟨[], (fun _ h => nomatch h), by simp only [PyData.shown]; exact .of_is (ReprIs.int t (by simpa [PyData.showable] using hs)) _ _ _⟩
  | .str x, _, _, h, r, _, hz => by
    cases h
    obtain ⟨t, rfl⟩ := r
    exact ⟨[], (fun _ h => nomatch h), by simp only [PyData.shown]; exact .of_is (ReprIs.str x t (by simpa only [PyData.shown] using hz)) _ _ _⟩
  | .list ds, _, _, h, r, hs, hz => by
    have hd := h
    have rr := r
    cases h with
    | @lst a xs _ hl ha =>
      cases r
      obtain ⟨its, rv, ⟨o, n, ho, hc, _, hdat⟩, _⟩ := I.list hl
      have hz' : (listText (PyData.shownAll ds)).length ≤ sizeLine := by simpa only [PyData.shown] using hz
      obtain ⟨bs, hb, hk⟩ := DqA.reprK I ds _ its ha rv (by simpa [PyData.showable] using hs) (fun t ht => Nat.le_trans (listText_mem_le ht) hz')
      obtain ⟨as, r⟩ := Dq.reads I (.list ds) _ _ hd rr
      have hna : a ∉ bs := not_mem_of_deeper r (by simp only [PyData.depth]; omega) hb
      refine ⟨a :: bs, ReadAtMost.cons r (by simp only [PyData.depth]; omega) hb, ?_⟩
      simp only [PyData.depth, PyData.shown]
      cases its with
      | nil =>
        cases rv
        cases ha
        simp only [PyData.shownAll, listText_nil]
        exact ReprK.listEmpty ho hc hdat
      | cons x l => exact ReprK.list ho hc hdat hna (by simpa using hk.length_eq) (fun i y e => hk.item i y (by simpa using e))
  | .tuple ds, _, _, h, r, hs, hz => by
    have hd := h
    have rr := r
    cases h with
    | @tup a xs _ hl ha =>
      cases r
      obtain ⟨its, rv, ⟨o, ho, hc, n, hdat⟩, _⟩ := I.tuple hl
      have hz' : (tupleText (PyData.shownAll ds)).length ≤ sizeLine := by simpa only [PyData.shown] using hz
      obtain ⟨bs, hb, hk⟩ := DqA.reprK I ds _ its ha rv (by simpa [PyData.showable] using hs) (fun t ht => Nat.le_trans (tupleText_mem_le ht) hz')
      obtain ⟨as, r⟩ := Dq.reads I (.tuple ds) _ _ hd rr
      have hna : a ∉ bs := not_mem_of_deeper r (by simp only [PyData.depth]; omega) hb
      refine ⟨a :: bs, ReadAtMost.cons r (by simp only [PyData.depth]; omega) hb, ?_⟩
      simp only [PyData.depth, PyData.shown]
      exact ReprK.tuple ho hc hdat hna hk
  | .dict kvs, _, _, h, r, hs, hz => by
    have hd := h
    have rr := r
    cases h with
    | @dct a ha =>
      cases r
      obtain ⟨hne, o, n, h1, h2, h3⟩ := empty_dict_at I ha
      obtain ⟨as, r⟩ := Dq.reads I (.dict []) _ _ hd rr
      refine ⟨[a], ReadAtMost.cons r (Nat.zero_le _) (fun _ h => nomatch h), ?_⟩
      simp only [PyData.depth, PyData.shown]
      exact ReprK.dict (as := []) h1 h2 h3 hne (fun h => nomatch h) .nil
theorem DqA.reprK (I : Inv X pins σ H s) : ∀ (ds : List PyData) (vs : List V) (us : List Value), DqA X.K H vs ds → Vals vs us → PyData.showableAll ds = true → (∀ t ∈ PyData.shownAll ds, t.length ≤ sizeLine) →
    ∃ bs, ReadAtMost s.heap (PyData.depthAll ds) bs ∧ ReprAllK X.prog X.w bs s.heap (PyData.depthAll ds) us (PyData.shownAll ds)
  | [], _, _, h, r, _, _ => by
    cases h
    cases r
    exact ⟨[], (fun _ h => nomatch h), by simp only [PyData.shownAll]; exact .nil⟩
  | d :: ds, _, _, h, r, hs, hz => by
    cases h with
    | cons h1 h2 =>
      cases r with
      | cons r1 r2 =>
        have hs' : d.showable = true ∧ PyData.showableAll ds = true := by simpa [PyData.showableAll] using hs
        obtain ⟨b1, hb1, k1⟩ := Dq.reprK I d _ _ h1 r1 hs'.1 (hz _ (by simp only [PyData.shownAll]; exact List.mem_cons_self ..))
        obtain ⟨b2, hb2, k2⟩ := DqA.reprK I ds _ _ h2 r2 hs'.2 (fun t ht => hz t (by simp only [PyData.shownAll]; exact List.mem_cons_of_mem _ ht))
        refine ⟨b1 ++ b2, ?_, ?_⟩
        · intro b hm
          simp only [PyData.depthAll]
          rcases List.mem_append.mp hm with hm | hm
          · obtain ⟨d', as', r', hd'⟩ := hb1 b hm
            exact ⟨d', as', r', Nat.le_trans hd' (Nat.le_max_left _ _)⟩
          · obtain ⟨d', as', r', hd'⟩ := hb2 b hm
            exact ⟨d', as', r', Nat.le_trans hd' (Nat.le_max_right _ _)⟩
        · simp only [PyData.depthAll, PyData.shownAll]
          exact .cons ((k1.more fun b hb => List.mem_append_left _ hb).level_le (Nat.le_max_left _ _)) (k2.more_le (fun b hb => List.mem_append_right _ hb) (Nat.le_max_right _ _))
end
end
/-! ### repr of data -/
def rRepr (K : PySem.W.Frag) : List V → Hp → VK → Prop := fun xs H Q => ∃ x d, xs = [x] ∧ Dq K H x d ∧ d.showable = true ∧ d.shown.length ≤ sizeLine ∧ d.depth < 100 ∧ Q (.str d.shown) H
theorem call_repr {X : Cx} (hg : X.A.guards = some []) (hu : X.A.units + 200 < cLine) : CallR X (.builtin "repr") (rRepr X.K) := by
  intro pins s σ H xs us Q I r h
  obtain ⟨x, d, rfl, hd, hs, hz, hdp, q⟩ := h
  obtain ⟨u, rfl, rx⟩ := vals1 r
  have hQ : ∀ h' u tk, (∀ b o, s.heap.get? b = some o → h'.get? b = some o) → EP X pins σ Q (.str d.shown u) { s with heap := h', toks := tk } := fun h' u tk hk =>
    ⟨.str d.shown, H, I.kept hk, ⟨u, rfl⟩, q⟩
  cases hd with
  | non =>
    cases rx
    simp only [PyData.shown] at q
    exact PySem.P.repr_of_none ⟨.str _, H, I.tok _, ⟨_, rfl⟩, q⟩
  | bl b =>
    cases rx
    simp only [PyData.shown] at q
    exact PySem.P.repr_of_bool ⟨.str _, H, I.tok _, ⟨_, rfl⟩, q⟩
  | int i =>
    obtain ⟨t, rfl⟩ := rx
    simp only [PyData.shown] at q
    exact PySem.P.repr_of_int (by simpa [PyData.showable] using hs) ⟨.str _, H, I.tok _, ⟨_, rfl⟩, q⟩
  | str z =>
    obtain ⟨t, rfl⟩ := rx
    simp only [PyData.shown] at q
    exact PySem.P.repr_of_str ⟨.str _, H, I.tok _, ⟨_, rfl⟩, q⟩ (by simpa only [PyData.shown] using hz)
  | @lst a ys ds hl ha =>
    have hd := Dq.lst hl ha
    cases rx
    obtain ⟨its, rv, ⟨o, n, ho, hc, _, hdat⟩, _⟩ := I.list hl
    have hz' : (listText (PyData.shownAll ds)).length ≤ sizeLine := by simpa only [PyData.shown] using hz
    obtain ⟨bs, hb, hk⟩ := DqA.reprK I ds _ its ha rv (by simpa [PyData.showable] using hs) (fun t ht => Nat.le_trans (listText_mem_le ht) hz')
    obtain ⟨as, r⟩ := Dq.reads I (.list ds) _ _ hd rfl
    have hna : a ∉ bs := not_mem_of_deeper r (by simp only [PyData.depth]; omega) hb
    simp only [PyData.depth] at hdp
    simp only [PyData.shown] at hQ
    refine call_repr_slot (by omega) ⟨o, ho, hc⟩ F.slot_list_repr.toG ?_
    cases its with
    | nil =>
      cases rv
      cases ha
      simp only [PyData.shownAll, listText_nil] at hQ
      exact call_list_repr_empty ⟨o, ho, hc⟩ ho hdat ⟨_, _, rfl, hQ s.heap _ _ fun _ _ e => e⟩
    | cons x l =>
      exact call_list_reprK ho hc hdat hna (by simpa using hk.length_eq) (fun i y e => hk.item i y (by simpa using e)) hg (fun b _ => Clear.nil b) (by show X.A.units + 1 + _ < cLine; omega) (fun _ _ e => e) (fun h' u tk hk => ⟨_, _, rfl, hQ h' u tk hk⟩) hz'
  | @tup a ys ds hl ha =>
    have hd := Dq.tup hl ha
    cases rx
    obtain ⟨its, rv, ⟨o, ho, hc, n, hdat⟩, _⟩ := I.tuple hl
    have hz' : (tupleText (PyData.shownAll ds)).length ≤ sizeLine := by simpa only [PyData.shown] using hz
    obtain ⟨bs, hb, hk⟩ := DqA.reprK I ds _ its ha rv (by simpa [PyData.showable] using hs) (fun t ht => Nat.le_trans (tupleText_mem_le ht) hz')
    obtain ⟨as, r⟩ := Dq.reads I (.tuple ds) _ _ hd rfl
    have hna : a ∉ bs := not_mem_of_deeper r (by simp only [PyData.depth]; omega) hb
    simp only [PyData.depth] at hdp
    simp only [PyData.shown] at hQ
    refine call_repr_slot (by omega) ⟨o, ho, hc⟩ F.slot_tuple_repr ?_
    exact call_tuple_reprK ho hc hdat hna hk hg (fun b _ => Clear.nil b) (by show X.A.units + 1 + _ < cLine; omega) (fun _ _ e => e) (fun h' u tk hk => ⟨_, _, rfl, hQ h' u tk hk⟩) hz'
  | @dct a ha =>
    have hd : Dq X.K H _ _ := Dq.dct ha
    cases rx
    obtain ⟨hne, o, n, h1, h2, h3⟩ := empty_dict_at I ha
    simp only [PyData.depth] at hdp
    simp only [PyData.shown] at hQ
    refine call_repr_slot (by omega) ⟨o, h1, h2⟩ F.slot_dict_repr ?_
    exact call_dict_reprK (as := []) (h₀ := s.heap) (d := 0) h1 h2 h3 hne (fun h => nomatch h) .nil hg (fun b _ => Clear.nil b) (by show X.A.units + 1 + _ < cLine; omega) (fun _ _ e => e) (fun h' u tk hk => ⟨_, _, rfl, hQ h' u tk hk⟩) (by simpa only [PyData.shown, PyData.shownKv] using hz)
end RB
/-! RX: exceptions of own classes over any built-in base, whose __init__ calls the base's and stores one field. -/
namespace RB
open PySem PySem.Spec PyProof.Rows L2
/-- what the written part says of an own exception class at C over the built-in base B -/
structure ExK (K : PySem.W.Frag) (C : Addr) (B newId initId : String) (bmB : List Value) : Prop where
  FB : ExcBaseFacts B newId initId bmB
  SF : StoreFacts B bmB "object.__setattr__" "object"
  ini : PySem.W.excInitIn K C bmB newId = true
  ov : PySem.W.excOver K C bmB = true
  sa : PySem.W.findIn K (.ref C) "__setattr__" = some (some (.builtin "object.__setattr__"))
  hd : PySem.W.hasDictIn K C = true
  exC : PySem.W.subIn K (.ref C) (.type "BaseException") = some true
  tyC : PySem.W.typeIn K (.ref C) = some (.type "type")
  kC : PySem.W.keepIn K (.ref C) = true
section
variable {X : Cx} {pins : List (Addr × Obj)} {σ : L2.St} {H : Hp} {s : Shared} {a C : Addr} {f : Str} {y : V} {u : Value} {B newId initId : String} {bmB : List Value} {E : Value → Shared → Prop} {A : Around}
/-- the first field of a new exception: its dict is made -/
theorem ex_set (T : ExK X.K C B newId initId bmB) (I : Inv X pins σ H s) (e : H a = some (exo a C none)) (hno : PySem.W.findIn X.K (.ref C) f = some none) (ry : RelV y u) {Q : Unit → Shared → Prop}
    (h : ∀ dx s', H dx = none → dx ≠ a → Inv X pins σ (upd (upd H dx (exd dx [(f, y)])) a (exo a C (some dx))) s' → Q () s') :
    wpAny (model X.prog X.w) A (setAttr (.ref a) f u) Q E s := by
  obtain ⟨t1, ho⟩ := exo_at I.hok e
  have tk : PySem.W.takerIn X.K C f = some none := by
    unfold PySem.W.takerIn
    rw [hno]
    rfl
  obtain ⟨cd, hcd, hdict⟩ := PySem.W.any_some T.hd
  obtain ⟨hp, g, d, t, os⟩ := s
  have J : PySem.W.InstAt hp a { cls := .ref C, dict := none, data := .fields #[.ref t1, .none, .none, .none, .bool false, .none] } C none := ⟨ho, rfl, rfl, trivial⟩
  refine PySem.W.set_plain I.kIn J T.sa ?_
  refine PySem.W.osa_openX (r := none) T.SF I.kIn J T.ov tk fun b => ?_
  show wpAny _ _ (Builtin.ObjectAttr.storeInOwnDict (.ref a) (.ref C) (.str f _) f u b) _ _ _
  have hcls : PySem.W.Looks (model X.prog X.w) hp (classData C) cd := PySem.W.looks_clsIn I.kIn hcd
  have fin : ∀ (h' : Heap) (tk' : Nat) (dx : Addr), (∀ b o, b ≠ a → hp.get? b = some o → h'.get? b = some o) → hp.objs.size ≤ dx → dx ≠ a →
      h'.get? a = some { cls := .ref C, dict := some dx, data := .fields #[.ref t1, .none, .none, .none, .bool false, .none] } → h'.Ns1 dx (fun z => if z = f then some u else none) → Q () ⟨h', g, d, tk', os⟩ := by
    intro h' tk' dx k dn dne hx hn
    have hnd : H dx = none := I.hok.fresh dn
    have away : ∀ {b : Addr} {o : Obj}, hp.get? b = some o → b ≠ dx := fun {b o} q => Nat.ne_of_lt (Nat.lt_of_lt_of_le (Heap.lt_size q) dn)
    have na : ∀ {b : Addr}, H b = none → b ≠ a := fun {b} n z => by
      rw [z, e] at n
      cases n
    refine h dx _ hnd dne (I.un (t' := tk') (H' := upd (upd H dx (exd dx [(f, y)])) a (exo a C (some dx))) ⟨fun b o q n _ _ => k b o (na n) q, fun b o q n _ _ => ⟨o.slots, k b o (na n) q⟩, fun b o q n _ => ?_, fun b o q _ => ?_, fun b xs q => ?_, fun b o v q => ?_, fun b ps q => ⟨#[], ?_⟩⟩ fun b o q => ?_)
    · rw [upd_ne (na n), upd_ne (away q)]
      exact n
    · by_cases hb : b = a
      · exact ⟨_, by rw [hb]; exact hx⟩
      · exact ⟨o, k b o hb q⟩
    · rw [upd_ne (at_ne e q exo_tup), upd_ne (ne_of_none q hnd)]
      exact q
    · rw [upd_ne (at_ne e q exo_frz), upd_ne (ne_of_none q hnd)]
      exact q
    · rw [upd_ne (at_ne e q exo_tbl), upd_ne (ne_of_none q hnd), q, Array.append_empty]
    · by_cases hb : b = a
      · subst hb
        rw [upd_same] at q
        cases q
        exact exo_ok hx
      · rw [upd_ne hb] at q
        by_cases hd : b = dx
        · subst hd
          rw [upd_same] at q
          cases q
          exact exd_ok hn (relO_put (fs := []) ry fun g => True.intro)
        · rw [upd_ne hd] at q
          refine (I.hok b o q).stay (fun c v hc z => k c v ?_ z) (fun c hc => ?_) fun c xs hc => ?_
          · rcases hc with hc | hc
            · rw [hc]
              exact hb
            · exact at_ne e hc exo_own
          · rw [upd_ne (at_ne e hc exo_own), upd_ne (ne_of_none hc hnd)]
            exact hc
          · rw [upd_ne (at_ne e hc exo_tup), upd_ne (ne_of_none hc hnd)]
            exact hc
  have hxs : a ≠ hp.objs.size := Nat.ne_of_lt (Heap.lt_size ho)
  obtain ⟨nm, bs, mro, ns, qn, hdd, sn, sb, ab, col, del⟩ := cd
  dsimp only at hdict
  subst hdict
  unfold Builtin.ObjectAttr.storeInOwnDict Builtin.ObjectAttr.ownDictForStores
  repeat (first | with_reducible refine PySem.HandSPX.store_in_new ?_ ?_ | with_reducible refine wpAny_loadPart_at ho ?_ | with_reducible refine hcls.at ?_ | wp_step)
  · exact ⟨_, #[], _, (Heap.get?_update_ne _ _ _ _ hxs.symm).trans (Heap.get?_push_at rfl rfl), rfl, fun e he => absurd he (by simp), fun _ => rfl⟩
  · intro h' tk' hn' hs
    have ho1 : (hp.push { cls := .type "dict", data := .dict #[] }).get? a = some { cls := .ref C, data := .fields #[.ref t1, .none, .none, .none, .bool false, .none] } := Heap.get?_push_of_some _ ho
    refine fin h' tk' hp.objs.size (fun b o hb hq => ?_) (Nat.le_refl _) hxs.symm ?_ hn'
    · exact (hs.2 b (Nat.ne_of_lt (Heap.lt_size hq))).trans ((Heap.get?_update_ne _ _ _ _ hb).trans (Heap.get?_push_of_some _ hq))
    · exact (hs.2 a hxs).trans (Heap.get?_update_self _ ho1 rfl)
/-- B.__init__(self, ..) of a new exception -/
theorem ex_init {us : List Value} {Q : Value → Shared → Prop} (T : ExK X.K C B newId initId bmB) (I : Inv X pins σ H s) (e : H a = some (exo a C none)) (hl : us.length ≤ sizeLine) (h : ∀ s', Inv X pins σ H s' → Q .none s') :
    wpAny (model X.prog X.w) A (call (.builtin initId) (.ref a :: us)) Q E s := by
  obtain ⟨nm, N, q, bs, bm, hdct, sn, sub, ab, col, dd, k0, k1, k2, k3, k5, hC, hT⟩ := PySem.W.excInit_of I.kIn T.ini
  obtain ⟨t1, ho⟩ := exo_at I.hok e
  have same : upd H a (exo a C none) = H := funext fun b => by
    by_cases hb : b = a
    · rw [hb, upd_same, e]
    · rw [upd_ne hb]
  obtain ⟨hp, g, d, t, os⟩ := s
  refine wpAny_call (PySem.HandSPX.init_base T.FB hT hC ho hl fun h' t2 k hx => h _ ?_)
  have J := I.write (t' := t) (x := a) (e := a) (o := exo a C none) (by rw [e]; exact True.intro) (.inl rfl) k ⟨_, hx⟩ (exo_ok hx)
  rw [same] at J
  exact J
end
/-! ### readings and rules -/
/-- R.__init__(self, ..), R an own class of exceptions or a built-in one -/
def tExInit (C : Addr) (ta : TA) : TE := fun σ H Q => ta σ H fun vs H1 => ∃ (a : Addr) (ws : List V), vs = .ref a :: ws ∧ ws.length ≤ 1000 ∧ H1 a = some (exo a C none) ∧ Q .non H1
/-- self.f = e, the first field -/
def tExSet (C : Addr) (f : Str) (to te : TE) : TS := fun D σ H => te σ H fun y H1 => to σ H1 fun x H2 => ∃ a : Addr, x = .ref a ∧ H2 a = some (exo a C none) ∧
  ∀ dx, H2 dx = none → dx ≠ a → D.nx σ (upd (upd H2 dx (exd dx [(f, y)])) a (exo a C (some dx)))
/-- C(e), where __init__ leaves the one field f -/
def tExMk (C : Addr) (f : Str) (ta : TA) : L2.St → Hp → XK → Prop := fun σ H Q => ta σ H fun vs H1 => ∃ v, vs = [v] ∧ ∀ d, H1 d = none → Q (.ref C) (some d) (upd H1 d (.xd [(f, v)]))
/-- __init__'s promise -/
def spExInit (C : Addr) (f : Str) : Sp := fun vs H Q _ => ∃ (a : Addr) (v : V), vs = [.ref a, v] ∧ H a = some (exo a C none) ∧
  ∀ dx, H dx = none → dx ≠ a → Q .non (upd (upd H dx (exd dx [(f, v)])) a (exo a C (some dx)))
section
variable {X : Cx} {C : Addr} {B newId initId : String} {bmB : List Value} {o e : Expr} {es : List Expr} {to te : TE} {ta : TA} {f : Str} {p p' p1 p2 pos : Pos}
theorem pe_exinit_bt {b : Str} {pl : Sem Bool} (T : ExK X.K C B newId initId bmB) (hg : Gl X b) (hm : X.mg b = none) (hv : bootBuiltins b = some (.type B)) (hty : typeOf (.type B) = pure (.type "type")) (hst : Manifest.isStub B = false)
    (vV : PySem.W.findCls X.K (.type B) (.type "type") "__init__" = some (.val (.builtin initId))) (hh : PySem.W.handedIn (.builtin initId) = true) (ha : PA X (e :: es) ta) (hn : b ≠ "__name__" := by decide) (hdb : (b == ("__debug__" : Str)) = false := by decide)
    (hc : eval (.Call (.Attribute (.Name b p1) "__init__" p2) (e :: es) [] pos) X.env = (do
      let ov ← eval (.Name b p1) X.env
      standAt p2.atName
      let (f, first) ← holding [ov] (getMethod ov "__init__" pl)
      callWith pos f first (backTo pos (starEach (e :: es) X.env)) (backToKw pos (keywordEach [] X.env))) := by rfl)
    (he : starEach (e :: es) X.env = (false, eval e X.env) :: starEach es X.env := by rfl) (hpl : (backTo pos (starEach es X.env)).any (·.1) = false := by rfl) :
    PE X (.Call (.Attribute (.Name b p1) "__init__" p2) (e :: es) [] pos) (tExInit C ta) := by
  refine ⟨fun pins s σ H Q I h => PySem.W.methodCall_KW (ld_blt I hg hm hv ?_ hn hdb) hc⟩
  obtain ⟨m, fr⟩ := I.fr
  refine PySem.W.method_type fr I.ok.mod.kin hty hst vV hh ?_
  refine PyProof.Rows.callWith_method1 (thn (ha.run pos pins _ σ H _ (I.tok _) h) fun us s1 ⟨vs, H1, I1, r1, a, ws, ev, hl, ea, q⟩ => ?_) he hpl
  subst ev
  cases r1 with
  | @cons _ u0 _ ur ra rw' =>
    cases (show u0 = Value.ref a from ra)
    exact ex_init T I1 ea (by rw [← Paired.length rw', sizeLine_eq]; omega) fun s' J => ⟨.non, H1, J, rfl, q⟩
theorem pe_exinit_own {b : Str} {R : Addr} {mc : Value} {pl : Sem Bool} (T : ExK X.K C B newId initId bmB) (hg : Gl X b) (hm : X.mg b = some (.ref R)) (r : ClX.CRead X.K R mc)
    (vV : PySem.W.findCls X.K (.ref R) mc "__init__" = some (.val (.builtin initId))) (hh : PySem.W.handedIn (.builtin initId) = true) (ha : PA X (e :: es) ta) (hdb : (b == ("__debug__" : Str)) = false := by decide)
    (hc : eval (.Call (.Attribute (.Name b p1) "__init__" p2) (e :: es) [] pos) X.env = (do
      let ov ← eval (.Name b p1) X.env
      standAt p2.atName
      let (f, first) ← holding [ov] (getMethod ov "__init__" pl)
      callWith pos f first (backTo pos (starEach (e :: es) X.env)) (backToKw pos (keywordEach [] X.env))) := by rfl)
    (he : starEach (e :: es) X.env = (false, eval e X.env) :: starEach es X.env := by rfl) (hpl : (backTo pos (starEach es X.env)).any (·.1) = false := by rfl) :
    PE X (.Call (.Attribute (.Name b p1) "__init__" p2) (e :: es) [] pos) (tExInit C ta) := by
  refine ⟨fun pins s σ H Q I h => PySem.W.methodCall_KW (ld_glob I hg hm ?_ hdb) hc⟩
  refine PySem.W.method_cls I.kIn r.ga (PySem.W.cls_value I.kIn r.rd vV hh ?_)
  refine PyProof.Rows.callWith_method1 (thn (ha.run pos pins _ σ H _ (I.tok _) h) fun us s1 ⟨vs, H1, I1, r1, a, ws, ev, hl, ea, q⟩ => ?_) he hpl
  subst ev
  cases r1 with
  | @cons _ u0 _ ur ra rw' =>
    cases (show u0 = Value.ref a from ra)
    exact ex_init T I1 ea (by rw [← Paired.length rw', sizeLine_eq]; omega) fun s' J => ⟨.non, H1, J, rfl, q⟩
theorem ps_exset (T : ExK X.K C B newId initId bmB) (hno : PySem.W.findIn X.K (.ref C) f = some none) (ho : PE X o to) (he : PE X e te) (hs : swapsWith e (some (.Attribute o f p')) pos.line X.env = pure false := by rfl) :
    PS X (.Assign [.Attribute o f p'] e pos) (tExSet C f to te) := by
  refine ⟨fun pins s σ H D I h => ?_⟩
  refine plainObj_wpAny_Assign_Attribute (thn (he.run pins s σ H _ I h) fun v s1 ⟨y, H1, I1, r1, q1⟩ => thn (ho.run pins s1 σ H1 _ I1 q1) fun u s2 ⟨x, H2, I2, r2, a, ex, ea, q⟩ => ?_) hs
  subst ex
  cases (show u = Value.ref a from r2)
  exact ex_set T I2 ea hno r1 fun dx s' n ne J => ⟨σ, _, J, q dx n ne⟩
theorem pmk_ex {CX : CXT} {x : Str} {fI : Addr} {k : Nat} {fd : FuncData} {ps : List Str} (T : ExK X.K C B newId initId bmB) (iC : PySem.W.findIn X.K (.ref C) "__init__" = some (some (.ref fI))) (tI : PySem.W.typeIn X.K (.ref fI) = some (.type "function"))
    (F1 : FnOk X.prog X.w X.K X.mg X.base CX k fI fd ps (spExInit C f)) (hr : Room (k + 1) X.A) (hb : Binds X.K fd ps []) (hx : Passes CX X (fun _ _ _ => False)) (hg : Gl X x) (hm : X.mg x = some (.ref C)) (ha : PA X (e :: es) ta)
    (hdb : (x == ("__debug__" : Str)) = false := by decide) (he : starEach (e :: es) X.env = (false, eval e X.env) :: starEach es X.env := by rfl) (hpl : (backTo pos (starEach es X.env)).any (·.1) = false := by rfl) :
    PMk X (.Call (.Name x p) (e :: es) [] pos) (tExMk C f ta) := by
  intro pins s σ H Q I h
  refine wpAny_Call_Name_kw (ld_glob I hg hm ?_ hdb)
  refine PySem.W.callWith_K (h₀ := X.base) I.ok.mod.kin T.kC (thn (ha.run pos pins s σ H _ I h) fun us s1 ⟨vs, H1, I1, r1, v, ev, q1⟩ => ⟨I1.kIn, ?_⟩) he hpl
  subst ev
  obtain ⟨v', eus, rv⟩ := vals1 r1
  subst eus
  show wpAny _ _ (call (.ref C) [v']) _ _ _
  obtain ⟨nm, N, q, bs, bm, hdct, sn, sub, ab, col, dd, k0, k1, k2, k3, k5, hC, hT⟩ := PySem.W.excInit_of I1.kIn T.ini
  obtain ⟨hp, g, dr, tk, os⟩ := s1
  have hsz : hp.objs.size ≤ hp.objs.size + 1 := Nat.le_succ _
  have hn : H1 (hp.objs.size + 1) = none := I1.hok.fresh hsz
  have kk : ∀ b o, hp.get? b = some o → ((hp.push (PySem.W.kdv_tup [v'])).push (PySem.HandSPX.excO C hp.objs.size)).get? b = some o := fun b o z => Heap.get?_push_of_some _ (Heap.get?_push_of_some _ z)
  have hget : ((hp.push (PySem.W.kdv_tup [v'])).push (PySem.HandSPX.excO C hp.objs.size)).get? (hp.objs.size + 1) = some (PySem.HandSPX.excO C hp.objs.size) := by heap_get
  have I2 : Inv X pins σ (upd H1 (hp.objs.size + 1) (exo (hp.objs.size + 1) C none)) ⟨(hp.push (PySem.W.kdv_tup [v'])).push (PySem.HandSPX.excO C hp.objs.size), g, dr, tk, os⟩ :=
    I1.laid (t' := tk) (a := hp.objs.size + 1) (o := exo (hp.objs.size + 1) C none) (h' := (hp.push (PySem.W.kdv_tup [v'])).push (PySem.HandSPX.excO C hp.objs.size)) kk hsz (exo_ok hget)
  have r2 : Vals [V.ref (hp.objs.size + 1), v] [Value.ref (hp.objs.size + 1), v'] := .cons rfl (.cons rv .nil)
  -- the promise of __init__, and what is wanted of its end
  have want : spExInit C f [V.ref (hp.objs.size + 1), v] (upd H1 (hp.objs.size + 1) (exo (hp.objs.size + 1) C none))
      (fun z H2 => z = .non ∧ ∃ d : Addr, H2 (hp.objs.size + 1) = some (exo (hp.objs.size + 1) C (some d)) ∧ H2 d = some (exd d [(f, v)]) ∧ H1 d = none ∧ Q (.ref C) (some d) (upd (del H2 (hp.objs.size + 1)) d (.xd [(f, v)]))) (fun _ _ _ => False) := by
    refine ⟨_, v, rfl, upd_same, fun dx n ne => ⟨rfl, dx, upd_same, ?_, ?_, ?_⟩⟩
    · rw [upd_ne ne, upd_same]
    · rw [upd_ne ne] at n
      exact n
    · rw [upd_ne ne] at n
      have e2 : upd (del (upd (upd (upd H1 (hp.objs.size + 1) (exo (hp.objs.size + 1) C none)) dx (exd dx [(f, v)])) (hp.objs.size + 1) (exo (hp.objs.size + 1) C (some dx))) (hp.objs.size + 1)) dx (.xd [(f, v)]) = upd H1 dx (.xd [(f, v)]) := by
        funext b
        by_cases hb : b = dx
        · rw [hb, upd_same, upd_same]
        · rw [upd_ne hb, upd_ne hb]
          by_cases hb2 : b = hp.objs.size + 1
          · rw [hb2, del_same, hn]
          · rw [del_ne hb2, upd_ne hb2, upd_ne hb, upd_ne hb2]
      rw [e2]
      exact q1 dx n
  have hlen : ([Value.ref (hp.objs.size + 1), v'] ++ ([] : List Value)).length = ps.length := (F1.len _ _ _ _ want).symm ▸ rfl
  have hbd := hb (⟨(hp.push (PySem.W.kdv_tup [v'])).push (PySem.HandSPX.excO C hp.objs.size), g, dr, tk, os⟩ : Shared) [Value.ref (hp.objs.size + 1), v'] I2.kIn hlen
  refine wpAny_call (PySem.HandSPX.call_own T.FB hT hC (PySem.W.looks_findIn I1.kIn iC) (fun self => PySem.W.bind_fn I1.kIn self tI) (by show 1 ≤ sizeLine; rw [sizeLine_eq]; omega)
    (codeAny_mono (F1.run _ X.stack _ _ ⟨[Value.ref (hp.objs.size + 1), v'], []⟩ _ _ _ (fun _ _ _ => False) (hr.make C [v'] []) (I2.env0.make C [v'] []) hbd r2 want) fun r s' hq' => ?_))
  cases r with
  | error er => exact hx pins σ _ _ er s' I2 hq'
  | ok fl =>
    cases fl with
    | ret u =>
      obtain ⟨z, H2, os2, bare2, un2, hok2, rz, ez, d, ea, ed, hd1, q2⟩ := hq'
      subst ez
      obtain ⟨h2, g2, d2, t2, os'⟩ := s'
      exact ⟨rz, mk_end (raises_own T.exC T.tyC) I1 hsz kk un2 hok2 os2 bare2 ea ed hd1 q2⟩
    | next => exact False.elim hq'
    | brk => exact False.elim hq'
    | cont => exact False.elim hq'
end
end RB
/-! RT: try with several clauses, each with a name; isinstance of the caught exception. -/
namespace RB
open PySem PySem.Spec PyProof.Rows L2
/-- behind a suite that held its exception in slot i -/
def endsAs (D : Ends) (i : Nat) : Ends := { nx := fun σ H => D.nx (σ.set i none) H, rt := D.rt, bk := fun σ H => D.bk (σ.set i none) H, ct := fun σ H => D.ct (σ.set i none) H }
abbrev Suite := Addr → Value → Option Addr → TS
/-- what clauses «except c as n» (slot i) wish of an exception of the body, one after the other -/
def wNamed (K : PySem.W.Frag) (Wout : WX) (D : Ends) : List (Value × Nat × Suite) → WX
  | [] => Wout
  | (c, i, ts) :: r => fun cls d σ H => ∃ b, PySem.W.exmOne K cls c = some b ∧
      (b = true → ∀ a, H a = none → ts a cls d (endsAs D i) (σ.set i (some (.ref a))) H) ∧ (b = false → wNamed K Wout D r cls d σ H)
inductive Clauses (X : Cx) : List ExceptHandler → List (Value × Nat × Suite) → Prop
  | nil : Clauses X [] []
  | cons {x n : Str} {c : Value} {i : Nat} {ts : Suite} {st0 : Stmt} {sts : List Stmt} {np pp : Pos} {hds : List ExceptHandler} {l : List (Value × Nat × Suite)} (hc : Names X x c) (hi : X.N[i]? = some n) (hl : X.env.kindOf n = some .local)
      (hs : ∀ (a : Addr) (oe : Obj) (cls : Value) (d : Option Addr) (pn : List (Addr × Obj)), Zc cls d oe → (∃ vs, oe.data = .fields vs) → PSs (X.suite a ((a, oe) :: pn)) (st0 :: sts) (ts a cls d)) (r : Clauses X hds l) :
      Clauses X (.ExceptHandler (some (.Name x np)) (some n) (st0 :: sts) pp :: hds) ((c, i, ts) :: l)
section
variable {X : Cx} {pins : List (Addr × Obj)}
/-- the suite's own end, its name unbound -/
theorem suite_end {D : Ends} {i : Nat} {n : Str} {a : Addr} {oe : Obj} {pp : Pos} {f : Flow} {s6 : Shared} (ok : X.Ok) (hN : X.N.Nodup) (hi : X.N[i]? = some n) (hln : X.env.kindOf n = some .local)
    (hsp : SP (X.suite a ((a, oe) :: (X.pn ++ pins))) [] (endsAs D i) f s6) :
    wpAny (model X.prog X.w) X.A (do bindName X.env n .none; unbindBehindTheSuite X.env n pp) (fun _ s7 => SP X pins D f s7) X.xe s6 := by
  cases f with
  | next =>
    obtain ⟨σ6, H6, S6, q6⟩ := hsp
    exact gone_ok (S6.unsuite ok) hN hi hln fun s7 J7 => ⟨_, _, J7, q6⟩
  | brk =>
    obtain ⟨σ6, H6, S6, q6⟩ := hsp
    exact gone_ok (S6.unsuite ok) hN hi hln fun s7 J7 => ⟨_, _, J7, q6⟩
  | cont =>
    obtain ⟨σ6, H6, S6, q6⟩ := hsp
    exact gone_ok (S6.unsuite ok) hN hi hln fun s7 J7 => ⟨_, _, J7, q6⟩
  | ret u =>
    obtain ⟨v6, σ6, H6, S6, r6, q6⟩ := hsp
    exact gone_ok (S6.unsuite ok) hN hi hln fun s7 J7 => ⟨_, _, _, J7, r6, q6⟩
theorem ps_try_named {body : List Stmt} {h₀ : ExceptHandler} {hds : List ExceptHandler} {l : List (Value × Nat × Suite)} {pos : Pos} {tb : WX → TS} {Wout : WX} (hs : X.stack = X.env :: X.outer) (hf : X.env.frame = some X.env.locals) (hN : X.N.Nodup) (tk : Takes X Wout)
    (hb : ∀ (W : WX) (pn : List (Addr × Obj)) (xe : Value → Shared → Prop), Takes (X.tr pn xe) W → PassesOwn (model X.prog X.w) X.A X.env xe → PSs (X.tr pn xe) body (tb W))
    (hh : Clauses X (h₀ :: hds) l) : PS X (.Try body (h₀ :: hds) [] [] pos) (fun D σ H => tb (wNamed X.K Wout D l) D σ H) := by
  refine ⟨fun pins s σ H D I h => wpAny_Try_except ?_⟩
  have ok := I.ok
  have hfr : X.A.frames = some (X.env :: X.outer) := by rw [ok.frames, hs]
  let XE' : Value → Shared → Prop := fun e s₁ => wpAny (model X.prog X.w) X.A (noteFrame e X.env) (fun _ s₂ => wpAny (model X.prog X.w) X.A (setFlight e none) (fun _ s₃ =>
    wpAny (model X.prog X.w) X.A (handleBy e X.env (h₀ :: hds)) (SP X pins D) X.xe s₃) X.xe s₂) X.xe s₁
  have takes : Takes (X.tr (X.pn ++ pins) XE') (wNamed X.K Wout D l) := by
    intro u s' xx
    obtain ⟨a, B, sI, pins', σ', H', cls, d, rfl, J', nb, up, sky, na, os, ag, w⟩ := xx
    have J : Inv X pins σ' H' sI := J'.ofTry ok
    have sky' : Sky B (X.env :: X.outer) a (Zc cls d) X.env.locals s'.heap := by rw [← hs]; exact sky
    show wpAny (model X.prog X.w) X.A (noteFrame (.ref a) X.env) _ _ _
    refine Sky.land Zc.steady hfr hf sky' fun h3 fl3 up3 => ?_
    have J3 : Inv X pins σ' H' { s' with heap := h3 } := J.landed nb fl3.1 (up.trans up3) os ag
    obtain ⟨oe3, vs3, he3, hz3, hd3⟩ := fl3.there
    -- the exception's record is no frame
    have nfr : a ∉ frs (X.env :: X.outer) := fun hm => by
      obtain ⟨_, o', e', hnf⟩ := fl3.2.2.1.mem hm
      rw [he3] at e'
      cases e'
      exact hnf _ hd3
    have nL : a ≠ X.env.locals := fun z => nfr (List.mem_filterMap.mpr ⟨X.env, List.mem_cons_self, by rw [hf, z]⟩)
    have nF : a ∉ X.fs := fun hm => by
      obtain ⟨e, he, q⟩ := List.mem_filterMap.mp hm
      exact nfr (List.mem_filterMap.mpr ⟨e, List.mem_cons_of_mem _ he, q⟩)
    have S3 := J3.suite he3 hd3 na nL nF
    have LT : PySem.W.Looks (model X.prog X.w) h3 (typeOf (.ref a)) cls := fun A Q E s k q => wpAny_typeOf_ref (k _ _ he3) (by rw [hz3.1]; exact q)
    have go : ∀ {hds' : List ExceptHandler} {l' : List (Value × Nat × Suite)}, Clauses X hds' l' → wNamed X.K Wout D l' cls d σ' H' →
        wpAny (model X.prog X.w) X.A (handleBy (.ref a) X.env hds') (SP X pins D) X.xe { s' with heap := h3 } := by
      intro hds' l' hk
      induction hk with
      | nil =>
        intro w
        refine wpAny_handleBy_nil ?_
        obtain ⟨k1, k2, k3, oe, vs, T, oT, ts', he, hz, hd, h1, hr⟩ := id fl3
        unfold PySem.passOn
        refine wpAny_bind (wpAny_field he hd h1 ?_)
        rw [if_neg (show ¬ ((Value.ref T == Value.none) = true) from by simp)]
        have fin : wpAny (model X.prog X.w) X.A (setFlight (.ref a) X.env.frame) (fun _ s4 => wpAny (model X.prog X.w) X.A (throw (.ref a) : Sem Flow) (SP X pins D) X.xe s4) X.xe { s' with heap := h3 } := by
          rw [hf]
          refine HandSPX.setFlight_upZ fl3 fun h4 hh4 up4 => wpAny_throw (tk _ _ ?_)
          exact ⟨a, B, sI, pins, σ', H', cls, d, rfl, J, nb, (up.trans up3).trans up4, .inr (.inr (by rw [hs]; exact hh4)), na, os, ag, w⟩
        first
          | exact wpAny_bind (wpAny_pure (wpAny_bind fin))
          | exact wpAny_bind fin
      | @cons x n c i ts st0 sts np pp hds2 l2 hc hi hln hsu r ih =>
        intro w
        obtain ⟨b, hb1, hyes, hno⟩ := w
        refine wpAny_handleBy_cons (codeAny_handlers_test ?_) (by intro q; cases q)
        have LM := PySem.W.exm_one (M := model X.prog X.w) (J3.kIn) LT hb1
        have test : ∀ {Q : Value → Shared → Prop} {E : Value → Shared → Prop}, Q c { s' with heap := h3 } → wpAny (model X.prog X.w) (X.A.mark (some (.ref a))) (eval (.Name x np) X.env) Q E { s' with heap := h3 } := fun {Q E} q => by
          obtain ⟨hg, hdbg, hm | ⟨hm, hv, hnn⟩⟩ := hc
          · exact ld_glob (X := X.suite a ((a, oe3) :: (X.pn ++ pins))) S3 hg hm q hdbg
          · exact ld_blt (X := X.suite a ((a, oe3) :: (X.pn ++ pins))) S3 hg hm hv q hnn hdbg
        refine test (LM.here ?_)
        cases b with
        | true =>
          refine codeAny_handlers_suite_as (HandSPX.lands_againZ fl3 fun h4 fl4 up4 => ?_)
          have J4 : Inv X pins σ' H' { s' with heap := h4 } := J.landed nb fl4.1 ((up.trans up3).trans up4) os ag
          obtain ⟨oe4, vs4, he4, hz4, hd4⟩ := fl4.there
          have S4 := J4.suite he4 hd4 na nL nF
          refine store_ok (X := X.suite a ((a, oe4) :: (X.pn ++ pins))) (v := .ref a) S4 hN hi (.inl hln) rfl (fun s5 S5 => ?_) (.inr hln)
          exact wpAny_mono ((hsu a oe4 cls d (X.pn ++ pins) hz4 ⟨_, hd4⟩).run [] s5 _ H' _ S5 (hyes rfl a na)) (fun f s6 hsp => suite_end ok hN hi hln hsp) (fun _ _ z => False.elim z)
        | false => exact ih (hno rfl)
    exact go hh w
  refine wpAny_mono ((hb (wNamed X.K Wout D l) (X.pn ++ pins) XE' takes PassesOwn.looking).run [] s σ H D (I.toTry _) h) (fun f s1 hsp => ?_) (fun e s1 he => he)
  cases f with
  | next =>
    obtain ⟨σ', H', J', q⟩ := hsp
    exact wpAny_execs_nil ⟨σ', H', J'.ofTry ok, q⟩
  | brk =>
    obtain ⟨σ', H', J', q⟩ := hsp
    exact ⟨σ', H', J'.ofTry ok, q⟩
  | cont =>
    obtain ⟨σ', H', J', q⟩ := hsp
    exact ⟨σ', H', J'.ofTry ok, q⟩
  | ret u =>
    obtain ⟨v, σ', H', J', r, q⟩ := hsp
    exact ⟨v, σ', H', J'.ofTry ok, r, q⟩
end
/-! ### isinstance(e, c), e the exception that the suite holds -/
def rIsX (K : PySem.W.Frag) (a : Addr) (cls : Value) (d : Option Addr) : List V → Hp → VK → Prop := fun xs H Q => ∃ (D : Addr) (c : V) (cv : Value) (b : Bool), cls = .ref D ∧ xs = [.ref a, c] ∧ ClsV c cv ∧ ExcC K D ∧
  (d = none ∨ ∃ dd fs, d = some dd ∧ H dd = some (.xd fs)) ∧ PySem.W.kitOne K (.ref D) cv = some b ∧ Q (.bl b) H
theorem call_isX {X : Cx} {a : Addr} {oe : Obj} {cls : Value} {d : Option Addr} {pn : List (Addr × Obj)} (hz : Zc cls d oe) (hf : ∃ vs, oe.data = .fields vs) : CallR (X.suite a ((a, oe) :: pn)) (.builtin "isinstance") (rIsX X.K a cls d) := by
  intro pins s σ H xs us Q I r h
  obtain ⟨D, c, cv, b, rfl, rfl, hcv, C, hd, e, q⟩ := h
  obtain ⟨u1, u2, rfl, rx, rt⟩ := vals2 r
  cases (show u1 = Value.ref a from rx)
  have ec := hcv.eq rt
  subst ec
  obtain ⟨hget, _⟩ := I.pin (a, oe) (List.mem_append.mpr (.inl List.mem_cons_self))
  obtain ⟨vs, hv⟩ := hf
  obtain ⟨h1, h2⟩ := hz
  have cl : (PySem.W.clsIn X.K D).isSome = true := by
    obtain ⟨cd, hc, _⟩ := PySem.W.any_some C.hd
    rw [hc]
    rfl
  have fin : ∀ od : Option Obj, PySem.W.InstAt s.heap a oe D od → wpAny (model X.prog X.w) (X.suite a ((a, oe) :: pn)).A (call (.builtin "isinstance") [.ref a, u2]) (EP (X.suite a ((a, oe) :: pn)) pins σ Q) (X.suite a ((a, oe) :: pn)).xe s := fun od J =>
    PySem.W.kia_one (PySem.W.kitx_exc cl C.hg C.hk C.hs C.ha C.hn C.ht C.hm) I.kIn J e (fun z => nomatch z) fun tk => ⟨.bl b, H, I.kept (t' := tk) fun _ _ z => z, rfl, q⟩
  rcases hd with hd | ⟨dd, fs, hd, hx⟩
  · exact fin none ⟨hget, h1, by unfold PySem.W.notCls; rw [hv] <;> rfl, by rw [h2, hd]; trivial⟩
  · obtain ⟨mA, ⟨od, _, _, ho, _⟩, _⟩ := (show ObjOk X.prog X.w H s.heap dd (.xd fs) from I.hok dd _ hx)
    exact fin (some od) ⟨hget, h1, by unfold PySem.W.notCls; rw [hv] <;> rfl, by rw [h2, hd]; exact ho⟩
end RB
/-! RC: len and in by an own class's methods; a class held by a local name, called with a starred list; repr in helpers. -/
namespace RB
open PySem PySem.Spec PyProof.Rows L2
section
variable {X : Cx} {CX : CXT} {k : Nat} {f C : Addr} {fd : FuncData} {ps : List Str} {sp : Sp} {E : XK}
/-- a def's run one place deeper, by a built-in -/
theorem run_in1 {pins : List (Addr × Obj)} {σ : L2.St} {H : Hp} {s : Shared} {Q : VK} {us : List Value} {vs : List V} (F : FnOk X.prog X.w X.K X.mg X.base CX k f fd ps sp) (hr : Room (k + 1) X.A) (hb : Binds X.K fd ps []) (hx : Passes CX X E)
    (I : Inv X pins σ H s) (r : Vals vs us) (h : sp vs H Q E) : wpAny (model X.prog X.w) X.A.in1 (call (.ref f) us) (EP X pins σ Q) X.xe s := by
  have hl : us.length = ps.length := by rw [← r.length]; exact F.len _ _ _ _ h
  have b := hb s us I.kIn (by rw [List.append_nil]; exact hl)
  rw [List.append_nil] at b
  refine wpAny_call (codeAny_mono (F.run X.A.in1 X.stack s H ⟨us, []⟩ us vs Q E hr.in1 I.env0.in1 b r h) fun r s' hq => ?_)
  cases r with
  | error e => exact hx pins σ H s e s' I hq
  | ok fl =>
    cases fl with
    | ret u => exact I.after hq
    | next => exact False.elim hq
    | brk => exact False.elim hq
    | cont => exact False.elim hq
/-- len(o), o an instance of the class at C with a __len__ of its own -/
def rLenO (C : Addr) (sp : Sp) (E : XK) : List V → Hp → VK → Prop := fun xs H Q => ∃ a dx fs, xs = [.ref a] ∧ H a = some (.ins C dx fs) ∧ sp [.ref a] H (fun v H' => ∃ n : Int, v = .int n ∧ (0 ≤ n ∧ n < 2 ^ 63) ∧ Q (.int n) H') E
theorem call_lenO (F : FnOk X.prog X.w X.K X.mg X.base CX k f fd ps sp) (hr : Room (k + 1) X.A) (hb : Binds X.K fd ps []) (hx : Passes CX X E) (hs : PySem.W.findIn X.K (.ref C) "__len__" = some (some (.ref f))) (hf : PySem.W.isFn X.K (.ref f) = true) :
    CallR X (.builtin "len") (rLenO C sp E) := by
  intro pins s σ H xs us Q I r h
  obtain ⟨a, dx, fs, rfl, ea, q⟩ := h
  obtain ⟨u, rfl, ru⟩ := vals1 r
  cases (show u = Value.ref a from ru)
  obtain ⟨mA, O, _⟩ := ins_get I.hok ea
  obtain ⟨od, J, _⟩ := O.look
  obtain ⟨m, fr⟩ := I.fr
  refine PySem.W.len_K fr I.ok.mod.kin J hs hf (thn (run_in1 (us := [.ref a]) (vs := [.ref a]) F hr hb hx I (.cons rfl .nil) q) fun u s1 ⟨v, H1, I1, rv, n, ev, hn, q1⟩ => ?_)
  subst ev
  obtain ⟨t, rfl⟩ := rv
  exact ⟨hn, .int n, H1, I1.tok _, ⟨_, rfl⟩, q1⟩
/-- x in o, x not in o, o an instance of the class at C with a __contains__ of its own -/
def rInO (C : Addr) (sp : Sp) (E : XK) (neg : Bool) : R2 := fun x y H Q => ∃ a dx fs, y = .ref a ∧ H a = some (.ins C dx fs) ∧ sp [y, x] H (fun v H' => ∃ b : Bool, v = .bl b ∧ Q (.bl (if neg then !b else b)) H') E
theorem op_inO (F : FnOk X.prog X.w X.K X.mg X.base CX k f fd ps sp) (hr : Room k X.A) (hb : Binds X.K fd ps []) (hx : Passes CX X E) (hs : PySem.W.findIn X.K (.ref C) "__contains__" = some (some (.ref f))) (hf : PySem.W.isFn X.K (.ref f) = true) :
    OpR X (compareOp .In) (rInO C sp E false) := by
  intro pins s σ H x y v u Q I rx ry h
  obtain ⟨a, dx, fs, rfl, ea, q⟩ := h
  cases (show u = Value.ref a from ry)
  obtain ⟨mA, O, _⟩ := ins_get I.hok ea
  obtain ⟨od, J, _⟩ := O.look
  obtain ⟨m, fr⟩ := I.fr
  refine PySem.W.in_K fr I.ok.mod.kin J hs hf (thn (run_fn (ds := []) (dvs := []) (us := [.ref a, v]) (vs := [.ref a, x]) F hr hb .nil hx I (.cons rfl (.cons rx .nil)) q) fun u s1 ⟨z, H1, I1, rz, b, ez, q1⟩ => ?_)
  subst ez
  cases rz
  exact wpAny_truthy_bool ⟨.bl b, H1, I1, rfl, q1⟩
theorem op_notInO (F : FnOk X.prog X.w X.K X.mg X.base CX k f fd ps sp) (hr : Room k X.A) (hb : Binds X.K fd ps []) (hx : Passes CX X E) (hs : PySem.W.findIn X.K (.ref C) "__contains__" = some (some (.ref f))) (hf : PySem.W.isFn X.K (.ref f) = true) :
    OpR X (compareOp .NotIn) (rInO C sp E true) := by
  intro pins s σ H x y v u Q I rx ry h
  obtain ⟨a, dx, fs, rfl, ea, q⟩ := h
  cases (show u = Value.ref a from ry)
  obtain ⟨mA, O, _⟩ := ins_get I.hok ea
  obtain ⟨od, J, _⟩ := O.look
  obtain ⟨m, fr⟩ := I.fr
  refine PySem.W.notIn_K fr I.ok.mod.kin J hs hf (thn (run_fn (ds := []) (dvs := []) (us := [.ref a, v]) (vs := [.ref a, x]) F hr hb .nil hx I (.cons rfl (.cons rx .nil)) q) fun u s1 ⟨z, H1, I1, rz, b, ez, q1⟩ => ?_)
  subst ez
  cases rz
  exact wpAny_truthy_bool ⟨.bl (!b), H1, I1, rfl, q1⟩
end
/-! ### x(*e), x a local name that holds the class at C -/
def tClsStar (K : PySem.W.Frag) (C : Addr) (sp : Sp) (E : XK) (tx te : TE) : TE := fun σ H Q => tx σ H fun z H0 => z = .ref C ∧ te σ H0 fun y H1 => ∃ a xs, y = .ref a ∧ (SqT K H1 a xs ∨ SqL K H1 a xs) ∧
  ∀ x dx, H1 x = none → H1 dx = none → dx ≠ x → sp (.ref x :: xs) (upd (upd H1 dx (.own x)) x (.ins C dx [])) (fun v H2 => v = .non ∧ Q (.ref x) H2) E
theorem pe_clsStar {X : Cx} {CX : CXT} {k : Nat} {f C : Addr} {sp : Sp} {E : XK} {x : Str} {e : Expr} {tx te : TE} {p sp_ pos : Pos} (hn : PE X (.Name x p) tx) (M : Mk X.K C f) (F : FnR X.prog X.w X.K X.mg X.base CX k f sp) (hr : Room (k + 1) X.A) (hx : Passes CX X E) (he : PE X e te)
    (hst : starEach [.Starred e sp_] X.env = [(true, eval e X.env)] := by rfl) : PE X (.Call (.Name x p) [.Starred e sp_] [] pos) (tClsStar X.K C sp E tx te) := by
  refine ⟨fun pins s σ H Q I h => ?_⟩
  refine wpAny_Call_Name_kw (thn (hn.run pins s σ H _ I h) fun u s0 ⟨z, H0, I0, rz, ez, q0⟩ => ?_)
  subst ez
  cases (show u = Value.ref C from rz)
  refine PySem.W.callWith_S (h₀ := X.base) I.ok.mod.kin M.kp (thn (he.run pins s0 σ H0 _ I0 q0) fun v s1 ⟨y, H1, I1, ry, a, xs, ey, hxs, q⟩ => ?_) hst
  subst ey
  cases (show v = Value.ref a from ry)
  exact StX.star_any I1 hxs fun us s2 I2 rv => ⟨I2.kIn, StX.run_makeR M F hr hx I2 rv q⟩
/-! ### a def that asks for repr: it is called where no repr runs -/
structure FnG (P : Program) (w : World) (K : PySem.W.Frag) (mg : Str → Option Value) (base : Heap) (CX : CXT) (k : Nat) (f : Addr) (fd : FuncData) (ps : List Str) (sp : Sp) : Prop where
  len : ∀ vs H Q E, sp vs H Q E → vs.length = ps.length
  run : ∀ (A : Around) (outer : List Env) (s : Shared) (H : Hp) (args : Args) (us : List Value) (vs : List V) (Q : VK) (E : XK), A.guards = some [] → Room k A → Env0 P w K mg base A outer s H → BindsTo s fd args (ps.zip us) → Vals vs us → sp vs H Q E →
    codeAny (model P w) A (.call (.ref f) args) (CR CX outer P w H s Q E) s
theorem FnOk.toG {P : Program} {w : World} {K : PySem.W.Frag} {mg : Str → Option Value} {base : Heap} {CX : CXT} {k : Nat} {f : Addr} {fd : FuncData} {ps : List Str} {sp : Sp} (F : FnOk P w K mg base CX k f fd ps sp) : FnG P w K mg base CX k f fd ps sp :=
  ⟨F.len, fun A outer s H args us vs Q E _ => F.run A outer s H args us vs Q E⟩
/-- such a def of the text, by its body -/
theorem Fun.okG {P : Program} {w : World} {K : PySem.W.Frag} {mg : Str → Option Value} {base : Heap} {CX : CXT} {x qual : Str} {st : Stmt} {f : Addr} {fd : FuncData} {N ps : List Str} {k : Nat} {sp : Sp} (F : Fun K x qual st f fd) (S : FnScope N ps (defScope st)) (len : ∀ vs H Q E, sp vs H Q E → vs.length = ps.length)
    (hbody : ∀ (cdv : Value) (A : Around) (outer : List Env) (s : Shared) (H : Hp) (vs : List V) (Q : VK) (E : XK), A.guards = some [] → Room k (A.deeper (envOfC qual (defScope st) s.heap.objs.size f cdv)) → sp vs H Q E →
      ∃ t, PSs (cxOf CX P w K mg base N qual (defScope st) f cdv A outer s H E) (defBody st) t ∧ t { nx := fun _ H' => Q .non H', rt := Q } (start N vs) H) : FnG P w K mg base CX (k + 1) f fd ps sp := by
  obtain ⟨oc, od, kV, doc, pm, an, cdv, ct, osl, rfl, lk, hcd⟩ := F.ex
  refine ⟨len, fun A outer s H args us vs Q E hg hr e0 hb r hsp => ?_⟩
  refine StX.run_bnd lk hcd S hr e0 (G := fun xs H2 => xs = vs ∧ H2 = H) (fun A' Ex Q' h => hb _ _ _ _ (h s H vs us e0 Un.refl rfl (fun _ _ z => z) r (len _ _ _ _ hsp) ⟨rfl, rfl⟩)) fun s2 H2 xs g hr' => ?_
  obtain ⟨rfl, rfl⟩ := g
  exact hbody cdv A outer s2 _ _ Q E hg hr' hsp
section
variable {X : Cx} {CX : CXT} {k : Nat} {f : Addr} {fd : FuncData} {ps : List Str} {sp : Sp} {E : XK} {x : Str} {p pos : Pos} {e : Expr} {es : List Expr} {t : TA}
theorem pe_callG (F : FnG X.prog X.w X.K X.mg X.base CX k f fd ps sp) (hgd : X.A.guards = some []) (hr : Room k X.A) (hg : Gl X x) (hm : X.mg x = some (.ref f)) (hk : PySem.W.keepIn X.K (.ref f) = true) (hb : Binds X.K fd ps []) (hx : Passes CX X E)
    (ha : PA X (e :: es) t) (hdb : (x == ("__debug__" : Str)) = false := by decide) (he : starEach (e :: es) X.env = (false, eval e X.env) :: starEach es X.env := by rfl) (hpl : (backTo pos (starEach es X.env)).any (·.1) = false := by rfl) :
    PE X (.Call (.Name x p) (e :: es) [] pos) (tCall sp [] E t) := by
  refine ⟨fun pins s σ H Q I h => wpAny_Call_Name_kw (ld_glob I hg hm ?_ hdb)⟩
  refine PySem.W.callWith_K (h₀ := X.base) I.ok.mod.kin hk (thn (ha.run pos pins s σ H _ I h) fun us s1 ⟨vs, H1, I1, r, q⟩ => ⟨I1.kIn, ?_⟩) he hpl
  replace q : sp (vs ++ []) H1 Q E := q
  rw [List.append_nil] at q
  have hl : (us ++ []).length = ps.length := by rw [List.append_nil, ← r.length]; exact F.len _ _ _ _ q
  have b := hb s1 us I1.kIn hl
  rw [List.append_nil] at b
  refine wpAny_call (codeAny_mono (F.run X.A X.stack s1 H1 ⟨us, []⟩ us vs Q E hgd hr I1.env0 b r q) fun r s' hq => ?_)
  cases r with
  | error e => exact hx pins σ H1 s1 e s' I1 hq
  | ok fl =>
    cases fl with
    | ret u => exact I1.after hq
    | next => exact False.elim hq
    | brk => exact False.elim hq
    | cont => exact False.elim hq
end
/-! ### calls, read without the (empty) defaults -/
def tCl (sp : Sp) (E : XK) (t : TA) : TE := fun σ H Q => t σ H fun vs H1 => sp vs H1 Q E
theorem pe_cl {X : Cx} {e : Expr} {sp : Sp} {E : XK} {t : TA} (h : PE X e (tCall sp [] E t)) : PE X e (tCl sp E t) := by
  refine ⟨fun pins s σ H Q I z => h.run pins s σ H Q I ?_⟩
  have eq : (fun (vs : List V) (H1 : Hp) => sp (vs ++ []) H1 Q E) = fun vs H1 => sp vs H1 Q E := by
    funext vs H1
    rw [List.append_nil]
  show t σ H fun vs H1 => sp (vs ++ []) H1 Q E
  rw [eq]
  exact z
def tMt (C : Addr) (m : Str) (sp : Sp) (E : XK) (ta : TE) (t : TA) : TE := fun σ H Q => ta σ H fun x H1 => ∃ a dx fs, x = .ref a ∧ H1 a = some (.ins C dx fs) ∧ fs.lookup m = none ∧ t σ H1 fun vs H2 => sp (x :: vs) H2 Q E
theorem pe_mt {X : Cx} {e : Expr} {C : Addr} {m : Str} {sp : Sp} {E : XK} {ta : TE} {t : TA} (h : PE X e (tMeth C m sp [] E ta t)) : PE X e (tMt C m sp E ta t) := by
  refine ⟨fun pins s σ H Q I z => h.run pins s σ H Q I ?_⟩
  have eq : tMt C m sp E ta t σ H Q = tMeth C m sp [] E ta t σ H Q := by
    unfold tMt tMeth
    simp only [List.append_nil]
  rw [← eq]
  exact z
def tMk (C : Addr) (sp : Sp) (E : XK) (t : TA) : TE := fun σ H Q => t σ H fun vs H1 => ∀ x dx, H1 x = none → H1 dx = none → dx ≠ x → sp (.ref x :: vs) (upd (upd H1 dx (.own x)) x (.ins C dx [])) (fun v H2 => v = .non ∧ Q (.ref x) H2) E
theorem pe_mk {X : Cx} {e : Expr} {C : Addr} {sp : Sp} {E : XK} {t : TA} (h : PE X e (tMake C sp [] E t)) : PE X e (tMk C sp E t) := by
  refine ⟨fun pins s σ H Q I z => h.run pins s σ H Q I ?_⟩
  have eq : tMk C sp E t σ H Q = tMake C sp [] E t σ H Q := by
    unfold tMk tMake
    simp only [List.append_nil]
  rw [← eq]
  exact z
/-! ### the law's own call, where no repr runs as yet -/
section
variable {P : Program} {w : World} {K : PySem.W.Frag} {mg mb : Str → Option Value} {k : Nat} {fa a : Addr} {fd : FuncData} {x : Str} {sp : Sp} {s₁ : Shared} {vs : List Value} {ns : List Int}
/-- from an abstract heap that knows at most the script -/
theorem law_at {H : Hp} (KX : K.In s₁.heap) (hns : s₁.heap.Ns mainGlobals mg) (hb : s₁.heap.Ns builtinsNs mb) (hbb : ∀ x : Str, x ≠ "__name__" → mb x = bootBuiltins x) (hlim : s₁.heap.NoLimit) (hg : s₁.gens = #[])
    (hr : Room k callerA) (hdata : ∀ o, s₁.heap.get? a = some o → ∀ es ep, o.data ≠ .dict es ep) (F : ∀ base : Heap, K.In base → base.Ns mainGlobals mg → FnG P w K mg base CX0 k fa fd [x] sp) (hbind : ∀ (s : Shared) (u : Value), BindsTo s fd ⟨[u], []⟩ [(x, u)])
    (hO : Only H) (hok : HOk P w H s₁.heap) (hA : ∀ b u, H b = some u → b = a ∧ K.lookup a = none) (q : sp [.ref a] H (fun v _ => v = .bl true) fun _ _ _ => False) :
    codeAny (model P w) callerA (.call (.ref fa) ⟨[.ref a], []⟩) (fun r s' => r = .ok (.ret (.bool true)) ∧ OldK s₁.heap s'.heap ∧ s'.os = s₁.os ∧ AllBare s'.gens) s₁ := by
  have ns : ∀ {b : Addr} {m : Str → Option Value}, s₁.heap.Ns b m → (hidT s₁.heap H).Ns b m := by
    rintro b m ⟨o, es, ep, e, d, r⟩
    refine ⟨o, es, ep, hidT_get e ?_, d, r⟩
    cases hh : H b with
    | none => rfl
    | some u =>
      obtain ⟨rfl, _⟩ := hA b u hh
      exact absurd d (hdata o e es ep)
  have kin : K.In (hidT s₁.heap H) := fun b o e => hidT_get (KX b o e) (by
    cases hh : H b with
    | none => rfl
    | some u =>
      obtain ⟨rfl, z⟩ := hA b u hh
      rw [z] at e
      cases e)
  have mod : Mod K mg (hidT s₁.heap H) := ⟨kin, ns hns, ⟨mb, ns hb, hbb⟩, let ⟨mc, h1, h2⟩ := hlim; ⟨mc, ns h1, h2⟩⟩
  have e0 : Env0 P w K mg (hidT s₁.heap H) callerA [] s₁ H := ⟨rfl, mod, fun b o e => of_hidT e, Nat.le_of_eq (hidT_size _ _), trivial, fun b z => absurd z (by simp [frs]), hok, .of_eq hg⟩
  refine codeAny_mono ((F _ kin (ns hns)).run callerA [] s₁ H ⟨[.ref a], []⟩ [.ref a] [.ref a] _ _ rfl hr e0 (hbind s₁ (.ref a)) (.cons rfl .nil) q) fun r s' h => ?_
  cases r with
  | error e => exact False.elim h
  | ok fl =>
    cases fl with
    | next => exact False.elim h
    | brk => exact False.elim h
    | cont => exact False.elim h
    | ret u =>
      obtain ⟨v, H', os, bare, un, hok', rv, ev⟩ := h
      replace ev : v = .bl true := ev
      subst ev
      cases (show u = Value.bool true from rv)
      refine ⟨rfl, OldK.of_keep fun b o e => ?_, os, bare⟩
      cases hh : H b with
      | none => exact un.keep b o e hh (by simp [frs]) (by simp)
      | some u =>
        rcases hO b with z | ⟨ob, xs, z⟩
        · rw [hh] at z
          cases z
        · obtain ⟨e1, _⟩ := hok b _ z
          obtain ⟨e2, _⟩ := hok' b _ (un.frzs b ob _ z)
          rw [e] at e1
          cases e1
          exact e2
end
theorem walk_ofG {l : PySem.W.OpenLaw} {n k : Nat} {q : Program} {loose : List Str} {XP : (Str → Option Value) → Heap → Prop} {YP : World → Heap → Prop} {d : DefRec} {K : Params → PySem.W.Frag} {sp : PySem.W.Frag → Sp} {x : Str}
    (hn : l.most = some n) (hn2 : n ≤ sizeLine) (hdf : d.params.defaults = []) (hr : Room k callerA)
    (hY : ∀ (w : World) (h : Heap), YP w h → (K w.params).In h)
    (F : ∀ (w : World) (mg : Str → Option Value) (fa : Addr) (h : Heap), (K w.params).In h → h.Ns mainGlobals mg → mg d.name = some (.ref fa) →
      ∃ fd : FuncData, (∀ (s : Shared) (u : Value), BindsTo s fd ⟨[u], []⟩ [(x, u)]) ∧
        ∀ base : Heap, (K w.params).In base → base.Ns mainGlobals mg → FnG l.prog w (K w.params) mg base CX0 k fa fd [x] (sp (K w.params)))
    (hsp : ∀ (K : PySem.W.Frag) (H : Hp) (a : Addr) (ns : List Int), ns.length ≤ n → Only H → SqL K H a (ns.map V.int) → sp K [.ref a] H (fun v _ => v = .bl true) fun _ _ _ => False) :
    PySem.W.WalkO q loose XP YP l.row.toRowW d [] (fun f vs => PySem.call f vs) := by
  refine Att.attach_call hn hdf fun w s₀ s₁ mg mb fa o pm cd doc a vs ns G Y ho hd hcd hmg hobj hints hlen hg => ?_
  have KX := hY w _ Y
  obtain ⟨fd, hb, hF⟩ := F w mg fa _ KX G.T.g hmg
  have rv := vals_ints hints
  have hlv := hints.length
  have hl : ns.length ≤ sizeLine := Nat.le_trans hlen hn2
  have hdata : ∀ o, s₁.heap.get? a = some o → ∀ es ep, o.data ≠ .dict es ep := fun o e es ep z => by
    rw [hobj] at e
    cases e
    cases z
  have hfrz : ObjOk l.prog w (fun b => if b = a then some (.frz { cls := .type "list", data := .seq vs.toArray } (.lst (ns.map V.int))) else none) s₁.heap a (.frz { cls := .type "list", data := .seq vs.toArray } (.lst (ns.map V.int))) :=
    ⟨hobj, by rw [List.length_map]; exact hl, vs, _, rv, hobj⟩
  cases hk : (K w.params).lookup a with
  | some o =>
    have e := KX a o hk
    rw [hobj] at e
    cases e
    exact law_at (H := fun _ => none) KX G.T.g G.T.b G.T.builtins G.T.nolimit hg hr hdata hF hb (fun _ => .inl rfl) (fun b u z => by cases z) (fun b u z => by cases z)
      (hsp _ _ a ns hlen (fun _ => .inl rfl) (.inr ⟨_, vs.toArray, _, hk, rfl, rfl, rfl, by rw [List.size_toArray, hlv]; exact hl, by simpa using rv⟩))
  | none =>
    have only : Only (fun b => if b = a then some (HO.frz { cls := .type "list", data := .seq vs.toArray } (.lst (ns.map V.int))) else none) := fun b => by
      by_cases hb : b = a
      · exact .inr ⟨_, _, if_pos hb⟩
      · exact .inl (if_neg hb)
    refine law_at (H := fun b => if b = a then some (HO.frz { cls := .type "list", data := .seq vs.toArray } (.lst (ns.map V.int))) else none) KX G.T.g G.T.b G.T.builtins G.T.nolimit hg hr hdata hF hb only (fun b u z => ?_) (fun b u z => ?_)
      (hsp _ _ a ns hlen only (.inl (.inr ⟨_, if_pos rfl⟩)))
    · by_cases hb : b = a
      · have z' := (if_pos hb).symm.trans z
        cases z'
        subst hb
        exact hfrz
      · have z' := (if_neg hb).symm.trans z
        cases z'
    · by_cases hb : b = a
      · exact ⟨hb, hk⟩
      · have z' := (if_neg hb).symm.trans z
        cases z'
end RB
/-! RK: tuple * 1, () * n: the same tuple; calls with keywords alone. -/
namespace RB
open PySem PySem.Spec PyProof.Rows L2
theorem tuple_mul1 (l : Addr) (items : Array Value) (n : Nat) (dd : Option Addr) (sl : Array (Option Value)) (x : Int) (u : Tok) (c0 : (decide (x < -(2 ^ 63)) || decide (x ≥ 2 ^ 63)) = false) (c1 : (items.isEmpty || x == 1) = true) :
    Meets (Builtin.«tuple.__mul__» ⟨[.ref l, .int x u], []⟩) (fun _ R s => s.heap.get? l = some { cls := .type "tuple", dict := dd, data := .seq items n, slots := sl } ∧ R (.ok (.ret (Value.ref l))) s) :=
  .of_wp fun prog w A R s h => by
    obtain ⟨hp, g, d, tk, os⟩ := s
    obtain ⟨hl, h⟩ := h
    have f1 := AutoSeq1.idx_int
    wp_walk using wpAny_loadPart' hl
    repeat (first
      | (refine wpAny_ite_false (decide_eq_false (by rw [c0]; exact Bool.false_ne_true)) ?_; wp_walk using wpAny_loadPart' hl)
      | (refine wpAny_ite_true (decide_eq_true c1) ?_; wp_walk using wpAny_loadPart' hl))
    exact ⟨_, rfl, h⟩
def rRepT1 (K : PySem.W.Frag) : R2 := fun x y H Q => ∃ l k xs, x = .ref l ∧ y = .int k ∧ SqT K H l xs ∧ (xs = [] ∨ k = 1) ∧ -1000 ≤ k ∧ k ≤ 1000 ∧ Q (.ref l) H
theorem op_repT1 {X : Cx} : OpR X (binaryOp .Mult) (rRepT1 X.K) := by
  intro pins s σ H x y v u Q I rx ry h
  obtain ⟨l, k, xs, rfl, rfl, hT, hne, h1, h2, q⟩ := h
  cases rx
  obtain ⟨t, rfl⟩ := ry
  obtain ⟨its, r, ⟨⟨cls, dd, data, sl⟩, ho, hc, n, hd⟩, hs⟩ := I.tuple hT
  simp only at hc hd
  subst hc hd
  have c0 : (decide (k < -(2 ^ 63)) || decide (k ≥ 2 ^ 63)) = false := by
    rw [decide_eq_false (by omega), decide_eq_false (by omega)] <;> rfl
  have c1 : (its.toArray.isEmpty || k == 1) = true := by
    rcases hne with e | e
    · subst e
      cases r
      rfl
    · subst e
      simp
  refine wpAny_binaryOp_repeat_ref (T := "tuple") (U := "int") (by decide) ⟨_, ho, rfl⟩ (fun s' => typeIs_int s' k t) noFill_tuple_mul F.fills_int_mul F.slot_int_rmul repeat_tuple F.slot_int_index.lookup
    (call_meets F.slot_int_rmul (typeIs_int s k t) F.entry_int_rmul (F.args_int_rmul_2 _ _) (int_rmul_tuple k t l its.toArray n dd sl)
      ⟨ho, rfl, ⟨_, ho, rfl⟩, call_meets F.slot_tuple_mul ⟨_, ho, rfl⟩ F.entry_tuple_mul (F.args_tuple_mul_2 _ _) (tuple_mul1 l its.toArray n dd sl k t c0 c1) ⟨ho, ?_⟩⟩)
  exact ⟨.ref l, H, I, rfl, q⟩
section
variable {X : Cx} {CX : CXT} {k : Nat} {f : Addr} {fd : FuncData} {ps ks : List Str} {sp : Sp} {E : XK} {x : Str} {p pos : Pos} {kws : List Keyword} {tk : TA} {g : List Value → List Value → List Value} {gV : List V → List V → List V}
/-- f(k = v, ..) -/
def tCallK0 (sp : Sp) (gV : List V → List V → List V) (E : XK) (tk : TA) : TE := fun σ H Q => tk σ H fun zs H2 => sp (gV [] zs) H2 Q E
theorem pe_callK0 (F : FnOk X.prog X.w X.K X.mg X.base CX k f fd ps sp) (hr : Room k X.A) (hg : Gl X x) (hm : X.mg x = some (.ref f)) (hk : PySem.W.keepIn X.K (.ref f) = true) (hb : KBinds X.K fd ps ks g gV) (hx : Passes CX X E)
    (hkw : PK X kws tk) (hall : (backToKw pos (keywordEach kws X.env)).all (·.1.isSome) = true := by rfl) (hks : (backToKw pos (keywordEach kws X.env)).filterMap (·.1) = ks := by rfl)
    (hdb : (x == ("__debug__" : Str)) = false := by decide)
    (hpl : ((backTo pos (starEach [] X.env)).any (·.1) || (backToKw pos (keywordEach kws X.env)).any (·.1.isNone)) = false := by rfl) :
    PE X (.Call (.Name x p) [] kws pos) (tCallK0 sp gV E tk) := by
  refine ⟨fun pins s σ H Q I h => ?_⟩
  refine wpAny_Call_Name_kw (ld_glob I hg hm ?_ hdb)
  refine PySem.W.callWith_KW0 (h₀ := X.base) I.ok.mod.kin hk hall ?_ hpl
  refine thn (hkw.run pos pins s σ H _ I h) fun ws s2 ⟨zs, H2, I2, rz, q2⟩ => ⟨I2.kIn, ?_⟩
  rw [hks]
  exact run_fnk F hr hb hx I2 .nil rz q2
end
/-! ### which value comes to which parameter -/
def pick {α : Type} (d : α) (n m : Nat) (is : List Nat) (us ws : List α) : List α := if us.length = n ∧ ws.length = m then is.map fun i => (us ++ ws).getD i d else []
theorem Paired.getD {α β : Type} {F : α → β → Prop} {a : α} {b : β} (hd : F a b) : ∀ {xs : List α} {ys : List β}, Paired F xs ys → ∀ i, F (xs.getD i a) (ys.getD i b)
  | _, _, .nil, i => by simpa using hd
  | _, _, .cons h _, 0 => h
  | _, _, .cons _ r, i + 1 => Paired.getD hd r i
theorem pick_rel {n m : Nat} {is : List Nat} {vs zs : List V} {us ws : List Value} (r : Vals vs us) (rz : Vals zs ws) : Vals (pick V.non n m is vs zs) (pick Value.none n m is us ws) := by
  unfold pick
  rw [r.length, rz.length]
  split
  · have ra : Vals (vs ++ zs) (us ++ ws) := r.append rz
    clear r rz
    induction is with
    | nil => exact .nil
    | cons i is ih => exact .cons (Paired.getD (show RelV V.non Value.none from rfl) ra i) ih
  · exact .nil
theorem kbinds {K : PySem.W.Frag} {x qual : Str} {st : Stmt} {f : Addr} {fd : FuncData} {ps ks : List Str} {n m : Nat} {is : List Nat} (F : L2.Fun K x qual st f fd)
    (h : ∀ (kV doc pm : Value) (an : Option Addr) (cdv ct : Value) (us ws : List Value), us.length = n → ws.length = m → bindArgs (PySem.W.fnOf x qual (defArgs st) (defBody st) (defScope st) .none kV doc pm an cdv ct) ⟨us, ks.zip ws⟩ = pure (ps.zip (pick Value.none n m is us ws)))
    (hps : ps ≠ [] := by decide) : KBinds K fd ps ks (pick Value.none n m is) (pick V.non n m is) := by
  obtain ⟨oc, od, kV, doc, pm, an, cdv, ct, osl, rfl, lk, hcd⟩ := F.ex
  refine ⟨fun s us ws _ hl => ?_, fun r rz => pick_rel r rz⟩
  by_cases hn : us.length = n ∧ ws.length = m
  · exact .of_eq (h kV doc pm an cdv ct us ws hn.1 hn.2)
  · unfold pick at hl
    rw [if_neg hn] at hl
    exact absurd (List.eq_nil_of_length_eq_zero hl.symm) hps
end RB
/-! RU: one rule an operator, whatever the kinds of its operands; steps of readings. -/
namespace RB
open PySem PySem.Spec PyProof.Rows L2
/-! ### == of data, with the empty dict beside -/
def rEqQ (K : PySem.W.Frag) (neg : Bool) : R2 := fun x y H Q => ∃ d e, Dq K H x d ∧ Dq K H y e ∧ SeqAt.shaped d = true ∧ SeqAt.shaped e = true ∧ Q (.bl (if neg then !PyData.eqv d e else PyData.eqv d e)) H
theorem op_eqQ {X : Cx} (hu : X.A.units + 64 < cLine) : OpR X (compareOp .Eq) (rEqQ X.K false) := by
  intro pins s σ H x y v u Q I rx ry h
  obtain ⟨d, e, hd, he, sd, se, q⟩ := h
  obtain ⟨as, r1⟩ := Dq.reads I d x v hd rx
  obtain ⟨bs, r2⟩ := Dq.reads I e y u he ry
  exact SeqAt.compareEq_shaped r1 r2 sd se hu ⟨.bl _, H, I, rfl, q⟩
theorem op_neQ {X : Cx} (hu : X.A.units + 64 < cLine) : OpR X (compareOp .NotEq) (rEqQ X.K true) := by
  intro pins s σ H x y v u Q I rx ry h
  obtain ⟨d, e, hd, he, sd, se, q⟩ := h
  obtain ⟨as, r1⟩ := Dq.reads I d x v hd rx
  obtain ⟨bs, r2⟩ := Dq.reads I e y u he ry
  exact SeqAt.compareNe_shaped r1 r2 sd se hu ⟨.bl _, H, I, rfl, q⟩
/-! ### one rule an operator -/
def rAddU (K : PySem.W.Frag) : R2 := fun x y H Q => rI0 (fun i j => .int (i + j)) x y H Q ∨ rCat x y H Q ∨ (∃ i j, x = .str i ∧ y = .str j ∧ i.length + j.length ≤ sizeLine ∧ Q (.str (i ++ j)) H) ∨ rCatA K x y H Q
def rSubU : R2 := rI0 fun i j => .int (i - j)
def rMulU (K : PySem.W.Frag) : R2 := fun x y H Q => rI CMul (fun i j => .int (i * j)) x y H Q ∨ rRep x y H Q ∨ rRepT K x y H Q ∨ rRepT1 K x y H Q
def rDivU : R2 := rI CDiv fun i j => .int (i / j)
def rModU : R2 := rI (fun _ j => 0 < j) fun i j => .int (i % j)
def rPowU : R2 := rI CPow fun i j => .int (i ^ j.toNat)
def rLt : R2 := rI0 fun i j => .bl (decide (i < j))
def rLe : R2 := rI0 fun i j => .bl (decide (i ≤ j))
def rGt : R2 := rI0 fun i j => .bl (decide (j < i))
def rGe : R2 := rI0 fun i j => .bl (decide (j ≤ i))
def rEqU (K : PySem.W.Frag) : R2 := fun x y H Q => rEq x y H Q ∨ rEqQ K false x y H Q
def rNeU (K : PySem.W.Frag) : R2 := fun x y H Q => rNe x y H Q ∨ rEqQ K true x y H Q
def rIsNU : R2 := fun x y H Q => y = .non ∧ Q (.bl (decide (x = .non))) H
def rNotNU : R2 := fun x y H Q => y = .non ∧ Q (.bl (!decide (x = .non))) H
def rInSign (neg : Bool) : R2 := fun x y H Q => ∃ (c : Nat) (z : Str), x = .str ⟨#[c]⟩ ∧ y = .str z ∧ Q (.bl (if neg then !decide (c ∈ z.cps.toList) else decide (c ∈ z.cps.toList))) H
def rInU (K : PySem.W.Frag) (neg : Bool) : R2 := fun x y H Q => rIn K neg x y H Q ∨ rInSign neg x y H Q
section
variable {X : Cx}
theorem op_addU : OpR X (binaryOp .Add) (rAddU X.K) := op_add.or (op_cat.or (op_add_str.or op_catA))
theorem op_subU : OpR X (binaryOp .Sub) rSubU := op_sub
theorem op_mulU : OpR X (binaryOp .Mult) (rMulU X.K) := op_mul.or (op_rep.or (op_repT.or op_repT1))
theorem op_divU : OpR X (binaryOp .FloorDiv) rDivU := op_fdiv
theorem op_modU : OpR X (binaryOp .Mod) rModU := op_mod
theorem op_powU : OpR X (binaryOp .Pow) rPowU := op_pow
theorem op_ltU : OpR X (compareOp .Lt) rLt := op_lt
theorem op_leU : OpR X (compareOp .LtE) rLe := op_le
theorem op_gtU : OpR X (compareOp .Gt) rGt := op_gt
theorem op_geU : OpR X (compareOp .GtE) rGe := op_ge
theorem op_eqU (hu : X.A.units + 64 < cLine) : OpR X (compareOp .Eq) (rEqU X.K) := op_eq.or (op_eqQ hu)
theorem op_neU (hu : X.A.units + 64 < cLine) : OpR X (compareOp .NotEq) (rNeU X.K) := op_ne.or (op_neQ hu)
theorem op_isNU : OpR X (compareOp .Is) rIsNU := op_isN
theorem op_notNU : OpR X (compareOp .IsNot) rNotNU := op_notN
theorem op_inU : OpR X (compareOp .In) (rInU X.K false) := op_in_seq.or op_in_sign
theorem op_notInU : OpR X (compareOp .NotIn) (rInU X.K true) := op_notIn_seq.or op_notIn_sign
end
/-- -a -/
def rNegU : V → Hp → VK → Prop := rU fun i => .int (-i)
theorem un_negU {X : Cx} : UnR X (unaryOp .USub) rNegU := un_neg
/-- len -/
def rLenU (K : PySem.W.Frag) : List V → Hp → VK → Prop := fun xs H Q => (∃ p ys, xs = [.ref p] ∧ (SqL K H p ys ∨ SqT K H p ys) ∧ Q (.int ys.length) H) ∨ (∃ z, xs = [.str z] ∧ z.length ≤ sizeLine ∧ Q (.int z.length) H) ∨ ∃ a kvs, xs = [V.ref a] ∧ H a = some (.dK kvs) ∧ Q (.int kvs.length) H
theorem call_lenU {X : Cx} : CallR X (.builtin "len") (rLenU X.K) := call_len_seq.or (call_len_str.or call_lenD)
def rMax2 : List V → Hp → VK → Prop := fun xs H Q => ∃ i j, xs = [.int i, .int j] ∧ Q (.int (if j > i then j else i)) H
def rMin2 : List V → Hp → VK → Prop := fun xs H Q => ∃ i j, xs = [.int i, .int j] ∧ Q (.int (if j < i then j else i)) H
def rAbs : List V → Hp → VK → Prop := fun xs H Q => ∃ i, xs = [.int i] ∧ Q (.int (if i < 0 then -i else i)) H
def rInt1 : List V → Hp → VK → Prop := fun xs H Q => (∃ i, xs = [.int i] ∧ Q (.int i) H) ∨ ∃ k, xs = [.bl k] ∧ Q (.int (if k then 1 else 0)) H
def rList1 (K : PySem.W.Frag) : List V → Hp → VK → Prop := fun xs H Q => ∃ p ys, xs = [.ref p] ∧ (SqL K H p ys ∨ SqT K H p ys) ∧ ∀ l, H l = none → Q (.ref l) (upd H l (.lst ys))
def rTuple1 (K : PySem.W.Frag) : List V → Hp → VK → Prop := fun xs H Q => ∃ p ys, xs = [.ref p] ∧ ((SqL K H p ys ∧ ∀ l, H l = none → Q (.ref l) (upd H l (.tup ys))) ∨ (SqT K H p ys ∧ Q (.ref p) H))
theorem call_max2U {X : Cx} (hc : X.calm = true) : CallR X (.builtin "max") rMax2 := call_max2 hc
theorem call_min2U {X : Cx} (hc : X.calm = true) : CallR X (.builtin "min") rMin2 := call_min2 hc
theorem call_absU {X : Cx} : CallR X (.builtin "abs") rAbs := call_abs
theorem call_intU {X : Cx} : CallR X (.type "int") rInt1 := call_int1
theorem call_listU {X : Cx} : CallR X (.type "list") (rList1 X.K) := call_list_of
theorem call_tupleU {X : Cx} : CallR X (.type "tuple") (rTuple1 X.K) := call_tuple_of
/-- slices -/
def rSlU (K : PySem.W.Frag) : V → Option Int → Option Int → Hp → VK → Prop := fun x lo hi H Q => rSlL K x lo hi H Q ∨ rSlS x lo hi H Q ∨ rSlA K x lo hi H Q
theorem sl_U {X : Cx} : SlR X (rSlU X.K) := sl_list.or (sl_str.or sl_tupA)
/-- what a for walks: a list, a tuple, a text -/
def iAny (K : PySem.W.Frag) (te : TE) : TI := fun σ H R => te σ H fun x H1 => (∃ a, x = .ref a ∧ (∃ xs, SqL K H1 a xs) ∧ R (Itl K a) H1) ∨ (∃ a, x = .ref a ∧ (∃ xs, SqT K H1 a xs) ∧ R (Itt K a) H1) ∨ ∃ z, x = .str z ∧ R (Its z) H1
theorem pi_any {X : Cx} {tg e : Expr} {te : TE} (he : PE X e te) : PI X tg e (iAny X.K te) := by
  refine ⟨fun pins s σ H R I h => thn (he.run pins s σ H _ I h) fun v s1 ⟨x, H1, I1, r1, q1⟩ => ?_⟩
  rcases q1 with ⟨a, rfl, ⟨xs, hq⟩, q⟩ | ⟨a, rfl, ⟨xs, hq⟩, q⟩ | ⟨z, rfl, q⟩
  · cases (show v = Value.ref a from r1)
    obtain ⟨its, rv, p, hz⟩ := I1.list hq
    exact wpAny_pyIter_list p.isList (pi_one (tk := s1.toks) I1 _ (turn_list a _) ⟨_, Heap.get?_push_size _ rfl, rfl, rfl⟩ q)
  · cases (show v = Value.ref a from r1)
    obtain ⟨its, rv, p, hz⟩ := I1.tuple hq
    exact wpAny_pyIter_tuple (show s1.heap.IsTuple a its.toArray from p) (pi_one (tk := s1.toks) I1 _ (turn_tuple a _) ⟨_, Heap.get?_push_size _ rfl, rfl, rfl⟩ q)
  · obtain ⟨t, rfl⟩ := r1
    cases ha : z.cps.all (· < 128)
    · exact wpAny_pyIter_wide ha (pi_one (tk := s1.toks) I1 _ (turn_str _ z t "str_iterator" (.inr rfl)) ⟨_, Heap.get?_push_size _ rfl, rfl, rfl⟩ q)
    · exact wpAny_pyIter_ascii ha (pi_one (tk := s1.toks) I1 _ (turn_str _ z t "str_ascii_iterator" (.inl rfl)) ⟨_, Heap.get?_push_size _ rfl, rfl, rfl⟩ q)
/-- module constants -/
theorem pe_gs {X : Cx} {x z : Str} {pos : Pos} (hg : Gl X x) (hm : ∃ t, X.mg x = some (.str z t)) (hd : (x == ("__debug__" : Str)) = false := by decide) : PE X (.Name x pos) (tC (.str z)) := by
  obtain ⟨t, e⟩ := hm
  exact pe_glob hg e ⟨t, rfl⟩ hd
theorem pe_gi {X : Cx} {x : Str} {z : Int} {pos : Pos} (hg : Gl X x) (hm : ∃ t, X.mg x = some (.int z t)) (hd : (x == ("__debug__" : Str)) = false := by decide) : PE X (.Name x pos) (tC (.int z)) := by
  obtain ⟨t, e⟩ := hm
  exact pe_glob hg e ⟨t, rfl⟩ hd
theorem pe_gr {X : Cx} {x : Str} {a : Addr} {pos : Pos} (hg : Gl X x) (hm : X.mg x = some (.ref a)) (hd : (x == ("__debug__" : Str)) = false := by decide) : PE X (.Name x pos) (tC (.ref a)) := pe_glob hg hm rfl hd
/-- what a raising def lets out, called in a def that lets it out -/
theorem passR {X : Cx} {E : XK} {E₁ : Value → Shared → Prop} (hs : X.stack = X.env :: X.outer) (hf : X.env.frame = some X.env.locals) (hex : X.ex = [])
    (hx : X.xe = fun e s' => wpAny (model X.prog X.w) X.A (leaving X.env e) (fun _ s'' => L2.CX X.prog X.w X.outer X.H_0 X.s_0 E e s'') E₁ s') : Passes (L2.CX X.prog X.w) X E :=
  passes_call (takes_of hs hf hex hx) fun _ _ _ _ h => h
end RB
/-! RS: calls in a try (the wish by the slots), raise and try as readings; steps through readings. -/
namespace RB
open PySem PySem.Spec PyProof.Rows L2
/-! ### calls in a try -/
section
variable {X : Cx} {CX : CXT} {k : Nat} {f C p g : Addr} {fd : FuncData} {ps : List Str} {sp : Sp} {E : L2.St → XK} {x m : Str} {mc : Value} {pos apos p1 : Pos} {e o : Expr} {es : List Expr} {ta : TE} {t : TA}
theorem run_fnRS {pins : List (Addr × Obj)} {σ : L2.St} {H : Hp} {s : Shared} {Q : VK} {us : List Value} {vs : List V} (F : FnR X.prog X.w X.K X.mg X.base CX k g sp) (hr : Room k X.A) (hx : PassesAt CX X σ (E σ))
    (I : Inv X pins σ H s) (r : Vals vs us) (h : sp vs H Q (E σ)) :
    codeAny (model X.prog X.w) X.A (.call (.ref g) ⟨us, []⟩) (fun r s' => match r with | .ok (.ret v) => EP X pins σ Q v s' | .ok _ => False | .error e => X.xe e s') s := by
  refine (codeAny_mono (F X.A X.stack s H us vs Q (E σ) hr I.env0 r h) fun r s' hq => ?_)
  cases r with
  | error e => exact hx pins H s e s' I hq
  | ok fl =>
    cases fl with
    | ret u => exact I.after hq
    | next => exact False.elim hq
    | brk => exact False.elim hq
    | cont => exact False.elim hq
theorem run_cmS {pins : List (Addr × Obj)} {σ : L2.St} {H : Hp} {s : Shared} {q : Addr} {Q : VK} {us : List Value} {vs : List V} (F : FnR X.prog X.w X.K X.mg X.base CX k g sp) (hr : Room k X.A) (hx : PassesAt CX X σ (E σ))
    (I : Inv X ((q, PySem.W.methodObj (.ref g) (.ref C)) :: pins) σ H s) (r : Vals vs us) (h : sp (.ref C :: vs) H Q (E σ)) : wpAny (model X.prog X.w) X.A (call (.ref q) us) (EP X pins σ Q) X.xe s := by
  have z : wpAny (model X.prog X.w) X.A (call (.ref q) us) (EP X ((q, PySem.W.methodObj (.ref g) (.ref C)) :: pins) σ Q) X.xe s :=
    wpAny_call (PySem.W.method_call (ClX.pin_at I) (run_fnRS (us := .ref C :: us) (vs := .ref C :: vs) F hr hx I (.cons rfl r) h))
  exact thn z fun _ _ y => ClX.unpinE y
def tCMethS (C : Addr) (sp : Sp) (E : L2.St → XK) (ta : TE) (t : TA) : TE := fun σ H Q => ta σ H fun x H1 => x = .ref C ∧ t σ H1 fun vs H2 => sp (.ref C :: vs) H2 Q (E σ)
theorem pe_cmethS {pl : Sem Bool} (he : PE X o ta) (r : ClX.CRead X.K C mc) (c : ClX.CMet X.K C mc m p g) (F : FnR X.prog X.w X.K X.mg X.base CX k g sp) (hr : Room k X.A) (hx : ∀ σ, PassesAt CX X σ (E σ)) (ha : PA X (e :: es) t)
    (hst : starEach (e :: es) X.env = (false, eval e X.env) :: starEach es X.env := by rfl) (hpl : (backTo pos (starEach es X.env)).any (·.1) = false := by rfl)
    (ht : eval (.Call (.Attribute o m apos) (e :: es) [] pos) X.env = (do
      let ov ← eval o X.env
      standAt apos.atName
      let (f, first) ← holding [ov] (getMethod ov m pl)
      callWith pos f first (backTo pos (starEach (e :: es) X.env)) (backToKw pos (keywordEach [] X.env))) := by rfl) :
    PE X (.Call (.Attribute o m apos) (e :: es) [] pos) (tCMethS C sp E ta t) := by
  refine ⟨fun pins s σ H Q I h => ?_⟩
  refine PySem.W.methodCall_KW (pl := pl) (thn (he.run pins s σ H _ I h) fun u s1 ⟨x, H1, I1, rx, ex, q⟩ => ?_) ht
  subst ex
  obtain rfl : u = Value.ref C := rx
  refine ClX.getmethcm_ok I1 r c fun s2 I2 => ?_
  refine ClX.callwith_cm I2 (ClX.base_none I1 (Nat.le_refl _)) c.fi (thn (ha.run pos _ s2 σ H1 _ I2 q) fun us s3 ⟨vs, H2, I3, rv, q2⟩ => ⟨⟨ClX.pin_at I3, I3.kIn⟩, ?_⟩) hst hpl
  exact run_cmS F hr (hx σ) I3 rv q2
/-- o.m(..) in a try -/
def tMtS (C : Addr) (m : Str) (sp : Sp) (E : L2.St → XK) (ta : TE) (t : TA) : TE := fun σ H Q => ta σ H fun x H1 => ∃ a dx fs, x = .ref a ∧ H1 a = some (.ins C dx fs) ∧ fs.lookup m = none ∧ t σ H1 fun vs H2 => sp (x :: vs) H2 Q (E σ)
theorem pe_mtS {pl : Sem Bool} (he : PE X o ta) (c : Cls X.K C) (hm : Meth X.K C m f) (F : FnOk X.prog X.w X.K X.mg X.base CX k f fd ps sp) (hr : Room k X.A) (hb : Binds X.K fd ps []) (hx : ∀ σ, PassesAt CX X σ (E σ)) (ha : PA X (e :: es) t)
    (hst : starEach (e :: es) X.env = (false, eval e X.env) :: starEach es X.env := by rfl) (hpl : (backTo pos (starEach es X.env)).any (·.1) = false := by rfl)
    (ht : eval (.Call (.Attribute o m apos) (e :: es) [] pos) X.env = (do
      let ov ← eval o X.env
      standAt apos.atName
      let (f, first) ← holding [ov] (getMethod ov m pl)
      callWith pos f first (backTo pos (starEach (e :: es) X.env)) (backToKw pos (keywordEach [] X.env))) := by rfl) :
    PE X (.Call (.Attribute o m apos) (e :: es) [] pos) (tMtS C m sp E ta t) := by
  refine ⟨fun pins s σ H Q I h => ?_⟩
  refine PySem.W.methodCall_KW (pl := pl) (thn (he.run pins s σ H _ I h) fun u s1 ⟨x, H1, I1, rx, a, dx, fs, ex, ea, l, q⟩ => ?_) ht
  subst ex
  obtain rfl : u = Value.ref a := rx
  refine getmeth_ok I1 ea c hm l ?_
  refine PySem.W.callWith_K (first := [.ref a]) (h₀ := X.base) I.ok.mod.kin hm.kp (thn (ha.run pos _ s1 σ H1 _ I1 q) fun us s2 ⟨vs, H2, I2, r, q2⟩ => ⟨I2.kIn, ?_⟩) hst hpl
  exact run_fnS (us := .ref a :: us) (vs := .ref a :: vs) F hr hb (hx σ) I2 (.cons rfl r) q2
end
/-! ### try and raise, as readings -/
def tTryN (K : PySem.W.Frag) (Wout : WX) (l : List (Value × Nat × Suite)) (tb : WX → TS) : TS := fun D σ H => tb (wNamed K Wout D l) D σ H
def tRaiseX (C : Addr) (f : Str) (E : XK) (ta : TA) : TS := fun _ σ H => tExMk C f ta σ H fun cls d H' => E cls d H'
/-! ### def f(self, *v) -/
/-- the promise by what is handed over, sp by the parameters: what is left over is a new tuple -/
def starSp (n : Nat) (sp : Sp) : Sp := fun vs H Q E => ∃ ws rest, vs = ws ++ rest ∧ ws.length = n ∧ rest.length ≤ sizeLine ∧ ∀ p, H p = none → sp (ws ++ [V.ref p]) (upd H p (.tup rest)) Q E
theorem okStar {P : Program} {w : World} {K : PySem.W.Frag} {mg : Str → Option Value} {base : Heap} {x qual pv : Str} {st : Stmt} {f : Addr} {fd : FuncData} {N ps : List Str} {k : Nat} {sp : Sp} (F : L2.Fun K x qual st f fd) (S : FnScope N (ps ++ [pv]) (defScope st))
    (hb : ∀ (kV doc pm : Value) (an : Option Addr) (cdv ct : Value) (us rest : List Value), us.length = ps.length → bindArgs (PySem.W.fnOf x qual (defArgs st) (defBody st) (defScope st) .none kV doc pm an cdv ct) ⟨us ++ rest, []⟩ = (newTuple rest >>= fun t => pure (ps.zip us ++ [(pv, t)])))
    (hbody : ∀ (cdv : Value) (A : Around) (outer : List Env) (s : Shared) (H : Hp) (vs : List V) (Q : VK) (E : XK), Room k (A.deeper (envOfC qual (defScope st) s.heap.objs.size f cdv)) → sp vs H Q E →
      ∃ t, PSs (cxOf (L2.CX P w) P w K mg base N qual (defScope st) f cdv A outer s H E) (defBody st) t ∧ t { nx := fun _ H' => Q .non H', rt := Q } (start N vs) H) : FnR P w K mg base (L2.CX P w) (k + 1) f (starSp ps.length sp) := by
  obtain ⟨oc, od, kV, doc, pm, an, cdv, ct, osl, rfl, lk, hcd⟩ := F.ex
  exact StX.fn_star lk hcd S StX.cxUp (hb kV doc pm an cdv ct) (hbody cdv)
theorem okStar1 {P : Program} {w : World} {K : PySem.W.Frag} {mg : Str → Option Value} {base : Heap} {x qual p1 pv : Str} {st : Stmt} {f : Addr} {fd : FuncData} {N : List Str} {k : Nat} {sp : Sp} (F : L2.Fun K x qual st f fd) (S : FnScope N [p1, pv] (defScope st))
    (h0 : ∀ (kV doc pm : Value) (an : Option Addr) (cdv ct a : Value), bindArgs (PySem.W.fnOf x qual (defArgs st) (defBody st) (defScope st) .none kV doc pm an cdv ct) ⟨[a], []⟩ = (newTuple [] >>= fun t => pure [(p1, a), (pv, t)]))
    (h1 : ∀ (kV doc pm : Value) (an : Option Addr) (cdv ct a r : Value) (rs : List Value), bindArgs (PySem.W.fnOf x qual (defArgs st) (defBody st) (defScope st) .none kV doc pm an cdv ct) ⟨a :: r :: rs, []⟩ = (newTuple (r :: rs) >>= fun t => pure [(p1, a), (pv, t)]))
    (hbody : ∀ (cdv : Value) (A : Around) (outer : List Env) (s : Shared) (H : Hp) (vs : List V) (Q : VK) (E : XK), Room k (A.deeper (envOfC qual (defScope st) s.heap.objs.size f cdv)) → sp vs H Q E →
      ∃ t, PSs (cxOf (L2.CX P w) P w K mg base N qual (defScope st) f cdv A outer s H E) (defBody st) t ∧ t { nx := fun _ H' => Q .non H', rt := Q } (start N vs) H) : FnR P w K mg base (L2.CX P w) (k + 1) f (starSp 1 sp) :=
  okStar (ps := [p1]) F S (fun kV doc pm an cdv ct us rest hl => match us, rest, hl with | [a], [], _ => h0 kV doc pm an cdv ct a | [a], r :: rs, _ => h1 kV doc pm an cdv ct a r rs) hbody
/-! ### a new object -/
def newAt (H : Hp) (o : HO) (q : Addr → Hp → Prop) : Prop := ∀ p, H p = none → q p (upd H p o)
theorem new_ {H : Hp} {o : HO} {q : Addr → Hp → Prop} (h : ∀ p G, H p = none → G = upd H p o → Same H G → G p = some o → q p G) : newAt H o q := fun p hp =>
  h p _ hp rfl (fun c u e => (upd_ne (ne_of_none e hp)).trans e) upd_same
theorem new_M {M : List Addr} {H : Hp} {o : HO} {q : Addr → Hp → Prop} (hM : ∀ b ∈ M, ∃ u, H b = some u) (h : ∀ p G, H p = none → G = upd H p o → (∀ c u, H c = some u → G c = some u) → G p = some o → p ∉ M → q p G) : newAt H o q := fun p hp =>
  h p _ hp rfl (fun c u e => (upd_ne (ne_of_none e hp)).trans e) upd_same fun m => by
    obtain ⟨u, hu⟩ := hM p m
    rw [hu] at hp
    cases hp
/-! ### steps -/
section
variable {K : PySem.W.Frag} {σ : L2.St} {H : Hp} {Q : VK} {D : Ends} {i j l : Nat} {v : V} {te ta tb tx to : TE} {t u : TS} {tA : TA} {c d : TT} {QT : Bool → Hp → Prop} {QA : List V → Hp → Prop} {r r' : R2}
theorem g_var (h : σ[i]? = some (some v)) (q : Q v H) : tVar i σ H Q := ⟨v, h, q⟩
theorem g_c (q : Q v H) : tC v σ H Q := q
theorem g_op (h : ta σ H fun x H1 => tb σ H1 fun y H2 => r x y H2 Q) : tOp r ta tb σ H Q := h
theorem g_un {ru : V → Hp → VK → Prop} (h : ta σ H fun x H1 => ru x H1 Q) : tUn ru ta σ H Q := h
theorem g_notV (h : ta σ H fun x H1 => ∃ c, x = .bl c ∧ Q (.bl (!c)) H1) : tNotV ta σ H Q := h
theorem g_andV (h : ta σ H fun x H1 => ∃ c, x = .bl c ∧ if c = true then tb σ H1 Q else Q (.bl false) H1) : tAndV ta tb σ H Q := h
theorem g_orV (h : ta σ H fun x H1 => ∃ c, x = .bl c ∧ if c = true then Q (.bl true) H1 else tb σ H1 Q) : tOrV ta tb σ H Q := h
theorem g_if (h : c σ H fun b H1 => if b = true then ta σ H1 Q else tb σ H1 Q) : tIf c ta tb σ H Q := h
theorem g_chain (h : ta σ H fun x H1 => tb σ H1 fun y H2 => r x y H2 fun z H3 => ∃ k, z = .bl k ∧ if k = true then te σ H3 fun w H4 => r' y w H4 Q else Q (.bl false) H3) : tChain r r' ta tb te σ H Q := h
theorem g_nil (q : QA [] H) : tNil σ H QA := q
theorem g_cons (h : ta σ H fun x H1 => tA σ H1 fun xs H2 => QA (x :: xs) H2) : tCons ta tA σ H QA := h
theorem g_lst (h : tA σ H fun xs H1 => xs.length ≤ sizeLine ∧ newAt H1 (.lst xs) fun p G => Q (.ref p) G) : tLst tA σ H Q := h
theorem g_tup (h : tA σ H fun xs H1 => xs.length ≤ sizeLine ∧ newAt H1 (.tup xs) fun p G => Q (.ref p) G) : tTup tA σ H Q := h
theorem g_dnewK (h : newAt H (.dK []) fun p G => Q (.ref p) G) : tDNewK σ H Q := h
theorem g_cb {rc : List V → Hp → VK → Prop} (h : tA σ H fun vs H1 => rc vs H1 Q) : tCB rc tA σ H Q := h
theorem g_cl {sp : Sp} {E : XK} (h : tA σ H fun vs H1 => sp vs H1 Q E) : tCl sp E tA σ H Q := h
theorem g_mt {C : Addr} {m : Str} {sp : Sp} {E : XK} (h : ta σ H fun x H1 => ∃ a dx fs, x = .ref a ∧ H1 a = some (.ins C dx fs) ∧ fs.lookup m = none ∧ tA σ H1 fun vs H2 => sp (x :: vs) H2 Q E) : tMt C m sp E ta tA σ H Q := h
theorem g_prop {C : Addr} {sp : Sp} {E : XK} (h : ta σ H fun x H1 => ∃ a dx fs, x = .ref a ∧ H1 a = some (.ins C dx fs) ∧ sp [.ref a] H1 Q E) : tProp C sp [] E ta σ H Q := h
theorem g_fld {f : Str} (h : ta σ H fun x H1 => ∃ a C dx fs v, x = .ref a ∧ H1 a = some (.ins C dx fs) ∧ Cls K C ∧ NoAttr K C f ∧ fs.lookup f = some v ∧ Q v H1) : tFld K ta f σ H Q := h
theorem g_bm {T : String} {rm : V → List V → Hp → VK → Prop} (h : to σ H fun x H1 => tyV K T x H1 ∧ tA σ H1 fun xs H2 => rm x xs H2 Q) : tBM K T rm to tA σ H Q := h
theorem g_sl {rs : V → Option Int → Option Int → Hp → VK → Prop} {tl th : TO} (h : te σ H fun x H1 => tl σ H1 fun l H2 => th σ H2 fun u H3 => rs x l u H3 Q) : L2.tSl rs te tl th σ H Q := h
theorem g_part {QO : Option Int → Hp → Prop} (h : te σ H fun x H1 => ∃ i, x = .int i ∧ QO (some i) H1) : tPart te σ H QO := h
theorem g_noPart {QO : Option Int → Hp → Prop} (h : QO none H) : tNoPart σ H QO := h
theorem g_xf {a C : Addr} {cls : Value} {dd : Option Addr} {f : Str} (h : te σ H fun x H1 => x = .ref a ∧ cls = .ref C ∧ ∃ (e : Addr) (fs : List (Str × V)) (v : V), dd = some e ∧ H1 e = some (.xd fs) ∧ fs.lookup f = some v ∧ Q v H1) : tXf a cls dd C f te σ H Q := h
theorem g_cval {f : Str} (h : te σ H fun x H1 => ∃ C mc v u, x = .ref C ∧ ClX.CRead K C mc ∧ ClX.CVal K C mc f v u ∧ Q v H1) : ClX.tCVal K te f σ H Q := h
theorem g_cmeth {C : Addr} {sp : Sp} {E : XK} (h : ta σ H fun x H1 => x = .ref C ∧ tA σ H1 fun vs H2 => sp (.ref C :: vs) H2 Q E) : ClX.tCMeth C sp E ta tA σ H Q := h
theorem g_cmethS {C : Addr} {sp : Sp} {E : L2.St → XK} (h : ta σ H fun x H1 => x = .ref C ∧ tA σ H1 fun vs H2 => sp (.ref C :: vs) H2 Q (E σ)) : tCMethS C sp E ta tA σ H Q := h
theorem g_callS {sp : Sp} {E : L2.St → XK} (h : tA σ H fun vs H1 => sp vs H1 Q (E σ)) : tCallS sp E tA σ H Q := h
theorem g_mtS {C : Addr} {m : Str} {sp : Sp} {E : L2.St → XK} (h : ta σ H fun x H1 => ∃ a dx fs, x = .ref a ∧ H1 a = some (.ins C dx fs) ∧ fs.lookup m = none ∧ tA σ H1 fun vs H2 => sp (x :: vs) H2 Q (E σ)) : tMtS C m sp E ta tA σ H Q := h
theorem g_callK {sp : Sp} {gV : List V → List V → List V} {E : XK} {tk : TA} (h : tA σ H fun vs H1 => tk σ H1 fun zs H2 => sp (gV vs zs) H2 Q E) : tCallK sp gV E tA tk σ H Q := h
theorem g_callK0 {sp : Sp} {gV : List V → List V → List V} {E : XK} {tk : TA} (h : tk σ H fun zs H2 => sp (gV [] zs) H2 Q E) : tCallK0 sp gV E tk σ H Q := h
theorem g_clsStar {C : Addr} {sp : Sp} {E : XK} (h : tx σ H fun z H0 => z = .ref C ∧ te σ H0 fun y H1 => ∃ a xs, y = .ref a ∧ (SqT K H1 a xs ∨ SqL K H1 a xs) ∧
  ∀ x dx, H1 x = none → H1 dx = none → dx ≠ x → sp (.ref x :: xs) (upd (upd H1 dx (.own x)) x (.ins C dx [])) (fun v H2 => v = .non ∧ Q (.ref x) H2) E) : tClsStar K C sp E tx te σ H Q := h
-- tests
theorem g_test (h : te σ H fun x H' => ∃ k, x = .bl k ∧ QT k H') : tTest te σ H QT := h
theorem g_tb (h : te σ H fun x H' => ∃ k, x = .bl k ∧ QT k H') : tB te σ H QT := h
theorem g_and (h : c σ H fun b H1 => if b = true then d σ H1 QT else QT false H1) : tAnd c d σ H QT := h
theorem g_or (h : c σ H fun b H1 => if b = true then QT true H1 else d σ H1 QT) : tOr c d σ H QT := h
theorem g_not (h : c σ H fun b H1 => QT (!b) H1) : tNot c σ H QT := h
theorem g_yes (h : QT true H) : tYes σ H QT := h
-- statements
variable {f b ct : L2.St → Hp → Prop} {rt : V → Hp → Prop}
theorem g_seq (h : t ⟨u ⟨f, rt, b, ct⟩, rt, b, ct⟩ σ H) : tSeq t u ⟨f, rt, b, ct⟩ σ H := h
theorem g_next (h : f σ H) : tNext ⟨f, rt, b, ct⟩ σ H := h
theorem g_drop (h : te σ H fun _ H1 => f σ H1) : tDrop te ⟨f, rt, b, ct⟩ σ H := h
theorem g_ret (h : te σ H fun v H1 => rt v H1) : tRet te ⟨f, rt, b, ct⟩ σ H := h
theorem g_retN (h : rt .non H) : tRetN ⟨f, rt, b, ct⟩ σ H := h
theorem g_brk (h : b σ H) : tBreak ⟨f, rt, b, ct⟩ σ H := h
theorem g_cont (h : ct σ H) : tCont ⟨f, rt, b, ct⟩ σ H := h
theorem g_ifS (h : c σ H fun k H1 => if k = true then t D σ H1 else u D σ H1) : tIfS c t u D σ H := h
theorem g_asgN (h : te σ H fun x H1 => f (σ.set i (some x)) H1) : tAsg te (gName i) ⟨f, rt, b, ct⟩ σ H := h
theorem g_asgT {n : Nat} {gs : TGs} (h : te σ H fun x H1 => ∃ a xs, x = .ref a ∧ SqT K H1 a xs ∧ xs.length = n ∧ gs xs σ H1 f) : tAsg te (gTup K n gs) ⟨f, rt, b, ct⟩ σ H := h
theorem g_asgS {ti : TE} {ts : TSet} (h : te σ H fun x H1 => to σ H1 fun o H2 => ti σ H2 fun i H3 => ts o i x H3 fun H4 => f σ H4) : tAsg te (gSub to ti ts) ⟨f, rt, b, ct⟩ σ H := h
theorem g_par (h : tA σ H fun vs H1 => ∃ v w, vs = [v, w] ∧ f ((σ.set i (some v)).set j (some w)) H1) : tPar i j tA ⟨f, rt, b, ct⟩ σ H := h
theorem g_par3 (h : tA σ H fun vs H1 => ∃ u v w, vs = [u, v, w] ∧ f (((σ.set i (some u)).set j (some v)).set l (some w)) H1) : tPar3 i j l tA ⟨f, rt, b, ct⟩ σ H := h
theorem g_aug {ti : TIp} {x : V} (hx : σ[i]? = some (some x)) (h : te σ H fun y H1 => ti x y H1 fun z H2 => f (σ.set i (some z)) H2) : tAug i te ti ⟨f, rt, b, ct⟩ σ H := ⟨x, hx, h⟩
theorem g_sfld {g : Str} (h : te σ H fun y H1 => ta σ H1 fun x H2 => ∃ a C dx fs, x = .ref a ∧ H2 a = some (.ins C dx fs) ∧ Cls K C ∧ NoAttr K C g ∧ fs.length < 1000 ∧ f σ (upd H2 a (.ins C dx (putF g y fs)))) : sFld K ta te g ⟨f, rt, b, ct⟩ σ H := h
theorem g_try {Wout : WX} {cl : List (Value × Nat × Suite)} {tb : WX → TS} (h : tb (wNamed K Wout D cl) D σ H) : tTryN K Wout cl tb D σ H := h
theorem g_raiseX {C : Addr} {g : Str} {E : XK} (h : tA σ H fun vs H1 => ∃ v, vs = [v] ∧ ∀ d, H1 d = none → E (.ref C) (some d) (upd H1 d (.xd [(g, v)]))) : tRaiseX C g E tA D σ H := h
theorem g_for {wi : TI} {g : TG} (h : wi σ H fun J H1 => ∃ W : Nat → Nat → L2.St → Hp → Prop, (∃ m, W 0 m σ H1) ∧ ∀ i m σ H, W i m σ H →
  (J.stop i H ∧ f σ H) ∨ (J.go i H ∧ ∃ N : L2.St → Hp → Prop, (∀ σ' H', N σ' H' → ∃ m', m' < m ∧ W (i + 1) m' σ' H') ∧ ∀ x H', J.yld i H x H' → g x σ H' fun σ2 H2 => t ⟨N, rt, f, N⟩ σ2 H2)) : tFor wi g t ⟨f, rt, b, ct⟩ σ H := h
theorem g_gsub {ti : TE} {ts : TSet} {q : L2.St → Hp → Prop} (h : to σ H fun o H1 => ti σ H1 fun i H2 => ts o i v H2 fun H3 => q σ H3) : gSub to ti ts v σ H q := h
theorem g_gcons {g : TG} {gs : TGs} {vs : List V} {q : L2.St → Hp → Prop} (h : g v σ H fun σ' H' => gs vs σ' H' q) : gCons g gs (v :: vs) σ H q := ⟨v, vs, rfl, h⟩
theorem g_gnil {q : L2.St → Hp → Prop} (h : q σ H) : gNil [] σ H q := ⟨rfl, h⟩
-- joins
theorem cut_at (v : V) (H' : Hp) (h : ∀ Q : VK, Q v H' → te σ H Q) (q : Q v H') : te σ H Q := h Q q
theorem cut_ex (P : V → Hp → Prop) (h : ∀ Q : VK, (∀ v H', P v H' → Q v H') → te σ H Q) (q : ∀ v H', P v H' → Q v H') : te σ H Q := h Q q
theorem cut_r {x y : V} (P : V → Hp → Prop) (h : ∀ Q : VK, (∀ v H', P v H' → Q v H') → r x y H Q) (q : ∀ v H', P v H' → Q v H') : r x y H Q := h Q q
theorem cut_sp {sp : Sp} {vs : List V} {E : XK} (P : V → Hp → Prop) (h : ∀ Q : VK, (∀ v H', P v H' → Q v H') → sp vs H Q E) (q : ∀ v H', P v H' → Q v H') : sp vs H Q E := h Q q
theorem cut_s {f b ct : L2.St → Hp → Prop} {rt : V → Hp → Prop} (P : L2.St → Hp → Prop) (h : ∀ nx : L2.St → Hp → Prop, (∀ σ' H', P σ' H' → nx σ' H') → t ⟨nx, rt, b, ct⟩ σ H) (q : ∀ σ' H', P σ' H' → f σ' H') : t ⟨f, rt, b, ct⟩ σ H := h f q
theorem cut_h {f b ct : L2.St → Hp → Prop} {rt : V → Hp → Prop} (P : Hp → Prop) (h : ∀ nx : L2.St → Hp → Prop, (∀ H', P H' → nx σ H') → t ⟨nx, rt, b, ct⟩ σ H) (q : ∀ H', P H' → f σ H') : t ⟨f, rt, b, ct⟩ σ H :=
  h f q
theorem cut_hv {f b ct : L2.St → Hp → Prop} {rt : V → Hp → Prop} (i : Nat) (P : V → Hp → Prop) (h : ∀ nx : L2.St → Hp → Prop, (∀ v H', P v H' → nx (σ.set i (some v)) H') → t ⟨nx, rt, b, ct⟩ σ H) (q : ∀ v H', P v H' → f (σ.set i (some v)) H') : t ⟨f, rt, b, ct⟩ σ H := h f q
theorem g_rtA {i : Nat} (h : rt v H) : Ends.rt (endsAs ⟨f, rt, b, ct⟩ i) v H := h
theorem g_nxA {i : Nat} (h : f (σ.set i none) H) : Ends.nx (endsAs ⟨f, rt, b, ct⟩ i) σ H := h
end
/-- a for over a walk, its ends spelled out -/
theorem for_it {J : It} {n : Nat} {G : Hp → Prop} {Y : Nat → Hp → V → Hp → Prop} (w : Walk J n G Y) {g : TG} {tb : TS} {f : L2.St → Hp → Prop} {rt : VK} {σ : L2.St} {H : Hp} (Pv : Nat → L2.St → Hp → Prop) (h0 : Pv 0 σ H) (hG : ∀ i σ H, i ≤ n → Pv i σ H → G H)
    (hs : ∀ i x σ H H', i < n → Pv i σ H → Y i H x H' → g x σ H' fun σ2 H2 => tb ⟨Pv (i + 1), rt, f, Pv (i + 1)⟩ σ2 H2) (hd : ∀ σ H, Pv n σ H → f σ H) :
    ∃ W : Nat → Nat → L2.St → Hp → Prop, (∃ m, W 0 m σ H) ∧ ∀ i m σ H, W i m σ H →
      (J.stop i H ∧ f σ H) ∨ (J.go i H ∧ ∃ N : L2.St → Hp → Prop, (∀ σ' H', N σ' H' → ∃ m', m' < m ∧ W (i + 1) m' σ' H') ∧ ∀ x H', J.yld i H x H' → g x σ H' fun σ2 H2 => tb ⟨N, rt, f, N⟩ σ2 H2) :=
  L2.for_it (D := ⟨f, rt, fun _ _ => False, fun _ _ => False⟩) w Pv h0 hG hs hd
end RB
/-! RV: tracked data (Dt), frames (Fr), what operators and built-ins ask of values. -/
namespace RB
open PySem PySem.Spec PyProof.Rows L2
theorem _root_.L2.Same.seqT {K : PySem.W.Frag} {H H' : Hp} {a : Addr} {xs : List V} (e : Same H H') (h : SqT K H a xs) : SqT K H' a xs := by
  rcases h with (h | ⟨o, h⟩) | h
  · exact .inl (.inl (e _ _ h))
  · exact .inl (.inr ⟨o, e _ _ h⟩)
  · exact .inr h
/-! ### a heap without some of its places; frames -/
def hid (M : List Addr) (H : Hp) : Hp := fun a => if a ∈ M then none else H a
theorem hid_of {M : List Addr} {H : Hp} {a : Addr} {o : HO} (h : H a = some o) (n : a ∉ M) : hid M H a = some o := (if_neg n).trans h
theorem hid_out {M : List Addr} {H : Hp} {a : Addr} {o : HO} (h : hid M H a = some o) : a ∉ M := fun n => by
  rw [show hid M H a = none from if_pos n] at h
  cases h
theorem hid_get {M : List Addr} {H : Hp} {a : Addr} {o : HO} (h : hid M H a = some o) : H a = some o := (if_neg (hid_out h)).symm.trans h
theorem same_hid {M : List Addr} {H : Hp} : Same (hid M H) H := fun _ _ h => hid_get h
theorem hid_nil {H : Hp} : hid [] H = H := rfl
theorem hid_sub {M N : List Addr} {H : Hp} (h : ∀ a, a ∈ M → a ∈ N) : Same (hid N H) (hid M H) := fun _ _ e => hid_of (hid_get e) fun m => hid_out e (h _ m)
theorem hid_tail {b : Addr} {M : List Addr} {H : Hp} : Same (hid (b :: M) H) (hid M H) := hid_sub fun _ h => List.mem_cons_of_mem _ h
/-- all but M stands as it stood -/
def Fr (M : List Addr) (H H' : Hp) : Prop := Same (hid M H) (hid M H')
section
variable {M N : List Addr} {H H' H1 H2 : Hp} {a p b : Addr} {o : HO}
theorem Fr.refl : Fr M H H := Same.refl _
theorem Fr.trans (x : Fr M H H1) (y : Fr M H1 H2) : Fr M H H2 := Same.trans x y
theorem Fr.at (x : Fr M H H') (h : H a = some o) (n : a ∉ M) : H' a = some o := hid_get (x _ _ (hid_of h n))
theorem Fr.new (hp : H p = none) : Fr M H (upd H p o) := fun c u e => hid_of ((upd_ne (ne_of_none (hid_get e) hp)).trans (hid_get e)) (hid_out e)
theorem Fr.set (m : a ∈ M) : Fr M H (upd H a o) := fun c u e => hid_of ((upd_ne (fun z => hid_out e (by rw [z]; exact m))).trans (hid_get e)) (hid_out e)
theorem Fr.wide (x : Fr M H H') (s : ∀ a, a ∈ M → a ∈ N) : Fr N H H' := fun c u e => hid_of (x.at (hid_get e) fun m => hid_out e (s _ m)) (hid_out e)
theorem Fr.same (x : Fr [] H H') : Same H H' := x
theorem Fr.of (x : Same H H') : Fr M H H' := fun c u e => hid_of (x _ _ (hid_get e)) (hid_out e)
theorem sm_new (hp : H p = none) : Same H (upd H p o) := fun c u e => (upd_ne (ne_of_none e hp)).trans e
theorem sm_upd (x : Same H H') (hp : H p = none) : Same H (upd H' p o) := fun c u e => (upd_ne (ne_of_none e hp)).trans (x c u e)
theorem sm_none (x : Same H H') (h : H' p = none) : H p = none := by
  cases hh : H p with
  | none => rfl
  | some o =>
    rw [x _ _ hh] at h
    cases h
theorem fr_upd (x : Fr M H H') (hp : H p = none) : Fr M H (upd H' p o) := fun c u e => hid_of ((upd_ne (ne_of_none (hid_get e) hp)).trans (hid_get (x c u e))) (hid_out e)
theorem fr_fresh {Hn : Hp} {x : Addr} (s : Same H Hn) (nx : H x = none) (f : Fr [x] Hn H') : Same H H' := fun b o e => f.at (s _ _ e) fun m => ne_of_none e nx (List.mem_singleton.mp m)
theorem fr_none (x : Fr M H H') (n : p ∉ M) (h : H' p = none) : H p = none := by
  cases hh : H p with
  | none => rfl
  | some o =>
    rw [x.at hh n] at h
    cases h
/-- a place that was new may be hidden -/
theorem Fr.drop (x : Fr (p :: M) H H') (hp : H p = none) : Fr M H H' := fun c u e => hid_of (x.at (hid_get e) fun m => by
  rcases List.mem_cons.mp m with z | z
  · rw [z, show hid M H p = none from by unfold hid; split <;> first | rfl | exact hp] at e
    cases e
  · exact hid_out e z) (hid_out e)
end
/-! ### tracked data -/
mutual
inductive Dt (H : Hp) : V → PyData → Prop
  | non : Dt H .non .none
  | bl (b : Bool) : Dt H (.bl b) (.bool b)
  | int (i : Int) : Dt H (.int i) (.int i)
  | str (x : Str) (hz : x.length ≤ sizeLine) : Dt H (.str x) (.str x)
  | lst {a : Addr} {xs : List V} {ds : List PyData} : H a = some (.lst xs) → DtA H xs ds → Dt H (.ref a) (.list ds)
  | tup {a : Addr} {xs : List V} {ds : List PyData} : H a = some (.tup xs) → DtA H xs ds → Dt H (.ref a) (.tuple ds)
  | dct {a : Addr} : H a = some (.dK []) → Dt H (.ref a) (.dict [])
inductive DtA (H : Hp) : List V → List PyData → Prop
  | nil : DtA H [] []
  | cons {v : V} {vs : List V} {d : PyData} {ds : List PyData} : Dt H v d → DtA H vs ds → DtA H (v :: vs) (d :: ds)
end
mutual
theorem Dt.mono {H H' : Hp} (s : Same H H') : ∀ (d : PyData) (v : V), Dt H v d → Dt H' v d
  | .none, _, h => by cases h; exact .non
  | .bool b, _, h => by cases h; exact .bl _
  | .int i, _, h => by cases h; exact .int _
  | .str x, _, h => by cases h; exact .str _ (by assumption)
  | .list ds, _, h => by
    cases h with
    | lst e ha => exact .lst (s _ _ e) (DtA.mono s ds _ ha)
  | .tuple ds, _, h => by
    cases h with
    | tup e ha => exact .tup (s _ _ e) (DtA.mono s ds _ ha)
  | .dict _, _, h => by
    cases h with
    | dct e => exact .dct (s _ _ e)
theorem DtA.mono {H H' : Hp} (s : Same H H') : ∀ (ds : List PyData) (vs : List V), DtA H vs ds → DtA H' vs ds
  | [], _, h => by cases h; exact .nil
  | d :: ds, _, h => by
    cases h with
    | cons h1 h2 => exact .cons (Dt.mono s d _ h1) (DtA.mono s ds _ h2)
end
mutual
theorem Dt.toDq {K : PySem.W.Frag} {H : Hp} : ∀ (d : PyData) (v : V), Dt H v d → Dq K H v d
  | .none, _, h => by cases h; exact .non
  | .bool b, _, h => by cases h; exact .bl _
  | .int i, _, h => by cases h; exact .int _
  | .str x, _, h => by cases h; exact .str _
  | .list ds, _, h => by
    cases h with
    | lst e ha => exact .lst (SqL.of e) (DtA.toDq ds _ ha)
  | .tuple ds, _, h => by
    cases h with
    | tup e ha => exact .tup (SqT.of e) (DtA.toDq ds _ ha)
  | .dict _, _, h => by
    cases h with
    | dct e => exact .dct e
theorem DtA.toDq {K : PySem.W.Frag} {H : Hp} : ∀ (ds : List PyData) (vs : List V), DtA H vs ds → DqA K H vs ds
  | [], _, h => by cases h; exact .nil
  | d :: ds, _, h => by
    cases h with
    | cons h1 h2 => exact .cons (Dt.toDq d _ h1) (DtA.toDq ds _ h2)
end
section
variable {H H' : Hp} {v : V} {vs ws : List V} {d : PyData} {ds es : List PyData} {i : Nat} {M : List Addr}
theorem Dt.s (h : Dt H v d) (s : Same H H') : Dt H' v d := Dt.mono s d v h
theorem DtA.s (h : DtA H vs ds) (s : Same H H') : DtA H' vs ds := DtA.mono s ds vs h
theorem Dt.h (h : Dt (hid M H) v d) : Dt H v d := h.s same_hid
theorem DtA.h (h : DtA (hid M H) vs ds) : DtA H vs ds := h.s same_hid
theorem DtA.len : ∀ {vs : List V} {ds : List PyData}, DtA H vs ds → vs.length = ds.length
  | _, _, .nil => rfl
  | _, _, .cons _ h => by rw [List.length_cons, List.length_cons, DtA.len h]
theorem DtA.get : ∀ {vs : List V} {ds : List PyData} {i : Nat} {v : V}, DtA H vs ds → vs[i]? = some v → ∃ d, ds[i]? = some d ∧ Dt H v d
  | _, _, i, v, .nil, e => by simp at e
  | _, _, 0, v, .cons h _, e => by
    cases (Option.some.inj e)
    exact ⟨_, rfl, h⟩
  | _, _, i + 1, v, .cons _ h, e => DtA.get (i := i) h (by simpa using e)
theorem DtA.at : ∀ {vs : List V} {ds : List PyData} {i : Nat} {d : PyData}, DtA H vs ds → ds[i]? = some d → ∃ v, vs[i]? = some v ∧ Dt H v d
  | _, _, i, v, .nil, e => by simp at e
  | _, _, 0, v, .cons h _, e => by
    cases (Option.some.inj e)
    exact ⟨_, rfl, h⟩
  | _, _, i + 1, v, .cons _ h, e => DtA.at (i := i) h (by simpa using e)
theorem DtA.app : ∀ {vs : List V} {ds : List PyData}, DtA H vs ds → DtA H ws es → DtA H (vs ++ ws) (ds ++ es)
  | _, _, .nil, k => k
  | _, _, .cons h r, k => .cons h (DtA.app r k)
theorem DtA.one (h : Dt H v d) : DtA H [v] [d] := .cons h .nil
theorem DtA.set : ∀ {vs : List V} {ds : List PyData} (i : Nat), DtA H vs ds → Dt H v d → DtA H (vs.set i v) (ds.set i d)
  | _, _, _, .nil, _ => .nil
  | _, _, 0, .cons _ r, k => .cons k r
  | _, _, i + 1, .cons h r, k => .cons h (DtA.set i r k)
theorem DtA.take : ∀ {vs : List V} {ds : List PyData} (i : Nat), DtA H vs ds → DtA H (vs.take i) (ds.take i)
  | _, _, 0, _ => .nil
  | _, _, i + 1, .nil => .nil
  | _, _, i + 1, .cons h r => .cons h (DtA.take i r)
theorem DtA.drop : ∀ {vs : List V} {ds : List PyData} (i : Nat), DtA H vs ds → DtA H (vs.drop i) (ds.drop i)
  | _, _, 0, h => h
  | _, _, i + 1, .nil => .nil
  | _, _, i + 1, .cons h r => DtA.drop i r
theorem DtA.rep (h : Dt H v d) : ∀ n : Nat, DtA H (List.replicate n v) (List.replicate n d)
  | 0 => .nil
  | n + 1 => .cons h (DtA.rep h n)
theorem DtA.ofAll : ∀ {vs : List V} {ds : List PyData}, vs.length = ds.length → (∀ (i : Nat) (v : V) (d : PyData), vs[i]? = some v → ds[i]? = some d → Dt H v d) → DtA H vs ds
  | [], [], _, _ => .nil
  | v :: vs, d :: ds, e, h => .cons (h 0 v d rfl rfl) (DtA.ofAll (by simpa using e) fun i v d e1 e2 => h (i + 1) v d e1 e2)
def isLst : PyData → Bool
  | .list _ => true
  | _ => false
/-- the name of the type -/
def tyn : PyData → String
  | .none => "NoneType"
  | .bool _ => "bool"
  | .int _ => "int"
  | .str _ => "str"
  | .list _ => "list"
  | .tuple _ => "tuple"
  | .dict _ => "dict"
theorem Dt.ty {K : PySem.W.Frag} (h : Dt H v d) : TyX K H v (.type (tyn d)) := by
  cases h with
  | non => exact .base .non
  | bl b => exact .base (.bl b)
  | int i => exact .base (.int i)
  | str x _ => exact .base (.str x)
  | lst e _ => exact .base (.lst e)
  | tup e _ => exact .base (.tup e)
  | dct e => exact .base (.dK e)
end
def isData : HO → Bool
  | .lst _ => true
  | .tup _ => true
  | .dK _ => true
  | _ => false
section
variable {M : List Addr} {H : Hp}
mutual
theorem Dt.hide (hm : ∀ x ∈ M, ∀ o, H x = some o → isData o = false) : ∀ (d : PyData) (v : V), Dt H v d → Dt (hid M H) v d
  | .none, _, h => by cases h; exact .non
  | .bool b, _, h => by cases h; exact .bl _
  | .int i, _, h => by cases h; exact .int _
  | .str x, _, h => by cases h; exact .str _ (by assumption)
  | .list ds, _, h => by
    cases h with
    | lst e ha => exact .lst (hid_of e fun m => by cases (hm _ m _ e)) (DtA.hide hm ds _ ha)
  | .tuple ds, _, h => by
    cases h with
    | tup e ha => exact .tup (hid_of e fun m => by cases (hm _ m _ e)) (DtA.hide hm ds _ ha)
  | .dict _, _, h => by
    cases h with
    | dct e => exact .dct (hid_of e fun m => by cases (hm _ m _ e))
theorem DtA.hide (hm : ∀ x ∈ M, ∀ o, H x = some o → isData o = false) : ∀ (ds : List PyData) (vs : List V), DtA H vs ds → DtA (hid M H) vs ds
  | [], _, h => by cases h; exact .nil
  | d :: ds, _, h => by
    cases h with
    | cons h1 h2 => exact .cons (Dt.hide hm d _ h1) (DtA.hide hm ds _ h2)
end
/-- a new place may be hidden from data -/
theorem hid_new {p : Addr} {o : HO} (hp : H p = none) : Same (hid M H) (hid (p :: M) (upd H p o)) := fun c u e => by
  have hc := hid_get e
  have ne := ne_of_none hc hp
  exact hid_of ((upd_ne ne).trans hc) fun m => by
    rcases List.mem_cons.mp m with z | z
    · exact ne z
    · exact hid_out e z
end
/-! ### what is asked of values -/
section
variable {K : PySem.W.Frag} {H : Hp} {Q : VK} {x y v : V} {a b p l : Addr} {i j : Int} {xs ys : List V} {d e : PyData}
theorem v_addI (q : Q (.int (i + j)) H) : rAddU K (.int i) (.int j) H Q := .inl ⟨i, j, rfl, rfl, q⟩
theorem v_addL (ha : H a = some (.lst xs)) (hb : H b = some (.lst ys)) (hl : xs.length + ys.length ≤ sizeLine) (q : newAt H (.lst (xs ++ ys)) fun p G => Q (.ref p) G) : rAddU K (.ref a) (.ref b) H Q :=
  .inr (.inl ⟨a, b, xs, ys, rfl, rfl, ha, hb, hl, q⟩)
theorem v_sub (q : Q (.int (i - j)) H) : rSubU (.int i) (.int j) H Q := ⟨i, j, rfl, rfl, q⟩
theorem v_mulI (hc : CMul i j) (q : Q (.int (i * j)) H) : rMulU K (.int i) (.int j) H Q := .inl ⟨i, j, rfl, rfl, hc, q⟩
theorem v_rep (ha : H a = some (.lst xs)) (h1 : -(2 ^ 63) ≤ i) (h2 : i < 2 ^ 63) (h3 : xs.length * i.toNat ≤ sizeLine) (q : newAt H (.lst (List.replicate i.toNat xs).flatten) fun p G => Q (.ref p) G) : rMulU K (.ref a) (.int i) H Q :=
  .inr (.inl ⟨a, i, xs, rfl, rfl, ha, h1, h2, h3, q⟩)
theorem v_repT (ha : SqT K H a xs) (h0 : xs ≠ []) (h1 : 2 ≤ i) (h2 : i ≤ 1000) (h3 : xs.length ≤ 1000) (q : newAt H (.tup (List.replicate i.toNat xs).flatten) fun p G => Q (.ref p) G) : rMulU K (.ref a) (.int i) H Q := .inr (.inr (.inl ⟨a, i, xs, rfl, rfl, ha, h0, h1, h2, h3, q⟩))
theorem v_repT1 (ha : SqT K H a xs) (h : xs = [] ∨ i = 1) (h1 : -1000 ≤ i) (h2 : i ≤ 1000) (q : Q (.ref a) H) : rMulU K (.ref a) (.int i) H Q := .inr (.inr (.inr ⟨a, i, xs, rfl, rfl, ha, h, h1, h2, q⟩))
theorem v_div (hc : CDiv i j) (q : Q (.int (i / j)) H) : rDivU (.int i) (.int j) H Q := ⟨i, j, rfl, rfl, hc, q⟩
theorem v_mod (hc : 0 < j) (q : Q (.int (i % j)) H) : rModU (.int i) (.int j) H Q := ⟨i, j, rfl, rfl, hc, q⟩
theorem v_pow (hc : CPow i j) (q : Q (.int (i ^ j.toNat)) H) : rPowU (.int i) (.int j) H Q := ⟨i, j, rfl, rfl, hc, q⟩
theorem v_lt (q : Q (.bl (decide (i < j))) H) : RB.rLt (.int i) (.int j) H Q := ⟨i, j, rfl, rfl, q⟩
theorem v_le (q : Q (.bl (decide (i ≤ j))) H) : RB.rLe (.int i) (.int j) H Q := ⟨i, j, rfl, rfl, q⟩
theorem v_gt (q : Q (.bl (decide (j < i))) H) : RB.rGt (.int i) (.int j) H Q := ⟨i, j, rfl, rfl, q⟩
theorem v_ge (q : Q (.bl (decide (j ≤ i))) H) : RB.rGe (.int i) (.int j) H Q := ⟨i, j, rfl, rfl, q⟩
theorem v_neg (q : Q (.int (-i)) H) : rNegU (.int i) H Q := ⟨i, rfl, q⟩
theorem v_eqS (hs : scal x y = true) (q : Q (.bl (decide (x = y))) H) : rEqU K x y H Q := .inl ⟨hs, q⟩
theorem v_neS (hs : scal x y = true) (q : Q (.bl (!decide (x = y))) H) : rNeU K x y H Q := .inl ⟨hs, q⟩
theorem v_eqD (h1 : Dt H x d) (h2 : Dt H y e) (s1 : SeqAt.shaped d = true) (s2 : SeqAt.shaped e = true) (q : Q (.bl (PyData.eqv d e)) H) : rEqU K x y H Q := .inr ⟨d, e, h1.toDq, h2.toDq, s1, s2, q⟩
theorem v_neD (h1 : Dt H x d) (h2 : Dt H y e) (s1 : SeqAt.shaped d = true) (s2 : SeqAt.shaped e = true) (q : Q (.bl (!PyData.eqv d e)) H) : rNeU K x y H Q := .inr ⟨d, e, h1.toDq, h2.toDq, s1, s2, q⟩
theorem v_isN (q : Q (.bl (decide (x = .non))) H) : rIsNU x .non H Q := ⟨rfl, q⟩
theorem v_notN (q : Q (.bl (!decide (x = .non))) H) : rNotNU x .non H Q := ⟨rfl, q⟩
theorem v_inSign {c : Nat} {z : Str} (q : Q (.bl (decide (c ∈ z.cps.toList))) H) : rInU K false (.str ⟨#[c]⟩) (.str z) H Q := .inr ⟨c, z, rfl, rfl, q⟩
theorem v_ixL (ha : SqL K H a xs) (e : atI xs i = some v) (q : Q v H) : rIx K (.ref a) (.int i) H Q := .inl ⟨a, xs, i, v, rfl, rfl, ha, e, q⟩
theorem v_ixT (ha : SqT K H a xs) (e : atI xs i = some v) (q : Q v H) : rIx K (.ref a) (.int i) H Q := .inr (.inl ⟨a, xs, i, v, rfl, rfl, ha, e, q⟩)
theorem v_lenL (ha : SqL K H a xs) (q : Q (.int xs.length) H) : rLenU K [.ref a] H Q := .inl ⟨a, xs, rfl, .inl ha, q⟩
theorem v_lenT (ha : SqT K H a xs) (q : Q (.int xs.length) H) : rLenU K [.ref a] H Q := .inl ⟨a, xs, rfl, .inr ha, q⟩
theorem v_lenS {z : Str} (hz : z.length ≤ sizeLine) (q : Q (.int z.length) H) : rLenU K [.str z] H Q := .inr (.inl ⟨z, rfl, hz, q⟩)
theorem v_isi {n : String} {r : Bool} (h : Dt H x d) (hk : kitB (tyn d) n = some r) (q : Q (.bl r) H) : rIsi K [x, .ty n] H Q := ⟨x, .ty n, _, _, r, rfl, .ty n, h.ty, kit_ty hk, q⟩
theorem v_all {bs : List Bool} (ha : H a = some (.lst (bs.map V.bl))) (q : Q (.bl (bs.all id)) H) : rAll K [.ref a] H Q := ⟨a, bs, rfl, SqL.of ha, q⟩
theorem v_any {bs : List Bool} (ha : H a = some (.lst (bs.map V.bl))) (q : Q (.bl (bs.any id)) H) : rAny K [.ref a] H Q := ⟨a, bs, rfl, SqL.of ha, q⟩
theorem v_list (ha : SqL K H a xs) (q : newAt H (.lst xs) fun p G => Q (.ref p) G) : rList1 K [.ref a] H Q := ⟨a, xs, rfl, .inl ha, q⟩
theorem v_tuple (ha : SqL K H a xs) (q : newAt H (.tup xs) fun p G => Q (.ref p) G) : rTuple1 K [.ref a] H Q := ⟨a, xs, rfl, .inl ⟨ha, q⟩⟩
theorem v_intI (q : Q (.int i) H) : rInt1 [.int i] H Q := .inl ⟨i, rfl, q⟩
theorem v_intB {k : Bool} (q : Q (.int (if k then 1 else 0)) H) : rInt1 [.bl k] H Q := .inr ⟨k, rfl, q⟩
theorem v_max (q : Q (.int (if j > i then j else i)) H) : rMax2 [.int i, .int j] H Q := ⟨i, j, rfl, q⟩
theorem v_min (q : Q (.int (if j < i then j else i)) H) : rMin2 [.int i, .int j] H Q := ⟨i, j, rfl, q⟩
theorem v_abs (q : Q (.int (if i < 0 then -i else i)) H) : rAbs [.int i] H Q := ⟨i, rfl, q⟩
theorem v_repr (h : Dt H x d) (h1 : d.showable = true) (h2 : d.shown.length ≤ sizeLine) (h3 : d.depth < 100) (q : Q (.str d.shown) H) : rRepr K [x] H Q := ⟨x, d, rfl, h.toDq, h1, h2, h3, q⟩
theorem v_slL {lo hi : Option Int} (ha : SqL K H a xs) (q : newAt H (.lst (cutV xs lo hi)) fun p G => Q (.ref p) G) : rSlU K (.ref a) lo hi H Q := .inl ⟨a, xs, rfl, ha, q⟩
theorem v_app (ha : H a = some (.lst xs)) (hz : xs.length < sizeLine) (q : Q .non (upd H a (.lst (xs ++ [y])))) : rAppend (.ref a) [y] H Q := ⟨a, xs, y, rfl, rfl, ha, hz, q⟩
theorem v_tyL (ha : SqL K H a xs) : tyV K "list" (.ref a) H := .inl ⟨rfl, xs, ha⟩
theorem v_setL {k : Nat} {qs : Hp → Prop} (ha : H a = some (.lst xs)) (e : ixN xs.length i = some k) (q : qs (upd H a (.lst (xs.set k y)))) : rSetL (.ref a) (.int i) y H qs := ⟨a, xs, i, k, rfl, rfl, ha, e, q⟩
theorem at_nat {α : Type} {xs : List α} {k : Nat} {v : α} (e : xs[k]? = some v) : atI xs (k : Int) = some v := by
  have hk : k < xs.length := (List.getElem?_eq_some_iff.mp e).1
  unfold atI ixN
  rw [if_pos (by omega), if_pos (by omega)]
  simpa using e
theorem at_int {α : Type} {xs : List α} {k : Int} {v : α} (h0 : 0 ≤ k) (e : xs[k.toNat]? = some v) : atI xs k = some v := by
  have := at_nat e
  rwa [Int.toNat_of_nonneg h0] at this
theorem ix_nat {n k : Nat} (h : k < n) : ixN n (k : Int) = some k := by
  unfold ixN
  rw [if_pos (by omega), if_pos (by omega)]
  rfl
theorem ix_int {n : Nat} {k : Int} (h0 : 0 ≤ k) (h : k < n) : ixN n k = some k.toNat := by
  unfold ixN
  rw [if_pos h0, if_pos h]
end
section
variable {P : Prop} {b : Bool} {p : Prop}
theorem ex_bl {F : Bool → Prop} (h : F b) : ∃ c, V.bl b = V.bl c ∧ F c := ⟨b, rfl, h⟩
theorem ex_int {i : Int} {F : Int → Prop} (h : F i) : ∃ c, V.int i = V.int c ∧ F c := ⟨i, rfl, h⟩
theorem ite_d [Decidable p] {A B : Prop} (h1 : p → A) (h2 : ¬p → B) : if decide p = true then A else B := by
  by_cases c : p
  · rw [if_pos (decide_eq_true c)]
    exact h1 c
  · rw [if_neg (by simpa using c)]
    exact h2 c
theorem ite_n [Decidable p] {A B : Prop} (h1 : ¬p → A) (h2 : p → B) : if (!decide p) = true then A else B := by
  by_cases c : p
  · rw [if_neg (by simpa using c)]
    exact h2 c
  · rw [if_pos (by simpa using c)]
    exact h1 c
theorem ite_T {A B : Prop} (h : A) : if true = true then A else B := h
theorem ite_F {A B : Prop} (h : B) : if false = true then A else B := h
theorem ite_nT {A B : Prop} (h : B) : if (!true) = true then A else B := h
theorem ite_nF {A B : Prop} (h : A) : if (!false) = true then A else B := h
theorem ite_cT {c : Bool} {A B : Prop} (h : c = true) (q : A) : if c = true then A else B := by rw [if_pos h]; exact q
theorem ite_cF {c : Bool} {A B : Prop} (h : c = false) (q : B) : if c = true then A else B := by rw [h]; exact q
theorem ite_b {c : Bool} {A B : Prop} (h1 : c = true → A) (h2 : c = false → B) : if c = true then A else B := by
  cases c
  · exact h2 rfl
  · exact h1 rfl
end
/-! ### walks -/
section
variable {K : PySem.W.Frag} {H H' : Hp} {R : It → Hp → Prop} {a : Addr} {xs : List V} {x : V}
def itAny (K : PySem.W.Frag) (x : V) (H : Hp) (R : It → Hp → Prop) : Prop := (∃ a, x = .ref a ∧ (∃ xs, SqL K H a xs) ∧ R (Itl K a) H) ∨ (∃ a, x = .ref a ∧ (∃ xs, SqT K H a xs) ∧ R (Itt K a) H) ∨ ∃ z, x = .str z ∧ R (Its z) H
theorem it_list (h : SqL K H a xs) (q : R (Itl K a) H) : itAny K (.ref a) H R := .inl ⟨a, rfl, ⟨xs, h⟩, q⟩
theorem it_tup (h : SqT K H a xs) (q : R (Itt K a) H) : itAny K (.ref a) H R := .inr (.inl ⟨a, rfl, ⟨xs, h⟩, q⟩)
theorem it_str {z : Str} (q : R (Its z) H) : itAny K (.str z) H R := .inr (.inr ⟨z, rfl, q⟩)
theorem take_map {α β : Type} (f : α → β) {l : List α} {i : Nat} {x : α} (h : l[i]? = some x) : (l.take i).map f ++ [f x] = (l.take (i + 1)).map f := by
  rw [List.take_add_one, h]
  simp
theorem take_one {α : Type} {l : List α} {i : Nat} {x : α} (h : l[i]? = some x) : l.take (i + 1) = l.take i ++ [x] := by
  rw [List.take_add_one, h]
  rfl
theorem g_any {σ : L2.St} {te : TE} (h : te σ H fun x H1 => itAny K x H1 R) : iAny K te σ H R := h
theorem g_rng1 {σ : L2.St} {ta : TA} (h : ta σ H fun vs H1 => ∃ j : Int, vs = [.int j] ∧ -(2 ^ 62) ≤ j ∧ j < 2 ^ 62 ∧ R (Itr 0 j.toNat) H1) : iRng1 ta σ H R := h
theorem g_rng2 {σ : L2.St} {ta : TA} (h : ta σ H fun vs H1 => ∃ i j : Int, vs = [.int i, .int j] ∧ (-(2 ^ 62) ≤ i ∧ i < 2 ^ 62 ∧ -(2 ^ 62) ≤ j ∧ j < 2 ^ 62) ∧ R (Itr i (j - i).toNat) H1) : iRng2 ta σ H R := h
theorem g_lc {σ : L2.St} {Q : VK} {wi : TI} {g : TG} {tt : TT} {te : TE} {vs : List Nat} (h : wi σ H fun J H1 => ∀ D, H1 D = none → ∃ W : Nat → Nat → Hp → Prop, (∃ m, W 0 m (upd H1 D (.lst []))) ∧ ∀ i m H, W i m H →
  (J.stop i H ∧ Q (.ref D) H) ∨ (J.go i H ∧ ∃ Nx : Hp → Prop, (∀ H', Nx H' → ∃ m', m' < m ∧ W (i + 1) m' H') ∧ ∀ x H', J.yld i H x H' → g x (wipe σ vs) H' fun σ2 H2 => wipe σ2 vs = wipe σ vs ∧ tt σ2 H2 fun b H3 =>
    if b = true then te σ2 H3 fun y H4 => ∃ acc, H4 D = some (.lst acc) ∧ acc.length < sizeLine ∧ Nx (upd H4 D (.lst (acc ++ [y]))) else Nx H3)) : tLc wi g tt te vs σ H Q := h
theorem g_gName {v : V} {σ : L2.St} {i : Nat} {q : L2.St → Hp → Prop} (h : q (σ.set i (some v)) H) : gName i v σ H q := h
/-! two fors in a comprehension -/
theorem g_lc2 {σ : L2.St} {Q : VK} {wi wi1 : TI} {g g1 : TG} {tt tt1 : TT} {te : TE} {vs vs1 : List Nat} (h : wi σ H fun J H1 => ∀ D, H1 D = none → ∃ W : Nat → Nat → Hp → Prop, (∃ m, W 0 m (upd H1 D (.lst []))) ∧ ∀ i m H, W i m H →
  (J.stop i H ∧ Q (.ref D) H) ∨ (J.go i H ∧ ∃ Nx : Hp → Prop, (∀ H', Nx H' → ∃ m', m' < m ∧ W (i + 1) m' H') ∧ ∀ x H', J.yld i H x H' → g x (wipe σ vs) H' fun σ2 H2 => wipe σ2 vs = wipe σ vs ∧ tt σ2 H2 fun b H3 =>
    if b = true then wi1 σ2 H3 fun J1 H4 => ∃ W1 : Nat → Nat → Hp → Prop, (∃ m, W1 0 m H4) ∧ ∀ j k H, W1 j k H →
      (J1.stop j H ∧ Nx H) ∨ (J1.go j H ∧ ∃ Nx1 : Hp → Prop, (∀ H', Nx1 H' → ∃ k', k' < k ∧ W1 (j + 1) k' H') ∧ ∀ x H', J1.yld j H x H' → g1 x (wipe σ2 vs1) H' fun σ3 H5 => wipe σ3 vs1 = wipe σ2 vs1 ∧ tt1 σ3 H5 fun b H6 =>
        if b = true then te σ3 H6 fun y H7 => ∃ acc, H7 D = some (.lst acc) ∧ acc.length < sizeLine ∧ Nx1 (upd H7 D (.lst (acc ++ [y]))) else Nx1 H6)
    else Nx H3)) : tLc2 wi g tt wi1 g1 tt1 te vs vs1 σ H Q := h
/-- the outer walk -/
theorem lc2_it {J : It} {n : Nat} {G : Hp → Prop} {Y : Nat → Hp → V → Hp → Prop} (w : Walk J n G Y) {Bd : (Hp → Prop) → V → Hp → Prop} {H1 : Hp} {D : Addr} {Qd : Hp → Prop} (Pv : Nat → Hp → Prop) (h0 : Pv 0 (upd H1 D (.lst []))) (hG : ∀ i H, i ≤ n → Pv i H → G H)
    (hs : ∀ i x H H', i < n → Pv i H → Y i H x H' → Bd (Pv (i + 1)) x H') (hd : ∀ H, Pv n H → Qd H) :
    ∃ W : Nat → Nat → Hp → Prop, (∃ m, W 0 m (upd H1 D (.lst []))) ∧ ∀ i m H, W i m H →
      (J.stop i H ∧ Qd H) ∨ (J.go i H ∧ ∃ Nx : Hp → Prop, (∀ H', Nx H' → ∃ m', m' < m ∧ W (i + 1) m' H') ∧ ∀ x H', J.yld i H x H' → Bd Nx x H') := by
  refine ⟨fun i m H => m = n - i ∧ i ≤ n ∧ Pv i H, ⟨n, by simp, Nat.zero_le _, h0⟩, ?_⟩
  rintro i m H ⟨rfl, hi, p⟩
  have q := hG i H hi p
  by_cases hlt : i < n
  · exact .inr ⟨w.goes i H hlt q, Pv (i + 1), fun H' p' => ⟨n - (i + 1), by omega, rfl, hlt, p'⟩, fun x H' y => hs i x H H' hlt p (w.yields i H x H' hlt q y)⟩
  · have e : i = n := by omega
    subst e
    exact .inl ⟨w.stops H q, hd H p⟩
/-- the inner walk -/
theorem in_it {J : It} {n : Nat} {G : Hp → Prop} {Y : Nat → Hp → V → Hp → Prop} (w : Walk J n G Y) {Bd : (Hp → Prop) → V → Hp → Prop} {H1 : Hp} {Qd : Hp → Prop} (Pv : Nat → Hp → Prop) (h0 : Pv 0 H1) (hG : ∀ i H, i ≤ n → Pv i H → G H)
    (hs : ∀ i x H H', i < n → Pv i H → Y i H x H' → Bd (Pv (i + 1)) x H') (hd : ∀ H, Pv n H → Qd H) :
    ∃ W : Nat → Nat → Hp → Prop, (∃ m, W 0 m H1) ∧ ∀ i m H, W i m H →
      (J.stop i H ∧ Qd H) ∨ (J.go i H ∧ ∃ Nx : Hp → Prop, (∀ H', Nx H' → ∃ m', m' < m ∧ W (i + 1) m' H') ∧ ∀ x H', J.yld i H x H' → Bd Nx x H') := by
  refine ⟨fun i m H => m = n - i ∧ i ≤ n ∧ Pv i H, ⟨n, by simp, Nat.zero_le _, h0⟩, ?_⟩
  rintro i m H ⟨rfl, hi, p⟩
  have q := hG i H hi p
  by_cases hlt : i < n
  · exact .inr ⟨w.goes i H hlt q, Pv (i + 1), fun H' p' => ⟨n - (i + 1), by omega, rfl, hlt, p'⟩, fun x H' y => hs i x H H' hlt p (w.yields i H x H' hlt q y)⟩
  · have e : i = n := by omega
    subst e
    exact .inl ⟨w.stops H q, hd H p⟩
end
/-! ### pieces of data; copies -/
def cutD (ds : List PyData) (lo hi : Option Int) : List PyData := (ds.drop (HT.sIx ds.length 0 lo)).take (HT.sIx ds.length ds.length hi - HT.sIx ds.length 0 lo)
theorem DtA.cut {H : Hp} {xs : List V} {ds : List PyData} (h : DtA H xs ds) (lo hi : Option Int) : DtA H (cutV xs lo hi) (cutD ds lo hi) := by
  unfold cutV cutD
  rw [h.len]
  exact (h.drop _).take _
theorem cutD_mem {ds : List PyData} {lo hi : Option Int} {x : PyData} (h : x ∈ cutD ds lo hi) : x ∈ ds := List.mem_of_mem_drop (List.mem_of_mem_take h)
theorem cutD_len (ds : List PyData) (lo hi : Option Int) : (cutD ds lo hi).length ≤ ds.length := by
  unfold cutD
  rw [List.length_take, List.length_drop]
  omega
theorem len_list {d : PyData} (h : isLst d = true) : ∃ r, d = .list r := by
  cases d <;> first | exact ⟨_, rfl⟩ | cases h
/-- [list(one) for one in ..], a list of lists in slot i -/
theorem comp_copy {K : PySem.W.Frag} {σ : L2.St} {H : Hp} {Q : VK} {i j : Nat} {l : Addr} {xs : List V} {ds : List PyData} {M : List Addr} (hi : σ[i]? = some (some (.ref l))) (hj : j < σ.length) (hl : H l = some (.lst xs)) (hd : DtA (hid M H) xs ds)
    (hls : ∀ d ∈ ds, isLst d = true) (few : xs.length ≤ 100000) (hM : ∀ b ∈ M, ∃ o, H b = some o) (q : ∀ D G ys, H D = none → Same H G → G D = some (.lst ys) → DtA (hid (D :: M) G) ys ds → Q (.ref D) G) : tLc (iAny K (tVar i)) (gName j) tYes (tCB (rList1 K) (tCons (tVar j) tNil)) [j] σ H Q := by
  refine g_lc (g_any (g_var hi (it_list (SqL.of hl) ?_)))
  intro D hD
  refine lc2_it walk_list (fun k H' => Same H H' ∧ ∃ ys, H' D = some (.lst ys) ∧ DtA (hid (D :: M) H') ys (ds.take k)) ⟨sm_new hD, [], upd_same, .nil⟩ (fun k H' _ p => SqL.of (p.1 _ _ hl)) ?_ ?_
  · rintro k x _ H2 hk ⟨s, ys, hD2, hys⟩ ⟨rfl, hx⟩
    obtain ⟨d, hdk, hxd⟩ := hd.get hx
    obtain ⟨r, rfl⟩ := len_list (hls d (List.mem_of_getElem? hdk))
    cases hxd with
    | @lst p zs _ hp hzs =>
    have hpD : p ≠ D := ne_of_none (hid_get hp) hD
    have hw : wipe σ [j] = σ.set j none := rfl
    refine ⟨by show (σ.set j none |>.set j (some (.ref p))).set j none = σ.set j none; simp, ?_⟩
    refine g_yes (ite_T (g_cb (g_cons (g_var (v := .ref p) ?_ (g_nil (v_list (SqL.of (s _ _ (hid_get hp))) (new_ fun c G hc eG sG oG => ?_)))))))
    · rw [List.getElem?_set_self]
      rw [hw, List.length_set]
      exact hj
    have hcD : c ≠ D := (ne_of_none hD2 hc).symm
    have s0 : Same (hid M H) (hid (D :: M) (upd H D (.lst []))) := hid_new hD
    have hzs2 : DtA (hid (D :: M) H2) zs r := hzs.s fun b o e => by
      have := hid_get e
      exact hid_of (s _ _ this) (fun m => by
        rcases List.mem_cons.mp m with z | z
        · exact ne_of_none this hD z
        · exact hid_out e z)
    have f1 : Fr (D :: M) H2 (upd G D (.lst (ys ++ [.ref c]))) := (Fr.of sG).trans (Fr.set (by simp))
    have hl2 := hys.len
    have hl3 : (ds.take k).length ≤ k := by rw [List.length_take]; omega
    refine ⟨ys, sG _ _ hD2, Nat.lt_of_le_of_lt (by omega : ys.length ≤ 100000) (by decide), sm_upd (s.trans sG) hD, _, upd_same, ?_⟩
    rw [take_one hdk]
    have hm : c ∉ M := fun m => by
      obtain ⟨o, ho⟩ := hM c m
      exact ne_of_none (s _ _ ho) hc rfl
    exact (hys.s f1).app (.one <| by
      exact .lst (hid_of ((upd_ne hcD).trans oG) (by simp [hcD, hm])) (hzs2.s f1))
  · rintro H2 ⟨s, ys, hD2, hys⟩
    rw [hd.len, List.take_length] at hys
    exact q D H2 ys hD s hD2 hys
end RB
/-! RP: the program's defs: where classes stand (Ads), the rules of the document on data, promises. -/
namespace RB
open PySem PySem.Spec PyProof.Rows L2
/-- where the program's classes and tables stand -/
structure Ads where
  (RingError BadItem BadLimit BadSign NoOrder NotThere BadText BadChoices BadRow NoBox NoPlace Full TooMany TooDeep Endless NothingDone Heap Verdicts Outcome Writer Parser Pairing Values Walk Desk : Addr)
  (SIGNS FORMS CHECKS SHAPE_CHECKS : Addr)
/-! ### items, by data -/
def isInt : PyData → Bool
  | .int _ => true
  | _ => false
section
variable {K : PySem.W.Frag} {c : Ads} {H : Hp} {Q : VK} {x : V} {d : PyData}
def isBool : PyData → Bool
  | .bool _ => true
  | _ => false
def isStr : PyData → Bool
  | .str _ => true
  | _ => false
def isList : PyData → Bool
  | .list _ => true
  | _ => false
def isTuple : PyData → Bool
  | .tuple _ => true
  | _ => false
theorem v_isInt (h : Dt H x d) (q : Q (.bl (isInt d || isBool d)) H) : rIsi K [x, .ty "int"] H Q := v_isi h (by cases d <;> simp only [tyn, isInt, isBool, isStr, isList, isTuple] <;> decide +kernel) q
theorem v_isBool (h : Dt H x d) (q : Q (.bl (isBool d)) H) : rIsi K [x, .ty "bool"] H Q := v_isi h (by cases d <;> simp only [tyn, isInt, isBool, isStr, isList, isTuple] <;> decide +kernel) q
theorem v_isStr (h : Dt H x d) (q : Q (.bl (isStr d)) H) : rIsi K [x, .ty "str"] H Q := v_isi h (by cases d <;> simp only [tyn, isInt, isBool, isStr, isList, isTuple] <;> decide +kernel) q
theorem v_isList (h : Dt H x d) (q : Q (.bl (isList d)) H) : rIsi K [x, .ty "list"] H Q := v_isi h (by cases d <;> simp only [tyn, isInt, isBool, isStr, isList, isTuple] <;> decide +kernel) q
theorem v_isTuple (h : Dt H x d) (q : Q (.bl (isTuple d)) H) : rIsi K [x, .ty "tuple"] H Q := v_isi h (by cases d <;> simp only [tyn, isInt, isBool, isStr, isList, isTuple] <;> decide +kernel) q
end
def within (lo hi : Int) : PyData → Bool
  | .int i => decide (lo ≤ i) && decide (i ≤ hi)
  | _ => false
def letters : List Nat := ("abcdefghijklmnopqrstuvwxyz" : Str).cps.toList
def isWord : PyData → Bool
  | .str z => decide (z.length ≤ 8) && z.cps.toList.all fun k => decide (k ∈ letters)
  | _ => false
def isLeaf (d : PyData) : Bool := isInt d || isWord d
def isRef (n : Int) : PyData → Bool
  | .tuple [.str b, d] => decide (b = "box") && within 0 (n - 1) d
  | _ => false
def isItem (n : Int) (d : PyData) : Bool := isLeaf d || isRef n d
/-- the first thing of the contents that is no list, or no item -/
def firstBadFrom (n : Int) : List PyData → Option PyData
  | [] => none
  | .list r :: ds => match r.find? fun d => !isItem n d with
    | some d => some d
    | none => firstBadFrom n ds
  | d :: _ => some d
def firstBad (ds : List PyData) : Option PyData := firstBadFrom ds.length ds
theorem firstBad_list {n : Int} {r : List PyData} {ds : List PyData} : firstBadFrom n (.list r :: ds) = match r.find? fun d => !isItem n d with
    | some d => some d
    | none => firstBadFrom n ds := rfl
theorem firstBad_lists {n : Int} : ∀ {ds : List PyData}, firstBadFrom n ds = none → ∃ cs : List (List PyData), ds = cs.map PyData.list ∧ ∀ r ∈ cs, ∀ d ∈ r, isItem n d = true
  | [], _ => ⟨[], rfl, by simp⟩
  | .list r :: ds, h => by
    rw [firstBad_list] at h
    cases e : r.find? fun d => !isItem n d with
    | some d =>
      rw [e] at h
      cases h
    | none =>
      rw [e] at h
      obtain ⟨cs, h1, h2⟩ := firstBad_lists h
      refine ⟨r :: cs, by rw [h1]; rfl, fun x hx => ?_⟩
      rcases List.mem_cons.mp hx with z | z
      · subst z
        intro d hd
        have := List.find?_eq_none.mp e d hd
        simpa using this
      · exact h2 x z
  | .none :: _, h => by cases h
  | .bool _ :: _, h => by cases h
  | .int _ :: _, h => by cases h
  | .str _ :: _, h => by cases h
  | .tuple _ :: _, h => by cases h
  | .dict _ :: _, h => by cases h
theorem firstBad_not {n : Int} {d : PyData} {ds : List PyData} (h : isList d = false) : firstBadFrom n (d :: ds) = some d := by
  cases d <;> first | rfl | cases h
def badOf (n : Int) (d : PyData) : Option PyData := firstBadFrom n [d]
def GoodRow (n : Int) (d : PyData) : Prop := ∃ r, d = .list r ∧ ∀ x ∈ r, isItem n x = true
theorem find_none {n : Int} {r : List PyData} (h : ∀ x ∈ r, isItem n x = true) : (r.find? fun d => !isItem n d) = none := List.find?_eq_none.mpr fun x hx => by simp [h x hx]
theorem firstBad_good {n : Int} {d : PyData} {ds : List PyData} (h : GoodRow n d) : firstBadFrom n (d :: ds) = firstBadFrom n ds := by
  obtain ⟨r, rfl, h⟩ := h
  rw [firstBad_list, find_none h]
theorem firstBad_all {n : Int} : ∀ {ds : List PyData}, (∀ d ∈ ds, GoodRow n d) → firstBadFrom n ds = none
  | [], _ => rfl
  | d :: ds, h => by rw [firstBad_good (h d (by simp)), firstBad_all fun x hx => h x (by simp [hx])]
theorem fb_at {n : Int} {X e : PyData} : ∀ {ds : List PyData} {k : Nat}, (∀ j d, j < k → ds[j]? = some d → GoodRow n d) → ds[k]? = some X → badOf n X = some e → firstBadFrom n ds = some e
  | [], k, _, hk, _ => by simp at hk
  | d :: ds, 0, _, hk, hb => by
    cases (Option.some.inj hk)
    unfold badOf at hb
    cases X with
    | list r =>
      rw [firstBad_list] at hb ⊢
      cases h : r.find? fun d => !isItem n d with
      | some x =>
        rw [h] at hb
        exact hb
      | none =>
        rw [h] at hb
        cases hb
    | _ =>
      rw [firstBad_not rfl] at hb ⊢
      exact hb
  | d :: ds, k + 1, hg, hk, hb => by
    rw [firstBad_good (hg 0 d (by omega) rfl)]
    exact fb_at (fun j x hj hx => hg (j + 1) x (by omega) hx) hk hb
theorem badOf_not {n : Int} {d : PyData} (h : isList d = false) : badOf n d = some d := firstBad_not h
theorem badOf_mid {n : Int} {g t : List PyData} {d : PyData} (hg : ∀ x ∈ g, isItem n x = true) (hd : isItem n d = false) : badOf n (.list (g ++ [d] ++ t)) = some d := by
  unfold badOf
  rw [firstBad_list, List.append_assoc, List.find?_append, find_none hg]
  simp [hd]
def rowLen : PyData → Nat
  | .list r => r.length
  | _ => 0
def total (ds : List PyData) : Nat := (ds.map rowLen).sum
/-! ### promises -/
def sp_is_integer (K : PySem.W.Frag) (c : Ads) : Sp := fun vs H Q _ => ∃ v d, vs = [v] ∧ Dt H v d ∧ Q (.bl (isInt d)) H
def sp_is_within (K : PySem.W.Frag) (c : Ads) : Sp := fun vs H Q _ => ∃ v d lo hi, vs = [v, .int lo, .int hi] ∧ Dt H v d ∧ Q (.bl (within lo hi d)) H
def sp_is_word (K : PySem.W.Frag) (c : Ads) : Sp := fun vs H Q _ => ∃ v d, vs = [v] ∧ Dt H v d ∧ ∀ H', Same H H' → Q (.bl (isWord d)) H'
def sp_is_leaf (K : PySem.W.Frag) (c : Ads) : Sp := fun vs H Q _ => ∃ v d, vs = [v] ∧ Dt H v d ∧ ∀ H', Same H H' → Q (.bl (isLeaf d)) H'
def sp_is_reference (K : PySem.W.Frag) (c : Ads) : Sp := fun vs H Q _ => ∃ v d n, vs = [v, .int n] ∧ Dt H v d ∧ Q (.bl (isRef n d)) H
def sp_is_item (K : PySem.W.Frag) (c : Ads) : Sp := fun vs H Q _ => ∃ v d n, vs = [v, .int n] ∧ Dt H v d ∧ ∀ H', Same H H' → Q (.bl (isItem n d)) H'
/-! ### heaps -/
/-- rows of a heap: at each address a list of its own, of items -/
inductive RowsAt (H : Hp) : List Addr → List (List PyData) → Prop
  | nil : RowsAt H [] []
  | cons {r : Addr} {xs : List V} {ds : List PyData} {rs : List Addr} {cs : List (List PyData)} (h : H r = some (.lst xs)) (hd : DtA H xs ds) (t : RowsAt H rs cs) : RowsAt H (r :: rs) (ds :: cs)
/-- the heap at a: its list at L, its rows at rs, what they contain -/
structure HeapAt (c : Ads) (H : Hp) (a L : Addr) (rs : List Addr) (cs : List (List PyData)) : Prop where
  ins : ∃ dx, H a = some (.ins c.Heap dx [("lists", .ref L)]) ∧ H dx = some (.own a)
  lst : H L = some (.lst (rs.map V.ref))
  rows : RowsAt H rs cs
  nd : (L :: rs).Nodup
  few : cs.length ≤ 100000
  many : ∀ r ∈ cs, r.length ≤ 100000
  ok : ∀ r ∈ cs, ∀ d ∈ r, isItem cs.length d = true
section
variable {H H' : Hp}
theorem RowsAt.s (s : Same H H') : ∀ {rs : List Addr} {cs : List (List PyData)}, RowsAt H rs cs → RowsAt H' rs cs
  | _, _, .nil => .nil
  | _, _, .cons h hd t => .cons (s _ _ h) (hd.s s) (t.s s)
theorem RowsAt.len : ∀ {rs : List Addr} {cs : List (List PyData)}, RowsAt H rs cs → rs.length = cs.length
  | _, _, .nil => rfl
  | _, _, .cons _ _ t => by rw [List.length_cons, List.length_cons, t.len]
theorem RowsAt.get : ∀ {rs : List Addr} {cs : List (List PyData)} {i : Nat} {r : Addr}, RowsAt H rs cs → rs[i]? = some r → ∃ ds xs, cs[i]? = some ds ∧ H r = some (.lst xs) ∧ DtA H xs ds
  | _, _, i, r, .nil, e => by simp at e
  | _, _, 0, r, .cons h hd _, e => by
    cases (Option.some.inj e)
    exact ⟨_, _, rfl, h, hd⟩
  | _, _, i + 1, r, .cons _ _ t, e => by simpa using RowsAt.get (i := i) t (by simpa using e)
theorem RowsAt.snoc : ∀ {rs : List Addr} {cs : List (List PyData)} {r : Addr} {xs : List V} {ds : List PyData}, RowsAt H rs cs → H r = some (.lst xs) → DtA H xs ds → RowsAt H (rs ++ [r]) (cs ++ [ds])
  | _, _, _, _, _, .nil, h, hd => .cons h hd .nil
  | _, _, _, _, _, .cons h0 h1 t, h, hd => .cons h0 h1 (t.snoc h hd)
theorem HeapAt.s {c : Ads} {a L : Addr} {rs : List Addr} {cs : List (List PyData)} (h : HeapAt c H a L rs cs) (s : Same H H') : HeapAt c H' a L rs cs :=
  ⟨let ⟨dx, h1, h2⟩ := h.ins; ⟨dx, s _ _ h1, s _ _ h2⟩, s _ _ h.lst, h.rows.s s, h.nd, h.few, h.many, h.ok⟩
theorem HeapAt.len {c : Ads} {a L : Addr} {rs : List Addr} {cs : List (List PyData)} (h : HeapAt c H a L rs cs) : (rs.map V.ref).length = cs.length := by
  rw [List.length_map, h.rows.len]
end
structure KHeap (K : PySem.W.Frag) (c : Ads) : Prop where
  pg : PySem.W.plainGet K c.Heap Str.empty = true
  hd : PySem.W.hasDictIn K c.Heap = true
  po : PySem.W.plainOver K c.Heap = true
  sa : PySem.W.findIn K (.ref c.Heap) "__setattr__" = some (some (.builtin "object.__setattr__"))
  na : PySem.W.findIn K (.ref c.Heap) "lists" = some none
structure KMost (K : PySem.W.Frag) (c : Ads) : Prop where
  rd : PySem.W.readsIn K c.Heap (.type "type") = true
  ga : PySem.W.specialIn K (.ref c.Heap) "__getattribute__" = some (some (.builtin "type.__getattribute__"))
  mb : ∃ t : Tok, PySem.W.findCls K (.ref c.Heap) (.type "type") "MOST_BOXES" = some (.val (.int 60 t))
  mi : ∃ t : Tok, PySem.W.findCls K (.ref c.Heap) (.type "type") "MOST_ITEMS" = some (.val (.int 300 t))
theorem KHeap.cl {K : PySem.W.Frag} {c : Ads} (k : KHeap K c) : Cls K c.Heap := ⟨k.pg, k.hd, k.po, k.sa⟩
theorem KMost.cr {K : PySem.W.Frag} {c : Ads} (k : KMost K c) : ClX.CRead K c.Heap (.type "type") := ⟨k.rd, k.ga⟩
theorem total_le {B : Nat} : ∀ {ds : List PyData}, (∀ r ∈ ds, rowLen r ≤ B) → total ds ≤ B * ds.length
  | [], _ => by simp [total]
  | d :: ds, h => by
    have h1 := total_le (ds := ds) fun r hr => h r (by simp [hr])
    have h2 := h d (by simp)
    unfold total at h1 ⊢
    simp only [List.map_cons, List.sum_cons, List.length_cons]
    rw [Nat.mul_add]
    omega
theorem total_lists {cs : List (List PyData)} : total (cs.map PyData.list) = (cs.map List.length).sum := by
  unfold total
  rw [List.map_map]
  rfl
def sumLen (cs : List (List PyData)) : Nat := (cs.map List.length).sum
def sp_Heap_len (K : PySem.W.Frag) (c : Ads) : Sp := fun vs H Q _ => ∃ a L rs cs, vs = [.ref a] ∧ HeapAt c H a L rs cs ∧ sumLen cs ≤ 10000000 ∧ ∀ H', Same H H' → Q (.int (sumLen cs)) H'
/-- an error whose one field f holds v -/
def Err (H H' : Hp) (d : Addr) (f : Str) (v : V) : Prop := Same H H' ∧ H' d = some (.xd [(f, v)])
def sp_Heap_need_room (K : PySem.W.Frag) (c : Ads) : Sp := fun vs H Q E => ∃ a b i L rs cs, vs = [.ref a, .int b, .int i] ∧ HeapAt c H a L rs cs ∧ sumLen cs ≤ 10000000 ∧
  (60 < cs.length + b → ∀ d H', Err H H' d "most" (.int 60) → E (.ref c.Full) (some d) H') ∧
  (cs.length + b ≤ 60 → 300 < sumLen cs + i → ∀ d H', Err H H' d "most" (.int 300) → E (.ref c.Full) (some d) H') ∧
  (cs.length + b ≤ 60 → sumLen cs + i ≤ 300 → ∀ H', Same H H' → Q .non H')
def sp_BadItem_init (K : PySem.W.Frag) (c : Ads) : Sp := spExInit c.BadItem "item"
def sp_Full_init (K : PySem.W.Frag) (c : Ads) : Sp := spExInit c.Full "most"
/-- the parameters of Heap.__init__: the new heap, the tuple of contents -/
def sp_Heap_initB (K : PySem.W.Frag) (c : Ads) : Sp := fun vs H Q E => ∃ a dx t xs ds, vs = [.ref a, .ref t] ∧ H a = some (.ins c.Heap dx []) ∧ H dx = some (.own a) ∧ H t = some (.tup xs) ∧ DtA H xs ds ∧
  xs.length ≤ 100000 ∧ (∀ r ∈ ds, rowLen r ≤ 100000) ∧ total ds ≤ 10000000 ∧
  (∀ bad, firstBad ds = some bad → ∀ v d H', Fr [a] H H' → H' d = some (.xd [("item", v)]) → Dt H' v bad → E (.ref c.BadItem) (some d) H') ∧
  (firstBad ds = none → 60 < ds.length → ∀ d H', Fr [a] H H' → H' d = some (.xd [("most", .int 60)]) → E (.ref c.Full) (some d) H') ∧
  (firstBad ds = none → ds.length ≤ 60 → 300 < total ds → ∀ d H', Fr [a] H H' → H' d = some (.xd [("most", .int 300)]) → E (.ref c.Full) (some d) H') ∧
  (firstBad ds = none → ds.length ≤ 60 → total ds ≤ 300 → ∀ H' L rs cs, Fr [a] H H' → HeapAt c H' a L rs cs → ds = cs.map PyData.list → H L = none → (∀ r ∈ rs, H r = none) → Q .non H')
def sp_Heap_init (K : PySem.W.Frag) (c : Ads) : Sp := starSp 1 (sp_Heap_initB K c)
/-- Heap.of(contents), contents a list -/
def sp_Heap_of (K : PySem.W.Frag) (c : Ads) : Sp := fun vs H Q E => ∃ l xs ds, vs = [.ref c.Heap, .ref l] ∧ H l = some (.lst xs) ∧ DtA H xs ds ∧
  xs.length ≤ 100000 ∧ (∀ r ∈ ds, rowLen r ≤ 100000) ∧ total ds ≤ 10000000 ∧
  (∀ bad, firstBad ds = some bad → ∀ v d H', Same H H' → H' d = some (.xd [("item", v)]) → Dt H' v bad → E (.ref c.BadItem) (some d) H') ∧
  (firstBad ds = none → 60 < ds.length → ∀ d H', Same H H' → H' d = some (.xd [("most", .int 60)]) → E (.ref c.Full) (some d) H') ∧
  (firstBad ds = none → ds.length ≤ 60 → 300 < total ds → ∀ d H', Same H H' → H' d = some (.xd [("most", .int 300)]) → E (.ref c.Full) (some d) H') ∧
  (firstBad ds = none → ds.length ≤ 60 → total ds ≤ 300 → ∀ H' a L rs cs, Same H H' → HeapAt c H' a L rs cs → ds = cs.map PyData.list → H a = none → H L = none → (∀ r ∈ rs, H r = none) → Q (.ref a) H')
/-! ### boxes, places -/
def sp_Heap_contains (K : PySem.W.Frag) (c : Ads) : Sp := fun vs H Q _ => ∃ a v d L rs cs, vs = [.ref a, v] ∧ HeapAt c H a L rs cs ∧ Dt H v d ∧ Q (.bl (within 0 ((cs.length : Int) - 1) d)) H
def sp_NoBox_init (K : PySem.W.Frag) (c : Ads) : Sp := spExInit c.NoBox "number"
def sp_Heap_need_box (K : PySem.W.Frag) (c : Ads) : Sp := fun vs H Q E => ∃ a v d L rs cs, vs = [.ref a, v] ∧ HeapAt c H a L rs cs ∧ Dt H v d ∧
  (within 0 ((cs.length : Int) - 1) d = true → Q .non H) ∧ (within 0 ((cs.length : Int) - 1) d = false → ∀ e H', Err H H' e "number" v → E (.ref c.NoBox) (some e) H')
def sp_Heap_look (K : PySem.W.Frag) (c : Ads) : Sp := fun vs H Q E => ∃ a v d L rs cs, vs = [.ref a, v] ∧ HeapAt c H a L rs cs ∧ Dt H v d ∧
  (∀ k row, d = .int k → 0 ≤ k → cs[k.toNat]? = some row → ∀ p H' xs, Same H H' → H p = none → H' p = some (.lst xs) → DtA H' xs row → Q (.ref p) H') ∧
  (within 0 ((cs.length : Int) - 1) d = false → ∀ e H', Err H H' e "number" v → E (.ref c.NoBox) (some e) H')
def sp_is_box (K : PySem.W.Frag) (c : Ads) : Sp := fun vs H Q _ => ∃ v d, vs = [v] ∧ Dt H v d ∧ Q (.bl (isTuple d)) H
/-- from an item along places -/
def walkAt (cs : List (List PyData)) : PyData → List Int → PyData
  | d, [] => d
  | .tuple [.str _, .int k], p :: ps => match (cs.getD k.toNat [])[p.toNat]? with
    | some e => walkAt cs e ps
    | none => .none
  | _, _ :: _ => .none
def sp_item_at (K : PySem.W.Frag) (c : Ads) : Sp := fun vs H Q E => ∃ a v d p ps L rs cs, vs = [.ref a, v, .ref p] ∧ HeapAt c H a L rs cs ∧ Dt H v d ∧ SqT K H p (ps.map V.int) ∧ (∀ i ∈ ps, (0 : Int) ≤ i) ∧
  (within 0 ((cs.length : Int) - 1) d = true → ∀ w H', Same H H' → Dt H' w (walkAt cs (.tuple [.str "box", d]) ps) → Q w H') ∧
  (within 0 ((cs.length : Int) - 1) d = false → ∀ e H', Err H H' e "number" v → E (.ref c.NoBox) (some e) H')
/-- a law: its script, the answer True -/
def spLaw (K : PySem.W.Frag) : Sp := fun vs H Q _ => ∃ (a : Addr) (ns : List Int), vs = [.ref a] ∧ SqL K H a (ns.map V.int) ∧ ns.length ≤ 63 ∧ ∀ H', Q (.bl true) H'
def sp_law (K : PySem.W.Frag) (c : Ads) : Sp := spLaw K
theorem u200 {k : Nat} {A : Around} (hr : Room k A) : A.units + 200 < cLine := by have := hr.un; omega
theorem u64 {k : Nat} {A : Around} (hr : Room k A) : A.units + 64 < cLine := by have := hr.un; omega
theorem fnr_of {P : Program} {w : World} {K : PySem.W.Frag} {mg : Str → Option Value} {base : Heap} {CX : CXT} {k : Nat} {f : Addr} {fd : FuncData} {ps : List Str} {sp : Sp} (b : Binds K fd ps []) (F : FnOk P w K mg base CX k f fd ps sp) : FnR P w K mg base CX k f sp :=
  (F.raw b .nil).imp fun vs H Q E h => by rw [List.append_nil]; exact h
end RB
/-! RR: readings of the program's defs (printed by gen.py). -/
namespace RB
open PySem PySem.Spec PyProof.Rows L2
/-- BadItem.__init__; slots: self, item -/
def t_BadItem_init (K : PySem.W.Frag) (c : Ads) (E : XK) : TS :=
  (tSeq (tDrop (tExInit c.BadItem (tCons (tVar 0) (tCons (tC (.str "not an item")) tNil))))
  (tExSet c.BadItem "item" (tVar 0) (tVar 1)))
/-- Full.__init__; slots: self, most -/
def t_Full_init (K : PySem.W.Frag) (c : Ads) (E : XK) : TS :=
  (tSeq (tDrop (tExInit c.Full (tCons (tVar 0) (tCons (tC (.str "the heap is full")) tNil))))
  (tExSet c.Full "most" (tVar 0) (tVar 1)))
/-- Heap.__len__; slots: self, one, item -/
def t_Heap_len (K : PySem.W.Frag) (c : Ads) (E : XK) : TS :=
  (tRet (tCB (rLenU K) (tCons (tLc2 (iAny K (tFld K (tVar 0) "lists")) (gName 1) tYes (iAny K (tVar 1)) (gName 2) tYes (tVar 2) [1, 2] [2]) tNil)))
/-- Heap.need_room; slots: self, boxes, items -/
def t_Heap_need_room (K : PySem.W.Frag) (c : Ads) (E : XK) : TS :=
  (tSeq (tIfS (tTest (tOp rGt (tOp (rAddU K) (tCB (rLenU K) (tCons (tFld K (tVar 0) "lists") tNil)) (tVar 1)) (ClX.tCVal K (tC (.ref c.Heap)) "MOST_BOXES"))) (tRaiseX c.Full "most" E (tCons (ClX.tCVal K (tC (.ref c.Heap)) "MOST_BOXES") tNil)) tNext)
  (tIfS (tTest (tOp rGt (tOp (rAddU K) (tCB (rLenO c.Heap (sp_Heap_len K c) E0) (tCons (tVar 0) tNil)) (tVar 2)) (ClX.tCVal K (tC (.ref c.Heap)) "MOST_ITEMS"))) (tRaiseX c.Full "most" E (tCons (ClX.tCVal K (tC (.ref c.Heap)) "MOST_ITEMS") tNil)) tNext))
/-- is_integer; slots: thing -/
def t_is_integer (K : PySem.W.Frag) (c : Ads) (E : XK) : TS :=
  (tRet (tAndV (tCB (rIsi K) (tCons (tVar 0) (tCons (tC (.ty "int")) tNil))) (tNotV (tCB (rIsi K) (tCons (tVar 0) (tCons (tC (.ty "bool")) tNil))))))
/-- is_word; slots: thing, sign -/
def t_is_word (K : PySem.W.Frag) (c : Ads) (E : XK) : TS :=
  (tRet (tAndV (tCB (rIsi K) (tCons (tVar 0) (tCons (tC (.ty "str")) tNil))) (tAndV (tOp rLe (tCB (rLenU K) (tCons (tVar 0) tNil)) (tC (.int 8))) (tCB (rAll K) (tCons (tLc (iAny K (tVar 0)) (gName 1) tYes (tOp (rInU K false) (tVar 1) (tC (.str "abcdefghijklmnopqrstuvwxyz"))) [1]) tNil)))))
/-- is_leaf; slots: thing -/
def t_is_leaf (K : PySem.W.Frag) (c : Ads) (E : XK) : TS :=
  (tRet (tOrV (tCl (sp_is_integer K c) E0 (tCons (tVar 0) tNil)) (tCl (sp_is_word K c) E0 (tCons (tVar 0) tNil))))
/-- is_within; slots: thing, low, high -/
def t_is_within (K : PySem.W.Frag) (c : Ads) (E : XK) : TS :=
  (tRet (tAndV (tCl (sp_is_integer K c) E0 (tCons (tVar 0) tNil)) (tChain rLe rLe (tVar 1) (tVar 0) (tVar 2))))
/-- is_reference; slots: thing, size -/
def t_is_reference (K : PySem.W.Frag) (c : Ads) (E : XK) : TS :=
  (tSeq (tIfS (tOr (tNot (tB (tCB (rIsi K) (tCons (tVar 0) (tCons (tC (.ty "tuple")) tNil))))) (tOr (tTest (tOp (rNeU K) (tCB (rLenU K) (tCons (tVar 0) tNil)) (tC (.int 2)))) (tOr (tNot (tB (tCB (rIsi K) (tCons (tOp (rIx K) (tVar 0) (tC (.int 0))) (tCons (tC (.ty "str")) tNil))))) (tTest (tOp (rNeU K) (tOp (rIx K) (tVar 0) (tC (.int 0))) (tC (.str "box"))))))) (tRet (tC (.bl false))) tNext)
  (tRet (tCl (sp_is_within K c) E0 (tCons (tOp (rIx K) (tVar 0) (tC (.int 1))) (tCons (tC (.int 0)) (tCons (tOp rSubU (tVar 1) (tC (.int 1))) tNil))))))
/-- is_item; slots: thing, size -/
def t_is_item (K : PySem.W.Frag) (c : Ads) (E : XK) : TS :=
  (tRet (tOrV (tCl (sp_is_leaf K c) E0 (tCons (tVar 0) tNil)) (tCl (sp_is_reference K c) E0 (tCons (tVar 0) (tCons (tVar 1) tNil)))))
/-- Heap.__init__; slots: self, contents, one, item -/
def t_Heap_init (K : PySem.W.Frag) (c : Ads) (E : XK) : TS :=
  (tSeq (tFor (iAny K (tVar 1)) (gName 2) (tSeq (tIfS (tNot (tB (tCB (rIsi K) (tCons (tVar 2) (tCons (tC (.ty "list")) tNil))))) (tRaiseX c.BadItem "item" E (tCons (tVar 2) tNil)) tNext)
  (tFor (iAny K (tVar 2)) (gName 3) (tIfS (tNot (tB (tCl (sp_is_item K c) E0 (tCons (tVar 3) (tCons (tCB (rLenU K) (tCons (tVar 1) tNil)) tNil))))) (tRaiseX c.BadItem "item" E (tCons (tVar 3) tNil)) tNext))))
  (tSeq (sFld K (tVar 0) (tLc (iAny K (tVar 1)) (gName 2) tYes (tCB (rList1 K) (tCons (tVar 2) tNil)) [2]) "lists")
  (tDrop (tMt c.Heap "need_room" (sp_Heap_need_room K c) E (tVar 0) (tCons (tC (.int 0)) (tCons (tC (.int 0)) tNil))))))
/-- Heap.of; slots: cls, contents -/
def t_Heap_of (K : PySem.W.Frag) (c : Ads) (E : XK) : TS :=
  (tRet (tClsStar K c.Heap (sp_Heap_init K c) E (tVar 0) (tVar 1)))
/-- Heap.__contains__; slots: self, number -/
def t_Heap_contains (K : PySem.W.Frag) (c : Ads) (E : XK) : TS :=
  (tRet (tCl (sp_is_within K c) E0 (tCons (tVar 1) (tCons (tC (.int 0)) (tCons (tOp rSubU (tCB (rLenU K) (tCons (tFld K (tVar 0) "lists") tNil)) (tC (.int 1))) tNil)))))
/-- NoBox.__init__; slots: self, number -/
def t_NoBox_init (K : PySem.W.Frag) (c : Ads) (E : XK) : TS :=
  (tSeq (tDrop (tExInit c.NoBox (tCons (tVar 0) (tCons (tC (.str "no such box")) tNil))))
  (tExSet c.NoBox "number" (tVar 0) (tVar 1)))
/-- Heap.need_box; slots: self, number -/
def t_Heap_need_box (K : PySem.W.Frag) (c : Ads) (E : XK) : TS :=
  (tIfS (tTest (tOp (rInO c.Heap (sp_Heap_contains K c) E0 true) (tVar 1) (tVar 0))) (tRaiseX c.NoBox "number" E (tCons (tVar 1) tNil)) tNext)
/-- Heap.look; slots: self, box -/
def t_Heap_look (K : PySem.W.Frag) (c : Ads) (E : XK) : TS :=
  (tSeq (tDrop (tMt c.Heap "need_box" (sp_Heap_need_box K c) E (tVar 0) (tCons (tVar 1) tNil)))
  (tRet (tCB (rList1 K) (tCons (tOp (rIx K) (tFld K (tVar 0) "lists") (tVar 1)) tNil))))
/-- is_box; slots: item -/
def t_is_box (K : PySem.W.Frag) (c : Ads) (E : XK) : TS :=
  (tRet (tCB (rIsi K) (tCons (tVar 0) (tCons (tC (.ty "tuple")) tNil))))
/-- item_at; slots: heap, box, path, item, place, items -/
def t_item_at (K : PySem.W.Frag) (c : Ads) (E : XK) : TS :=
  (tSeq (tDrop (tMt c.Heap "need_box" (sp_Heap_need_box K c) E (tVar 0) (tCons (tVar 1) tNil)))
  (tSeq (tAsg (tTup (tCons (tC (.str "box")) (tCons (tVar 1) tNil))) (gName 3))
  (tSeq (tFor (iAny K (tVar 2)) (gName 4) (tSeq (tAsg (tIf (tB (tCl (sp_is_box K c) E0 (tCons (tVar 3) tNil))) (tMt c.Heap "look" (sp_Heap_look K c) E (tVar 0) (tCons (tOp (rIx K) (tVar 3) (tC (.int 1))) tNil)) (tLst tNil)) (gName 5))
  (tSeq (tIfS (tTest (tOp rGe (tVar 4) (tCB (rLenU K) (tCons (tVar 5) tNil)))) (tRet (tC .non)) tNext)
  (tAsg (tOp (rIx K) (tVar 5) (tVar 4)) (gName 3)))))
  (tRet (tVar 3)))))
end RB
/-! RQ: what the program's defs compute. -/
namespace RB
open PySem PySem.Spec PyProof.Rows L2
local macro_rules | `(tactic| walk_at "st1") => `(tactic| with_reducible first
  | refine g_seq ?_ | (refine g_asgN ?_; try dsimp only [List.set]) | refine g_c ?_ | (refine' g_var ?hv ?_; case hv => with_unfolding_all exact rfl)
  | refine g_cons ?_ | refine g_nil ?_ | refine g_op ?_ | refine g_cb ?_ | refine g_cl ?_ | refine g_test ?_ | refine g_tb ?_ | refine g_ifS ?_
  | refine g_rtA ?_ | refine g_nxA ?_ | refine g_next ?_ | refine g_ret ?_ | refine g_retN ?_ | refine g_drop ?_ | refine g_if ?_ | refine g_and ?_ | refine g_or ?_ | refine g_not ?_ | refine g_yes ?_
  | refine g_andV ?_ | refine g_orV ?_ | refine g_notV ?_ | refine g_chain ?_ | refine g_un ?_ | refine g_fld ?_ | refine g_bm ?_ | refine g_mt ?_ | refine g_sl ?_ | refine g_part ?_ | refine g_noPart ?_
  | (refine g_par ?_; try dsimp only [List.set]) | (refine g_par3 ?_; try dsimp only [List.set]) | refine g_asgS ?_ | refine g_asgT ?_ | refine g_lst ?_ | refine g_tup ?_ | refine g_dnewK ?_ | refine g_sfld ?_ | refine g_brk ?_ | refine g_cont ?_
  | refine g_try ?_ | refine g_raiseX ?_ | refine g_cval ?_ | refine g_cmeth ?_ | refine g_cmethS ?_ | refine g_clsStar ?_ | refine g_callS ?_ | refine g_mtS ?_ | refine g_callK ?_ | refine g_callK0 ?_ | refine g_xf ?_ | refine g_for ?_ | refine g_prop ?_
  | refine g_any ?_ | refine g_rng1 ?_ | refine g_rng2 ?_ | refine g_lc ?_ | refine g_lc2 ?_ | (refine g_gName ?_; try dsimp only [List.set]) | refine g_gsub ?_ | refine g_gcons ?_ | refine g_gnil ?_
  | refine ex_bl ?_ | refine ex_int ?_ | refine ite_T ?_ | refine ite_F ?_ | refine ite_nT ?_ | refine ite_nF ?_
  | refine v_addI ?_ | refine v_sub ?_ | refine v_neg ?_ | refine v_lt ?_ | refine v_le ?_ | refine v_gt ?_ | refine v_ge ?_ | refine v_isN ?_ | refine v_notN ?_ | refine v_intI ?_ | refine v_intB ?_ | refine v_max ?_ | refine v_min ?_ | refine v_abs ?_ | refine v_inSign ?_)
local macro_rules | `(tactic| walk_at "st") => `(tactic| repeat walk_at "st1")
local macro_rules | `(tactic| walk_at "known") => `(tactic| first | ((with_reducible refine' ite_cT ?hk ?_); (case hk => rfl)) | ((with_reducible refine' ite_cF ?hk ?_); (case hk => rfl)))
local macro_rules | `(tactic| walk_at "stk") => `(tactic| repeat (first | walk_at "st1" | walk_at "known"))
local macro_rules | `(tactic| walk_at "sj1") => `(tactic| with_reducible first
  | refine g_seq ?_ | (refine g_asgN ?_; try dsimp only [List.set]) | refine g_c ?_ | (refine' g_var ?hv ?_; case hv => with_unfolding_all exact rfl)
  | refine g_cons ?_ | refine g_nil ?_ | refine g_op ?_ | refine g_cb ?_ | refine g_cl ?_ | refine g_test ?_ | refine g_tb ?_ 
  | refine g_rtA ?_ | refine g_nxA ?_ | refine g_next ?_ | refine g_ret ?_ | refine g_retN ?_ | refine g_drop ?_  | refine g_and ?_ | refine g_or ?_ | refine g_not ?_ | refine g_yes ?_
  | refine g_andV ?_ | refine g_orV ?_ | refine g_notV ?_ | refine g_chain ?_ | refine g_un ?_ | refine g_fld ?_ | refine g_bm ?_ | refine g_mt ?_ | refine g_sl ?_ | refine g_part ?_ | refine g_noPart ?_
  | (refine g_par ?_; try dsimp only [List.set]) | (refine g_par3 ?_; try dsimp only [List.set]) | refine g_asgS ?_ | refine g_asgT ?_ | refine g_lst ?_ | refine g_tup ?_ | refine g_dnewK ?_ | refine g_sfld ?_ | refine g_brk ?_ | refine g_cont ?_
  | refine g_try ?_ | refine g_raiseX ?_ | refine g_cval ?_ | refine g_cmeth ?_ | refine g_cmethS ?_ | refine g_clsStar ?_ | refine g_callS ?_ | refine g_mtS ?_ | refine g_callK ?_ | refine g_callK0 ?_ | refine g_xf ?_ | refine g_for ?_ | refine g_prop ?_
  | refine g_any ?_ | refine g_rng1 ?_ | refine g_rng2 ?_ | (refine g_gName ?_; try dsimp only [List.set]) | refine g_gsub ?_ | refine g_gcons ?_ | refine g_gnil ?_
  | refine ex_bl ?_ | refine ex_int ?_ | refine ite_T ?_ | refine ite_F ?_ | refine ite_nT ?_ | refine ite_nF ?_
  | refine v_addI ?_ | refine v_sub ?_ | refine v_neg ?_ | refine v_lt ?_ | refine v_le ?_ | refine v_gt ?_ | refine v_ge ?_ | refine v_isN ?_ | refine v_notN ?_ | refine v_intI ?_ | refine v_intB ?_ | refine v_max ?_ | refine v_min ?_ | refine v_abs ?_ | refine v_inSign ?_)
local macro_rules | `(tactic| walk_at "sj") => `(tactic| repeat walk_at "sj1")
local macro_rules | `(tactic| walk_at "len") => `(tactic| first | decide | exact Nat.le_of_lt (small1000 (by simp)) | exact small1000 (by simp))
local macro_rules | `(tactic| walk_at "start") => `(tactic| dsimp only [L2.start, List.map, List.length, List.append, HAppend.hAppend, Append.append, List.replicate, Nat.reduceAdd, Nat.reduceSub])
section
variable {K : PySem.W.Frag} {c : Ads}
-- PURE is_integer
theorem pure_is_integer (vs : List V) (H : Hp) (Q : VK) (E : XK) (h : sp_is_integer K c vs H Q E) : t_is_integer K c E { nx := fun _ H' => Q .non H', rt := Q } (start ["thing"] vs) H := by
  obtain ⟨v, d, rfl, hd, q⟩ := h
  walk_at "start"
  unfold t_is_integer
  walk_at "st"
  refine v_isInt hd ?_
  walk_at "st"
  cases hd <;> walk_at "stk" <;> try exact q
  · refine v_isBool (.bl _) ?_
    walk_at "st"
    exact q
  · refine v_isBool (.int _) ?_
    walk_at "st"
    exact q
-- PURE is_within
theorem pure_is_within (vs : List V) (H : Hp) (Q : VK) (E : XK) (h : sp_is_within K c vs H Q E) : t_is_within K c E { nx := fun _ H' => Q .non H', rt := Q } (start ["thing", "low", "high"] vs) H := by
  obtain ⟨v, d, lo, hi, rfl, hd, q⟩ := h
  walk_at "start"
  unfold t_is_within
  walk_at "st"
  refine ⟨v, d, rfl, hd, ?_⟩
  walk_at "st"
  cases hd <;> walk_at "stk" <;> try exact q
  rename_i i
  refine ite_d (fun h1 => ?_) fun h1 => ?_
  · walk_at "st"
    simpa [within, h1] using q
  · walk_at "st"
    simpa [within, h1] using q
theorem word_all (z : Str) : (z.cps.toList.map fun k => decide (k ∈ letters)).all id = z.cps.toList.all fun k => decide (k ∈ letters) := by
  rw [List.all_map]
  rfl
-- PURE is_word
theorem pure_is_word (vs : List V) (H : Hp) (Q : VK) (E : XK) (h : sp_is_word K c vs H Q E) : t_is_word K c E { nx := fun _ H' => Q .non H', rt := Q } (start ["thing", "sign"] vs) H := by
  obtain ⟨v, d, rfl, hd, q⟩ := h
  walk_at "start"
  unfold t_is_word
  walk_at "st"
  refine v_isStr hd ?_
  walk_at "st"
  cases hd <;> walk_at "stk" <;> try exact q _ (Same.refl _)
  rename_i z hz
  refine v_lenS hz ?_
  walk_at "st"
  refine ite_d (fun h1 => ?_) fun h1 => ?_
  · walk_at "st"
    refine it_str ?_
    intro D hD
    refine lc_it walk_str (fun i H' => Same H H' ∧ H' D = some (.lst (((z.cps.toList.take i).map fun k => decide (k ∈ letters)).map V.bl))) ⟨sm_new hD, upd_same⟩ (fun _ _ _ _ => trivial) ?_ ?_
    · rintro i y H1 H2 hi ⟨s, e⟩ ⟨rfl, k, hk, rfl⟩
      walk_at "st"
      refine ⟨rfl, ?_⟩
      walk_at "st"
      refine ⟨_, e, ?_, sm_upd s hD, ?_⟩
      · have : (z.cps.toList.take i).length ≤ 8 := by
          rw [List.length_take]
          have : z.cps.toList.length = z.length := rfl
          omega
        simp only [List.length_map]
        exact small1000 (by omega)
      · rw [upd_same]
        have hk' : z.cps.toList[i]? = some k := by simpa using hk
        simp only [List.map_map]
        exact congrArg (fun l => some (HO.lst l)) (take_map (V.bl ∘ fun k => decide (k ∈ letters)) hk')
    · rintro H1 ⟨s, e⟩
      walk_at "st"
      have e2 : z.cps.size = z.cps.toList.length := by simp
      rw [e2, List.take_length] at e
      refine v_all e ?_
      walk_at "st"
      rw [word_all]
      have : isWord (.str z) = z.cps.toList.all fun k => decide (k ∈ letters) := by
        have : z.length ≤ 8 := by omega
        simp [isWord, this]
      rw [this] at q
      exact q _ s
  · walk_at "st"
    have e : isWord (.str z) = false := by
      have : ¬ z.length ≤ 8 := by omega
      simp [isWord, this]
    rw [e] at q
    exact q _ (Same.refl _)
-- PURE is_leaf
theorem pure_is_leaf (vs : List V) (H : Hp) (Q : VK) (E : XK) (h : sp_is_leaf K c vs H Q E) : t_is_leaf K c E { nx := fun _ H' => Q .non H', rt := Q } (start ["thing"] vs) H := by
  obtain ⟨v, d, rfl, hd, q⟩ := h
  walk_at "start"
  unfold t_is_leaf
  walk_at "st"
  refine ⟨v, d, rfl, hd, ?_⟩
  walk_at "st"
  refine ite_b (fun e => ?_) fun e => ?_
  · walk_at "st"
    have : isLeaf d = true := by simp [isLeaf, e]
    rw [this] at q
    exact q _ (Same.refl _)
  · walk_at "st"
    refine ⟨v, d, rfl, hd, fun H' s => ?_⟩
    walk_at "st"
    have : isLeaf d = isWord d := by simp [isLeaf, e]
    rw [this] at q
    exact q _ s
-- PURE is_reference
theorem pure_is_reference (vs : List V) (H : Hp) (Q : VK) (E : XK) (h : sp_is_reference K c vs H Q E) : t_is_reference K c E { nx := fun _ H' => Q .non H', rt := Q } (start ["thing", "size"] vs) H := by
  obtain ⟨v, d, n, rfl, hd, q⟩ := h
  walk_at "start"
  unfold t_is_reference
  walk_at "st"
  refine v_isTuple hd ?_
  walk_at "st"
  cases hd <;> walk_at "stk" <;> try exact q
  rename_i a xs ds e ha
  refine v_lenT (SqT.of e) ?_
  walk_at "st"
  refine v_neS rfl ?_
  walk_at "st"
  refine ite_n (fun h1 => ?_) fun h1 => ?_
  · walk_at "stk"
    have : isRef n (.tuple ds) = false := by
      have hl := ha.len
      have h2 : ds.length ≠ 2 := fun z => h1 (by rw [hl, z]; rfl)
      match ds, h2 with
      | [], _ => rfl
      | [_], _ => unfold isRef; split <;> simp_all
      | _ :: _ :: _ :: _, _ => unfold isRef; split <;> simp_all
      | [_, _], h2 => exact absurd rfl h2
    rw [this] at q
    exact q
  · have hl : xs.length = 2 := by
      have := V.int.inj h1
      omega
    match xs, ds, ha, hl with
    | [x0, x1], _, .cons (d := d0) h0 (.cons (d := d1) h2 .nil), _ =>
    walk_at "st"
    refine v_ixT (SqT.of e) rfl ?_
    walk_at "st"
    refine v_isStr h0 ?_
    walk_at "st"
    have no : (∀ z, d0 ≠ .str z) → isRef n (.tuple [d0, d1]) = false := fun k => by
      cases d0 <;> first | rfl | exact absurd rfl (k _)
    cases h0 with
    | str z hz =>
      walk_at "stk"
      refine v_ixT (SqT.of e) rfl ?_
      walk_at "st"
      refine v_neS rfl ?_
      walk_at "st"
      have er : isRef n (.tuple [.str z, d1]) = (decide (z = "box") && within 0 (n - 1) d1) := rfl
      refine ite_n (fun h1 => ?_) fun h1 => ?_
      · walk_at "stk"
        have : z ≠ "box" := fun k => h1 (by rw [k])
        rw [er, decide_eq_false this] at q
        exact q
      · walk_at "stk"
        have : z = "box" := V.str.inj h1
        rw [er, decide_eq_true this] at q
        refine v_ixT (SqT.of e) rfl ?_
        walk_at "st"
        refine ⟨x1, d1, 0, n - 1, rfl, h2, ?_⟩
        exact q
    | _ =>
      walk_at "stk"
      rw [no (by intro z; simp)] at q
      exact q
-- PURE is_item
theorem pure_is_item (vs : List V) (H : Hp) (Q : VK) (E : XK) (h : sp_is_item K c vs H Q E) : t_is_item K c E { nx := fun _ H' => Q .non H', rt := Q } (start ["thing", "size"] vs) H := by
  obtain ⟨v, d, n, rfl, hd, q⟩ := h
  walk_at "start"
  unfold t_is_item
  walk_at "st"
  refine ⟨v, d, rfl, hd, fun H' s => ?_⟩
  walk_at "st"
  refine ite_b (fun e => ?_) fun e => ?_
  · walk_at "st"
    have : isItem n d = true := by simp [isItem, e]
    rw [this] at q
    exact q _ s
  · walk_at "st"
    refine ⟨v, d, n, rfl, hd.s s, ?_⟩
    have : isItem n d = isRef n d := by simp [isItem, e]
    rw [this] at q
    exact q _ s
-- PURE BadItem_init
theorem pure_BadItem_init (vs : List V) (H : Hp) (Q : VK) (E : XK) (h : sp_BadItem_init K c vs H Q E) : t_BadItem_init K c E { nx := fun _ H' => Q .non H', rt := Q } (start ["self", "item"] vs) H := by
  obtain ⟨a, v, rfl, ha, q⟩ := h
  exact ⟨_, rfl, a, _, rfl, by decide, ha, _, rfl, _, rfl, a, rfl, ha, q⟩
-- PURE Full_init
theorem pure_Full_init (vs : List V) (H : Hp) (Q : VK) (E : XK) (h : sp_Full_init K c vs H Q E) : t_Full_init K c E { nx := fun _ H' => Q .non H', rt := Q } (start ["self", "most"] vs) H := by
  obtain ⟨a, v, rfl, ha, q⟩ := h
  exact ⟨_, rfl, a, _, rfl, by decide, ha, _, rfl, _, rfl, a, rfl, ha, q⟩
theorem map_ref {rs : List Addr} {i : Nat} {x : V} (h : (rs.map V.ref)[i]? = some x) : ∃ r, rs[i]? = some r ∧ x = .ref r := by
  rw [List.getElem?_map] at h
  cases e : rs[i]? with
  | none =>
    rw [e] at h
    cases h
  | some r =>
    rw [e] at h
    exact ⟨r, rfl, (Option.some.inj h).symm⟩
theorem sumLen_take {cs : List (List PyData)} {i : Nat} {ds : List PyData} (h : cs[i]? = some ds) : sumLen (cs.take (i + 1)) = sumLen (cs.take i) + ds.length := by
  unfold sumLen
  rw [take_one h]
  simp
theorem sumLen_le {cs : List (List PyData)} (i : Nat) : sumLen (cs.take i) ≤ sumLen cs := by
  have : sumLen cs = sumLen (cs.take i) + sumLen (cs.drop i) := by
    unfold sumLen
    rw [← List.sum_append, ← List.map_append, List.take_append_drop]
  omega
-- PURE Heap_len KHeap
theorem pure_Heap_len (kh : KHeap K c) (vs : List V) (H : Hp) (Q : VK) (E : XK) (h : sp_Heap_len K c vs H Q E) : t_Heap_len K c E { nx := fun _ H' => Q .non H', rt := Q } (start ["self", "one", "item"] vs) H := by
  obtain ⟨a, L, rs, cs, rfl, hp, hb, q⟩ := h
  obtain ⟨dx, e1, e2⟩ := hp.ins
  walk_at "start"
  unfold t_Heap_len
  walk_at "st"
  refine ⟨a, c.Heap, dx, _, _, rfl, e1, kh.cl, kh.na, rfl, ?_⟩
  refine it_list (SqL.of hp.lst) ?_
  intro D hD
  refine lc2_it walk_list (fun i H' => Same H H' ∧ ∃ acc, H' D = some (.lst acc) ∧ acc.length = sumLen (cs.take i)) ⟨sm_new hD, _, upd_same, rfl⟩ (fun i H' _ p => SqL.of (p.1 _ _ hp.lst)) ?_ ?_
  · rintro i x H1 H2 hi ⟨s, acc, ea, el⟩ ⟨rfl, hx⟩
    obtain ⟨r, hr, rfl⟩ := map_ref hx
    obtain ⟨ds, xs, hc, hrx, hd⟩ := hp.rows.get hr
    have hst := sumLen_take hc
    have hle := sumLen_le (cs := cs) (i + 1)
    walk_at "st"
    refine ⟨rfl, ?_⟩
    walk_at "st"
    refine it_list (SqL.of (s _ _ hrx)) ?_
    refine in_it walk_list (fun j H' => Same H H' ∧ ∃ acc, H' D = some (.lst acc) ∧ acc.length = sumLen (cs.take i) + j) ⟨s, acc, ea, el⟩ (fun i H' _ p => SqL.of (p.1 _ _ hrx)) ?_ ?_
    · rintro j y H3 H4 hj ⟨s3, acc3, ea3, el3⟩ ⟨rfl, hy⟩
      walk_at "st"
      refine ⟨rfl, ?_⟩
      walk_at "st"
      refine ⟨acc3, ea3, ?_, sm_upd s3 hD, _, upd_same, ?_⟩
      · rw [hd.len] at hj
        exact Nat.lt_of_le_of_lt (by omega : acc3.length ≤ 10000000) (by decide)
      · rw [List.length_append, el3]
        rfl
    · rintro H3 ⟨s3, acc3, ea3, el3⟩
      exact ⟨s3, acc3, ea3, by rw [el3, hst, hd.len]⟩
  · rintro H1 ⟨s, acc, ea, el⟩
    walk_at "st"
    refine v_lenL (SqL.of ea) ?_
    walk_at "st"
    rw [el, hp.len, List.take_length]
    exact q _ s
-- PURE Heap_need_room KHeap KMost
theorem pure_Heap_need_room (kh : KHeap K c) (km : KMost K c) (vs : List V) (H : Hp) (Q : VK) (E : XK) (h : sp_Heap_need_room K c vs H Q E) : t_Heap_need_room K c E { nx := fun _ H' => Q .non H', rt := Q } (start ["self", "boxes", "items"] vs) H := by
  obtain ⟨a, b, i, L, rs, cs, rfl, hp, hb, k1, k2, k3⟩ := h
  obtain ⟨dx, e1, e2⟩ := hp.ins
  obtain ⟨t1, hmb⟩ := km.mb
  obtain ⟨t2, hmi⟩ := km.mi
  have vb : ClX.CVal K c.Heap (.type "type") "MOST_BOXES" (.int 60) (.int 60 t1) := ⟨hmb, ⟨_, rfl⟩⟩
  have vi : ClX.CVal K c.Heap (.type "type") "MOST_ITEMS" (.int 300) (.int 300 t2) := ⟨hmi, ⟨_, rfl⟩⟩
  walk_at "start"
  unfold t_Heap_need_room
  walk_at "st"
  refine ⟨a, c.Heap, dx, _, _, rfl, e1, kh.cl, kh.na, rfl, ?_⟩
  walk_at "st"
  refine v_lenL (SqL.of hp.lst) ?_
  walk_at "st"
  refine ⟨_, _, _, _, rfl, km.cr, vb, ?_⟩
  walk_at "st"
  rw [hp.len]
  refine ite_d (fun h1 => ?_) fun h1 => ?_
  · walk_at "st"
    refine ⟨_, _, _, _, rfl, km.cr, vb, ?_⟩
    walk_at "st"
    exact ⟨_, rfl, fun d hd => k1 h1 d _ ⟨sm_new hd, upd_same⟩⟩
  · walk_at "st"
    refine ⟨a, dx, _, rfl, e1, ⟨a, L, rs, cs, rfl, hp, hb, fun H1 s1 => ⟨_, rfl, ⟨by omega, by omega⟩, ?_⟩⟩⟩
    walk_at "st"
    refine ⟨_, _, _, _, rfl, km.cr, vi, ?_⟩
    walk_at "st"
    refine ite_d (fun h2 => ?_) fun h2 => ?_
    · walk_at "st"
      refine ⟨_, _, _, _, rfl, km.cr, vi, ?_⟩
      walk_at "st"
      exact ⟨_, rfl, fun d hd => k2 (by omega) h2 d _ ⟨s1.trans (sm_new hd), upd_same⟩⟩
    · walk_at "st"
      exact k3 (by omega) (by omega) _ s1
theorem drop_cons {α : Type} {l : List α} {i : Nat} {x : α} (h : l[i]? = some x) : l.drop i = x :: l.drop (i + 1) := by
  obtain ⟨hi, rfl⟩ := List.getElem?_eq_some_iff.mp h
  exact List.drop_eq_getElem_cons hi
-- PURE Heap_init KHeap
theorem pure_Heap_init (kh : KHeap K c) (vs : List V) (H : Hp) (Q : VK) (E : XK) (h : sp_Heap_initB K c vs H Q E) : t_Heap_init K c E { nx := fun _ H' => Q .non H', rt := Q } (start ["self", "contents", "one", "item"] vs) H := by
  obtain ⟨a, dx, t, xs, ds, rfl, ha, hdx, ht, hd, hl, hr, htot, k1, k2, k3, k4⟩ := h
  have hlen : xs.length = ds.length := hd.len
  have hfb : firstBad ds = firstBadFrom xs.length ds := by unfold firstBad; rw [hlen]
  walk_at "start"
  unfold t_Heap_init
  walk_at "st"
  refine it_tup (SqT.of ht) ?_
  refine for_it walk_tup (fun i σ H' => Same H H' ∧ (∃ x2 x3, σ = [some (.ref a), some (.ref t), x2, x3]) ∧ firstBadFrom xs.length ds = firstBadFrom xs.length (ds.drop i)) ⟨Same.refl _, ⟨_, _, rfl⟩, rfl⟩ (fun i σ H' _ p => SqT.of (p.1 _ _ ht)) ?_ ?_
  · rintro i x σ H1 H2 hi ⟨s, ⟨x2, x3, rfl⟩, hf⟩ ⟨rfl, hx⟩
    obtain ⟨d, hdi, hxd⟩ := hd.get hx
    rw [drop_cons hdi] at hf
    walk_at "st"
    refine v_isList (hxd.s s) ?_
    walk_at "st"
    refine ite_b (fun e => ?_) fun e => ?_
    · walk_at "st"
      refine ⟨_, rfl, fun p hp => k1 d ?_ x p _ (Fr.of (sm_upd s (by cases hh : H p with | none => rfl | some o => rw [s _ _ hh] at hp; cases hp))) upd_same ((hxd.s s).s (sm_new hp))⟩
      rw [hfb, hf]
      exact firstBad_not (by simpa using e)
    · walk_at "st"
      cases d with
      | list r =>
        rw [firstBad_list] at hf
        cases hxd with
        | @lst p ys _ hp hys =>
        refine it_list (SqL.of (s _ _ hp)) ?_
        refine for_it walk_list (fun j σ H' => Same H H' ∧ (∃ x3, σ = [some (.ref a), some (.ref t), some (.ref p), x3]) ∧ (r.find? fun d => !isItem xs.length d) = ((r.drop j).find? fun d => !isItem xs.length d)) ⟨s, ⟨_, rfl⟩, rfl⟩ (fun j σ H' _ p => SqL.of (p.1 _ _ hp)) ?_ ?_
        · rintro j y σ H3 H4 hj ⟨s3, ⟨y3, rfl⟩, hf3⟩ ⟨rfl, hy⟩
          obtain ⟨e, hej, hye⟩ := hys.get hy
          rw [drop_cons hej] at hf3
          walk_at "st"
          refine v_lenT (SqT.of (s3 _ _ ht)) ?_
          walk_at "st"
          refine ⟨y, e, _, rfl, hye.s s3, fun H5 s5 => ?_⟩
          walk_at "st"
          have s35 := s3.trans s5
          refine ite_b (fun ei => ?_) fun ei => ?_
          · walk_at "st"
            refine ⟨_, rfl, fun q hq => k1 e ?_ y q _ (Fr.of (sm_upd s35 (by cases hh : H q with | none => rfl | some o => rw [s35 _ _ hh] at hq; cases hq))) upd_same ((hye.s s35).s (sm_new hq))⟩
            rw [hfb, hf, hf3, List.find?_cons_of_pos (p := fun d => !isItem xs.length d) ei]
          · walk_at "st"
            refine ⟨s35, ⟨_, rfl⟩, ?_⟩
            rw [hf3, List.find?_cons_of_neg (p := fun d => !isItem xs.length d) (by simp [ei])]
        · rintro σ H3 ⟨s3, ⟨y3, rfl⟩, hf3⟩
          walk_at "st"
          refine ⟨s3, ⟨_, _, rfl⟩, ?_⟩
          rw [hf, hf3, hys.len, List.drop_length]
          rfl
      | _ => cases e
  · rintro σ H1 ⟨s, ⟨x2, x3, rfl⟩, hf⟩
    rw [hlen, List.drop_length] at hf
    have hno : firstBad ds = none := hf
    obtain ⟨cs, rfl, hit⟩ := firstBad_lists hf
    walk_at "st"
    refine it_tup (SqT.of (s _ _ ht)) ?_
    intro D hD
    have hDH : H D = none := by
      cases hh : H D with
      | none => rfl
      | some o =>
        rw [s _ _ hh] at hD
        cases hD
    have hm : ∀ x ∈ [a], ∀ o, H x = some o → isData o = false := fun x hx o ho => by
      rw [List.mem_singleton.mp hx, ha] at ho
      cases ho
      rfl
    have hd2 : DtA (hid [a] H) xs (cs.map PyData.list) := DtA.hide hm _ _ hd
    have s1 : Same (hid [a] H) (hid [D, a] (upd H1 D (.lst []))) := fun b o e => hid_new hD b o (Fr.of s b o e)
    refine lc2_it walk_tup (fun i H' => Same (hid [a] H) (hid [D, a] H') ∧ Same H H' ∧ ∃ rs : List Addr, H' D = some (.lst (rs.map V.ref)) ∧ RowsAt (hid [D, a] H') rs (cs.take i) ∧ (D :: rs).Nodup ∧ ∀ r ∈ rs, H r = none)
      ⟨s1, sm_upd s hDH, [], upd_same, by rw [List.take_zero]; exact .nil, by simp, by simp⟩ (fun i H' _ p => SqT.of (p.2.1 _ _ ht)) ?_ ?_
    · rintro i x H2 H3 hi ⟨s2, sH, rs, hDl, hrs, hnd, hnew⟩ ⟨rfl, hx⟩
      obtain ⟨d, hdi, hxd⟩ := hd2.get hx
      rw [List.getElem?_map] at hdi
      cases hci : cs[i]? with
      | none =>
        rw [hci] at hdi
        cases hdi
      | some row =>
      rw [hci] at hdi
      cases hdi
      cases hxd with
      | @lst p ys _ hp hys =>
      walk_at "st"
      refine ⟨rfl, ?_⟩
      walk_at "st"
      have hp2 := s2 _ _ hp
      refine v_list (SqL.of (hid_get hp2)) fun l hl => ?_
      have hnl : ∀ b o, H3 b = some o → b ≠ l := fun b o hb => ne_of_none hb hl
      have hlD : l ≠ D := (hnl _ _ hDl).symm
      have hla : l ≠ a := (hnl _ _ (sH _ _ ha)).symm
      have hHl : H l = none := by
        cases hh : H l with
        | none => rfl
        | some o =>
          rw [sH _ _ hh] at hl
          cases hl
      have f1 : Fr [D, a] H3 (upd (upd H3 l (.lst ys)) D (.lst (rs.map V.ref ++ [.ref l]))) := (Fr.new hl).trans (Fr.set (by simp))
      refine ⟨_, (upd_ne (hnl _ _ hDl)).trans hDl, ?_, s2.trans f1, ?_, rs ++ [l], ?_, ?_, ?_, ?_⟩
      · have h1 := hrs.len
        have h2 : (cs.take i).length ≤ cs.length := by rw [List.length_take]; omega
        have h3 : cs.length = xs.length := by rw [hlen, List.length_map]
        rw [List.length_map]
        exact Nat.lt_of_le_of_lt (by omega : rs.length ≤ 100000) (by decide)
      · exact sm_upd (sm_upd sH hHl) hDH
      · rw [upd_same, List.map_append]
        rfl
      · have e2 : cs.take (i + 1) = cs.take i ++ [row] := take_one hci
        rw [e2]
        refine (hrs.s f1).snoc (xs := ys) (hid_of ((upd_ne hlD).trans upd_same) (by simp [hlD, hla])) ((hys.s s2).s f1)
      · have hnr : l ∉ rs := fun m => by
          obtain ⟨k, hk⟩ := List.getElem?_of_mem m
          obtain ⟨_, _, _, e1, _⟩ := hrs.get hk
          exact hnl _ _ (hid_get e1) rfl
        rw [← List.cons_append]
        refine List.nodup_append.mpr ⟨hnd, by simp, fun b hb z hz => ?_⟩
        rw [List.mem_singleton.mp hz]
        rcases List.mem_cons.mp hb with w | w
        · rw [w]
          exact hlD.symm
        · intro w2
          exact hnr (w2 ▸ w)
      · intro r hr
        rcases List.mem_append.mp hr with w | w
        · exact hnew r w
        · rw [List.mem_singleton.mp w]
          exact hHl
    · rintro H2 ⟨s2, sH, rs, hDl, hrs, hnd, hnew⟩
      have h3 : cs.length = xs.length := by rw [hlen, List.length_map]
      rw [← h3, List.take_length] at hrs
      walk_at "st"
      refine ⟨a, c.Heap, dx, _, rfl, sH _ _ ha, kh.cl, kh.na, by decide, ?_⟩
      walk_at "st"
      have haD : a ≠ D := ne_of_none ha hDH
      have f2 : Fr [a] H (upd H2 a (.ins c.Heap dx (putF "lists" (.ref D) []))) := (Fr.of sH).trans (Fr.set (by simp))
      have hap : HeapAt c (upd H2 a (.ins c.Heap dx (putF "lists" (.ref D) []))) a D rs cs := by
        refine ⟨⟨dx, upd_same, ?_⟩, (upd_ne haD.symm).trans hDl, ?_, hnd, by omega, fun r hr' => ?_, fun r hr' d hd' => ?hokk⟩
        · have : dx ≠ a := fun z => by
            rw [z, ha] at hdx
            cases hdx
          exact (upd_ne this).trans (sH _ _ hdx)
        · exact (hrs.s (Fr.set (by simp) : Fr [D, a] H2 (upd H2 a _))).s same_hid
        · exact hr (.list r) (List.mem_map.mpr ⟨r, hr', rfl⟩)
        · have := hit r hr' d hd'
          rwa [List.length_map] at this
      have ht2 : total (cs.map PyData.list) = sumLen cs := total_lists
      walk_at "st"
      refine ⟨a, dx, _, rfl, upd_same, rfl, ?_⟩
      walk_at "st"
      have hcl : (cs.map PyData.list).length = cs.length := List.length_map _
      refine ⟨a, 0, 0, D, rs, cs, rfl, hap, by omega, fun g d H' er => ?_, fun g1 g2 d H' er => ?_, fun g1 g2 H' s3 => ?_⟩
      · exact k2 hno (by omega) d H' (f2.trans (Fr.of er.1)) er.2
      · exact k3 hno (by omega) (by omega) d H' (f2.trans (Fr.of er.1)) er.2
      · walk_at "st"
        exact k4 hno (by omega) (by omega) H' D rs cs (f2.trans (Fr.of s3)) (hap.s s3) rfl hDH hnew
-- PURE Heap_of
theorem pure_Heap_of (vs : List V) (H : Hp) (Q : VK) (E : XK) (h : sp_Heap_of K c vs H Q E) : t_Heap_of K c E { nx := fun _ H' => Q .non H', rt := Q } (start ["cls", "contents"] vs) H := by
  obtain ⟨l, xs, ds, rfl, hl, hd, hz, hr, ht, k1, k2, k3, k4⟩ := h
  walk_at "start"
  unfold t_Heap_of
  walk_at "st"
  refine ⟨rfl, ?_⟩
  walk_at "st"
  refine ⟨l, xs, rfl, .inr (SqL.of hl), fun x dx nx ndx ne => ⟨[.ref x], xs, rfl, rfl, Nat.le_trans hz (by decide), fun p hp => ?_⟩⟩
  have s0 : Same H (upd (upd (upd H dx (.own x)) x (.ins c.Heap dx [])) p (.tup xs)) := sm_upd (sm_upd (sm_new ndx) nx) (by
    cases hh : H p with
    | none => rfl
    | some o =>
      have := sm_upd (H := H) (o := .ins c.Heap dx []) (sm_new (o := .own x) ndx) nx _ _ hh
      rw [this] at hp
      cases hp)
  have hxp : x ≠ p := ne_of_none upd_same hp
  have hdp : dx ≠ p := ne_of_none ((upd_ne ne).trans upd_same) hp
  refine ⟨x, dx, p, xs, ds, rfl, (upd_ne hxp).trans upd_same, (upd_ne hdp).trans ((upd_ne ne).trans upd_same), upd_same, hd.s s0, hz, hr, ht, fun bad hb v d H' f => k1 bad hb v d H' (fr_fresh s0 nx f), fun g g2 d H' f => k2 g g2 d H' (fr_fresh s0 nx f),
    fun g g2 g3 d H' f => k3 g g2 g3 d H' (fr_fresh s0 nx f), fun g g2 g3 H' L rs cs f hap e hL hrs => ⟨rfl, ?_⟩⟩
  walk_at "st"
  have back : ∀ b, upd (upd (upd H dx (.own x)) x (.ins c.Heap dx [])) p (.tup xs) b = none → H b = none := fun b hb => by
    cases hh : H b with
    | none => rfl
    | some o =>
      rw [s0 _ _ hh] at hb
      cases hb
  exact k4 g g2 g3 H' x L rs cs (fr_fresh s0 nx f) hap e nx (back L hL) fun r hr' => back r (hrs r hr')
-- PURE NoBox_init
theorem pure_NoBox_init (vs : List V) (H : Hp) (Q : VK) (E : XK) (h : sp_NoBox_init K c vs H Q E) : t_NoBox_init K c E { nx := fun _ H' => Q .non H', rt := Q } (start ["self", "number"] vs) H := by
  obtain ⟨a, v, rfl, ha, q⟩ := h
  exact ⟨_, rfl, a, _, rfl, by decide, ha, _, rfl, _, rfl, a, rfl, ha, q⟩
-- PURE Heap_contains KHeap
theorem pure_Heap_contains (kh : KHeap K c) (vs : List V) (H : Hp) (Q : VK) (E : XK) (h : sp_Heap_contains K c vs H Q E) : t_Heap_contains K c E { nx := fun _ H' => Q .non H', rt := Q } (start ["self", "number"] vs) H := by
  obtain ⟨a, v, d, L, rs, cs, rfl, hp, hd, q⟩ := h
  obtain ⟨dx, e1, e2⟩ := hp.ins
  walk_at "start"
  unfold t_Heap_contains
  walk_at "st"
  refine ⟨a, c.Heap, dx, _, _, rfl, e1, kh.cl, kh.na, rfl, ?_⟩
  walk_at "st"
  refine v_lenL (SqL.of hp.lst) ?_
  walk_at "st"
  rw [hp.len]
  exact ⟨v, d, 0, _, rfl, hd, q⟩
-- PURE Heap_need_box
theorem pure_Heap_need_box (vs : List V) (H : Hp) (Q : VK) (E : XK) (h : sp_Heap_need_box K c vs H Q E) : t_Heap_need_box K c E { nx := fun _ H' => Q .non H', rt := Q } (start ["self", "number"] vs) H := by
  obtain ⟨a, v, d, L, rs, cs, rfl, hp, hd, k1, k2⟩ := h
  obtain ⟨dx, e1, e2⟩ := hp.ins
  walk_at "start"
  unfold t_Heap_need_box
  walk_at "st"
  refine ⟨a, dx, _, rfl, e1, ⟨a, v, d, L, rs, cs, rfl, hp, hd, ⟨_, rfl, ?_⟩⟩⟩
  walk_at "st"
  cases hw : within 0 ((cs.length : Int) - 1) d with
  | true =>
    walk_at "stk"
    exact k1 hw
  | false =>
    walk_at "stk"
    exact ⟨_, rfl, fun e he => k2 hw e _ ⟨sm_new he, upd_same⟩⟩
-- PURE Heap_look KHeap
theorem pure_Heap_look (kh : KHeap K c) (vs : List V) (H : Hp) (Q : VK) (E : XK) (h : sp_Heap_look K c vs H Q E) : t_Heap_look K c E { nx := fun _ H' => Q .non H', rt := Q } (start ["self", "box"] vs) H := by
  obtain ⟨a, v, d, L, rs, cs, rfl, hp, hd, k1, k2⟩ := h
  obtain ⟨dx, e1, e2⟩ := hp.ins
  walk_at "start"
  unfold t_Heap_look
  walk_at "st"
  refine ⟨a, dx, _, rfl, e1, rfl, ?_⟩
  walk_at "st"
  refine ⟨a, v, d, L, rs, cs, rfl, hp, hd, fun hw => ?_, k2⟩
  walk_at "st"
  refine ⟨a, c.Heap, dx, _, _, rfl, e1, kh.cl, kh.na, rfl, ?_⟩
  walk_at "st"
  cases hd <;> first | (cases hw; done) | skip
  rename_i k
  have hk : 0 ≤ k ∧ k ≤ (cs.length : Int) - 1 := by simpa [within] using hw
  have hk2 : k.toNat < rs.length := by rw [hp.rows.len]; omega
  obtain ⟨ds, xs, hc, hr, hds⟩ := hp.rows.get (List.getElem?_eq_getElem hk2)
  refine v_ixL (SqL.of hp.lst) (at_int hk.1 (by rw [List.getElem?_map, List.getElem?_eq_getElem hk2]; rfl)) ?_
  walk_at "st"
  refine v_list (SqL.of hr) (new_ fun p G hpn eG sG oG => ?_)
  exact k1 k ds rfl hk.1 hc p G xs sG hpn oG (hds.s sG)
-- PURE is_box
theorem pure_is_box (vs : List V) (H : Hp) (Q : VK) (E : XK) (h : sp_is_box K c vs H Q E) : t_is_box K c E { nx := fun _ H' => Q .non H', rt := Q } (start ["item"] vs) H := by
  obtain ⟨v, d, rfl, hd, q⟩ := h
  walk_at "start"
  unfold t_is_box
  walk_at "st"
  exact v_isTuple hd q
theorem isItem_cases {n : Int} {d : PyData} (h : isItem n d = true) : (∃ i, d = .int i) ∨ (∃ z, d = .str z) ∨ ∃ k : Int, d = .tuple [.str "box", .int k] ∧ 0 ≤ k ∧ k ≤ n - 1 := by
  unfold isItem at h
  cases d with
  | int i => exact .inl ⟨i, rfl⟩
  | str z => exact .inr (.inl ⟨z, rfl⟩)
  | tuple ds =>
    refine .inr (.inr ?_)
    have h2 : isRef n (.tuple ds) = true := by simpa [isLeaf, isInt, isWord] using h
    unfold isRef at h2
    split at h2
    · rename_i e
      obtain ⟨e1, e2⟩ := Bool.and_eq_true_iff.mp h2
      have eb := of_decide_eq_true e1
      rename_i b d
      cases d with
      | int k =>
        have : 0 ≤ k ∧ k ≤ n - 1 := by simpa [within] using e2
        exact ⟨k, by rw [e, eb], this.1, this.2⟩
      | _ => cases e2
    · cases h2
  | _ => simp [isLeaf, isInt, isWord, isRef] at h
-- PURE item_at
theorem pure_item_at (vs : List V) (H : Hp) (Q : VK) (E : XK) (h : sp_item_at K c vs H Q E) : t_item_at K c E { nx := fun _ H' => Q .non H', rt := Q } (start ["heap", "box", "path", "item", "place", "items"] vs) H := by
  obtain ⟨a, v, d, p, ps, L, rs, cs, rfl, hp, hd, hps, pos, k1, k2⟩ := h
  obtain ⟨dx, e1, e2⟩ := hp.ins
  walk_at "start"
  unfold t_item_at
  walk_at "st"
  refine ⟨a, dx, _, rfl, e1, rfl, ?_⟩
  walk_at "st"
  refine ⟨a, v, d, L, rs, cs, rfl, hp, hd, fun hw => ?_, k2⟩
  replace k1 := k1 hw
  walk_at "st"
  refine ⟨by walk_at "len", new_ fun t G ht eG sG oG => ?_⟩
  walk_at "st"
  have d0 : Dt G (.ref t) (.tuple [.str "box", d]) := .tup oG (.cons (.str _ (by decide +kernel)) (.cons (hd.s sG) .nil))
  have i0 : isItem cs.length (.tuple [.str "box", d]) = true := by simp [isItem, isRef, hw]
  refine it_tup (sG.seqT hps) ?_
  refine for_it walk_tup (fun i σ H' => (∃ x y cur, σ = [some (.ref a), some v, some (.ref p), some cur, x, y] ∧ ∃ e, Dt H' cur e ∧ isItem cs.length e = true ∧ walkAt cs (.tuple [.str "box", d]) ps = walkAt cs e (ps.drop i)) ∧ Same H H')
    ⟨⟨_, _, _, rfl, _, d0, i0, rfl⟩, sG⟩ (fun i σ H' _ q => q.2.seqT hps) ?_ ?_
  · rintro i x σ _ H1 hi ⟨⟨x4, x5, cur, rfl, e, hcur, hit, hwk⟩, s1⟩ ⟨rfl, hx⟩
    rw [List.getElem?_map] at hx
    cases hpi : ps[i]? with
    | none =>
      rw [hpi] at hx
      cases hx
    | some pl =>
    rw [hpi] at hx
    cases hx
    rw [drop_cons hpi] at hwk
    have hpl := pos pl (List.mem_of_getElem? hpi)
    walk_at "st"
    refine ⟨cur, e, rfl, hcur, ?_⟩
    rcases isItem_cases hit with ⟨j, rfl⟩ | ⟨z, rfl⟩ | ⟨k, rfl, hk0, hk1⟩
    · walk_at "stk"
      refine ⟨by walk_at "len", new_ fun u G2 hu eG2 sG2 oG2 => ?_⟩
      walk_at "st"
      refine v_lenL (SqL.of oG2) ?_
      walk_at "st"
      refine ite_d (fun _ => ?_) fun hh => absurd hpl hh
      walk_at "st"
      exact k1 _ _ (s1.trans sG2) (by rw [hwk]; exact .non)
    · walk_at "stk"
      refine ⟨by walk_at "len", new_ fun u G2 hu eG2 sG2 oG2 => ?_⟩
      walk_at "st"
      refine v_lenL (SqL.of oG2) ?_
      walk_at "st"
      refine ite_d (fun _ => ?_) fun hh => absurd hpl hh
      walk_at "st"
      exact k1 _ _ (s1.trans sG2) (by rw [hwk]; exact .non)
    · cases hcur with
      | @tup q0 xs _ ht2 hxs =>
      cases hxs with
      | @cons y0 _ _ _ hy0 hr =>
      cases hr with
      | @cons y1 _ _ _ hy1 hn =>
      cases hn
      cases hy1
      walk_at "stk"
      refine ⟨a, dx, _, rfl, s1 _ _ e1, rfl, ?_⟩
      walk_at "st"
      refine v_ixT (SqT.of ht2) (i := 1) rfl ?_
      walk_at "st"
      refine ⟨a, .int k, .int k, L, rs, cs, rfl, hp.s s1, .int k, fun k' row ek _ hrow u G2 ys sG2 hu oG2 hys => ?_, fun hf => ?_⟩
      · cases ek
        walk_at "st"
        refine v_lenL (SqL.of oG2) ?_
        walk_at "st"
        have hgd : cs.getD k.toNat [] = row := by rw [List.getD_eq_getElem?_getD, hrow]; rfl
        have hyl := hys.len
        refine ite_d (fun hh => ?_) fun hh => ?_
        · walk_at "st"
          refine k1 _ _ (s1.trans sG2) ?_
          have : row[pl.toNat]? = none := List.getElem?_eq_none (by omega)
          rw [hwk]
          show Dt G2 .non (match (cs.getD k.toNat [])[pl.toNat]? with | some e => walkAt cs e (ps.drop (i + 1)) | none => .none)
          rw [hgd, this]
          exact .non
        · walk_at "st"
          have hpl2 : pl.toNat < row.length := by omega
          obtain ⟨w, hw2, hdw⟩ := hys.at (List.getElem?_eq_getElem hpl2)
          refine v_ixL (SqL.of oG2) (at_int hpl hw2) ?_
          walk_at "st"
          refine ⟨⟨_, _, w, rfl, _, hdw, hp.ok row (List.mem_of_getElem? hrow) _ (List.getElem_mem hpl2), ?_⟩, s1.trans sG2⟩
          rw [hwk]
          show (match (cs.getD k.toNat [])[pl.toNat]? with | some e => walkAt cs e (ps.drop (i + 1)) | none => .none) = _
          rw [hgd, List.getElem?_eq_getElem hpl2]
      · have : within 0 ((cs.length : Int) - 1) (.int k) = true := by simp [within, hk0, hk1]
        rw [this] at hf
        cases hf
  · rintro σ H1 ⟨⟨x4, x5, cur, rfl, e, hcur, hit, hwk⟩, s1⟩
    walk_at "st"
    refine k1 _ _ s1 ?_
    rw [hwk, List.length_map, List.drop_length]
    cases e <;> exact hcur
end
end RB
/-! PB0: the promises of what the laws draw. -/
namespace RB
open PySem PySem.Spec PyProof.Rows L2
/-- a law's bag: a large number, a seed -/
def Bag (H : Hp) (b : Addr) : Prop := ∃ l s : Int, H b = some (.lst [.int l, .int s]) ∧ 0 ≤ l ∧ 0 ≤ s ∧ s < 2147483648
theorem Bag.s {H H' : Hp} {b : Addr} (h : Bag H b) (s : Same H H') : Bag H' b := let ⟨l, z, e, k⟩ := h; ⟨l, z, s _ _ e, k⟩
theorem Bag.ne {H : Hp} {b p : Addr} (h : Bag H b) (hp : H p = none) : p ≠ b := let ⟨_, _, e, _⟩ := h; (ne_of_none e hp).symm
/-- a new object beside the bag and other things -/
theorem newB_ {H : Hp} {b : Addr} {M : List Addr} {o : HO} {q : Addr → Hp → Prop} (hb : Bag H b) (hM : ∀ x ∈ M, ∃ u, H x = some u) (h : ∀ p G, H p = none → Bag G b → (∀ x ∈ M, ∃ u, G x = some u) → Same H G → hid M G p = some o → q p G) : newAt H o q := fun p hp =>
  h p _ hp (hb.s (sm_new hp)) (fun x hx => let ⟨u, e⟩ := hM x hx; ⟨u, sm_new hp _ _ e⟩) (sm_new hp) (hid_of upd_same fun m => by
    obtain ⟨u, hu⟩ := hM p m
    rw [hu] at hp
    cases hp)
def sp_law_bag (K : PySem.W.Frag) (c : Ads) : Sp := fun vs H Q _ => ∃ (a : Addr) (ns : List Int) (k : Int), vs = [.ref a, .int k] ∧ SqL K H a (ns.map V.int) ∧ ns.length ≤ 63 ∧ 0 ≤ k ∧ k < 100 ∧
  ∀ H' b, Same H H' → H b = none → Bag H' b → Q (.ref b) H'
def sp_law_take (K : PySem.W.Frag) (c : Ads) : Sp := fun vs H Q _ => ∃ (b : Addr) (n : Int), vs = [.ref b, .int n] ∧ Bag H b ∧ 0 < n ∧ n < 1000000 ∧
  ∀ (r : Int) H', 0 ≤ r → r < n → Fr [b] H H' → Bag H' b → Q (.int r) H'
end RB
/-! PC: leaf, contents, variant C (laws from k34 on). -/
namespace RB
open PySem PySem.Spec PyProof.Rows L2
/-- the leaves that are drawn -/
def leavesC : List PyData := [.int 0, .int 1, .int (-1), .int 7, .int (10 ^ 39), .int (-(10 ^ 39)), .str "", .str "a", .str "b", .str "abcdefgh", .str "box"] ++ (List.range 100).map fun i => .int ((i : Int) - 50)
theorem leavesC_leaf : leavesC.all isLeaf = true := by decide +kernel
def sp_law_leaf (K : PySem.W.Frag) (c : Ads) : Sp := fun vs H Q _ => ∃ (b : Addr), vs = [.ref b] ∧ Bag H b ∧
  ∀ v d H', Fr [b] H H' → Bag H' b → (∀ G, Dt G v d) → d ∈ leavesC → Q v H'
def bx (d : PyData) : PyData := .tuple [.str "box", d]
/-- rows of up to m drawn items -/
def RowsC (n m : Int) (ds : List PyData) : Prop := ∀ d ∈ ds, ∃ r, d = .list r ∧ (r.length : Int) ≤ m ∧ ∀ x ∈ r, x ∈ leavesC ∨ ∃ k : Int, 0 ≤ k ∧ k < n ∧ x = bx (.int k)
def sp_law_contents (K : PySem.W.Frag) (c : Ads) : Sp := fun vs H Q _ => ∃ (b : Addr) (n m : Int) (M : List Addr), vs = [.ref b, .int n, .int m] ∧ Bag H b ∧ b ∈ M ∧ (∀ x ∈ M, ∃ o, H x = some o) ∧ 0 < n ∧ n < 100 ∧ 0 ≤ m ∧ m < 100 ∧
  ∀ l xs ds H', Fr [b] H H' → Bag H' b → hid M H' l = some (.lst xs) → DtA (hid M H') xs ds → (ds.length : Int) = n → RowsC n m ds → Q (.ref l) H'
end RB
/-! QC: readings of what the laws draw, variant C (printed by gen.py). -/
namespace RB
open PySem PySem.Spec PyProof.Rows L2
/-- _law_bag; slots: _law_script, _law_at_here, _law_primes, _law_cell, _law_large, _law_mixed -/
def t_law_bag (K : PySem.W.Frag) (c : Ads) (E : XK) : TS :=
  (tSeq (tAsg (tTup (tCons (tC (.int 2147483647)) (tCons (tC (.int 2147483629)) (tCons (tC (.int 2147483587)) (tCons (tC (.int 2147483579)) (tCons (tC (.int 2147483563)) (tCons (tC (.int 2147483549)) (tCons (tC (.int 2147483543)) tNil)))))))) (gName 2))
  (tSeq (tAsg (tIf (tTest (tOp rLt (tVar 1) (tCB (rLenU K) (tCons (tVar 0) tNil)))) (tOp (rIx K) (tVar 0) (tVar 1)) (tC (.int 0))) (gName 3))
  (tSeq (tAsg (tIf (tTest (tOp rGe (tCB rAbs (tCons (tVar 3) tNil)) (tOp rPowU (tC (.int 10)) (tC (.int 18))))) (tCB rAbs (tCons (tVar 3) tNil)) (tC (.int 0))) (gName 4))
  (tSeq (tAsg (tOp rModU (tOp rPowU (tOp (rAddU K) (tOp (rAddU K) (tOp rModU (tVar 3) (tC (.int 2305843009213693951))) (tOp (rMulU K) (tC (.int 40961)) (tVar 1))) (tC (.int 19))) (tC (.int 3))) (tOp (rIx K) (tVar 2) (tOp rModU (tVar 1) (tC (.int 7))))) (gName 5))
  (tRet (tLst (tCons (tVar 4) (tCons (tOp (rAddU K) (tOp rModU (tOp (rMulU K) (tVar 5) (tOp (rAddU K) (tOp (rAddU K) (tOp rDivU (tVar 5) (tC (.int 5))) (tOp (rMulU K) (tC (.int 3)) (tVar 1))) (tC (.int 11)))) (tOp (rIx K) (tVar 2) (tOp rModU (tOp (rAddU K) (tVar 1) (tC (.int 2))) (tC (.int 7))))) (tC (.int 1))) tNil))))))))
/-- _law_take; slots: _law_bag_here, _law_size, _law_digit -/
def t_law_take (K : PySem.W.Frag) (c : Ads) (E : XK) : TS :=
  (tSeq (tIfS (tTest (tOp rGt (tOp (rIx K) (tVar 0) (tC (.int 0))) (tC (.int 0)))) (tSeq (tAsg (tOp rModU (tOp (rIx K) (tVar 0) (tC (.int 0))) (tVar 1)) (gName 2))
  (tSeq (tAsg (tOp rDivU (tOp (rIx K) (tVar 0) (tC (.int 0))) (tVar 1)) (gSub (tVar 0) (tC (.int 0)) rSetL))
  (tRet (tVar 2)))) tNext)
  (tSeq (tAsg (tOp rModU (tOp (rMulU K) (tOp (rIx K) (tVar 0) (tC (.int 1))) (tC (.int 48271))) (tC (.int 2147483647))) (gSub (tVar 0) (tC (.int 1)) rSetL))
  (tRet (tOp rModU (tOp rDivU (tOp rModU (tOp (rMulU K) (tOp (rIx K) (tVar 0) (tC (.int 1))) (tC (.int 69621))) (tC (.int 2147483629))) (tOp rPowU (tC (.int 16)) (tC (.int 2)))) (tVar 1)))))
/-- _law_leaf; slots: _law_bag_here, _law_some -/
def t_law_leaf (K : PySem.W.Frag) (c : Ads) (E : XK) : TS :=
  (tSeq (tAsg (tLst (tCons (tC (.int 0)) (tCons (tC (.int 1)) (tCons (tUn rNegU (tC (.int 1))) (tCons (tC (.int 7)) (tCons (tOp rSubU (tCl (sp_law_take K c) E0 (tCons (tVar 0) (tCons (tC (.int 100)) tNil))) (tC (.int 50))) (tCons (tOp rPowU (tC (.int 10)) (tC (.int 39))) (tCons (tUn rNegU (tOp rPowU (tC (.int 10)) (tC (.int 39)))) (tCons (tC (.str "")) (tCons (tC (.str "a")) (tCons (tC (.str "b")) (tCons (tC (.str "abcdefgh")) (tCons (tC (.str "box")) tNil))))))))))))) (gName 1))
  (tRet (tOp (rIx K) (tVar 1) (tCl (sp_law_take K c) E0 (tCons (tVar 0) (tCons (tC (.int 12)) tNil))))))
/-- _law_contents; slots: _law_bag_here, _law_size, _law_most, _law_found, _law_turn, _law_items, _law_place -/
def t_law_contents (K : PySem.W.Frag) (c : Ads) (E : XK) : TS :=
  (tSeq (tAsg (tLst tNil) (gName 3))
  (tSeq (tFor (iRng1 (tCons (tVar 1) tNil)) (gName 4) (tSeq (tAsg (tLst tNil) (gName 5))
  (tSeq (tFor (iRng1 (tCons (tCl (sp_law_take K c) E0 (tCons (tVar 0) (tCons (tOp (rAddU K) (tVar 2) (tC (.int 1))) tNil))) tNil)) (gName 6) (tDrop (tBM K "list" rAppend (tVar 5) (tCons (tIf (tTest (tOp (rEqU K) (tCl (sp_law_take K c) E0 (tCons (tVar 0) (tCons (tC (.int 2)) tNil))) (tC (.int 0)))) (tTup (tCons (tC (.str "box")) (tCons (tCl (sp_law_take K c) E0 (tCons (tVar 0) (tCons (tVar 1) tNil))) tNil))) (tCl (sp_law_leaf K c) E0 (tCons (tVar 0) tNil))) tNil))))
  (tDrop (tBM K "list" rAppend (tVar 3) (tCons (tVar 5) tNil))))))
  (tRet (tVar 3))))
end RB
/-! SC: what the laws draw, variant C. -/
namespace RB
open PySem PySem.Spec PyProof.Rows L2
local macro_rules | `(tactic| walk_at "st1") => `(tactic| with_reducible first
  | refine g_seq ?_ | (refine g_asgN ?_; try dsimp only [List.set]) | refine g_c ?_ | (refine' g_var ?hv ?_; case hv => with_unfolding_all exact rfl)
  | refine g_cons ?_ | refine g_nil ?_ | refine g_op ?_ | refine g_cb ?_ | refine g_cl ?_ | refine g_test ?_ | refine g_tb ?_ | refine g_ifS ?_
  | refine g_rtA ?_ | refine g_nxA ?_ | refine g_next ?_ | refine g_ret ?_ | refine g_retN ?_ | refine g_drop ?_ | refine g_if ?_ | refine g_and ?_ | refine g_or ?_ | refine g_not ?_ | refine g_yes ?_
  | refine g_andV ?_ | refine g_orV ?_ | refine g_notV ?_ | refine g_chain ?_ | refine g_un ?_ | refine g_fld ?_ | refine g_bm ?_ | refine g_mt ?_ | refine g_sl ?_ | refine g_part ?_ | refine g_noPart ?_
  | (refine g_par ?_; try dsimp only [List.set]) | (refine g_par3 ?_; try dsimp only [List.set]) | refine g_asgS ?_ | refine g_asgT ?_ | refine g_lst ?_ | refine g_tup ?_ | refine g_dnewK ?_ | refine g_sfld ?_ | refine g_brk ?_ | refine g_cont ?_
  | refine g_try ?_ | refine g_raiseX ?_ | refine g_cval ?_ | refine g_cmeth ?_ | refine g_cmethS ?_ | refine g_clsStar ?_ | refine g_callS ?_ | refine g_mtS ?_ | refine g_callK ?_ | refine g_callK0 ?_ | refine g_xf ?_ | refine g_for ?_ | refine g_prop ?_
  | refine g_any ?_ | refine g_rng1 ?_ | refine g_rng2 ?_ | refine g_lc ?_ | refine g_lc2 ?_ | (refine g_gName ?_; try dsimp only [List.set]) | refine g_gsub ?_ | refine g_gcons ?_ | refine g_gnil ?_
  | refine ex_bl ?_ | refine ex_int ?_ | refine ite_T ?_ | refine ite_F ?_ | refine ite_nT ?_ | refine ite_nF ?_
  | refine v_addI ?_ | refine v_sub ?_ | refine v_neg ?_ | refine v_lt ?_ | refine v_le ?_ | refine v_gt ?_ | refine v_ge ?_ | refine v_isN ?_ | refine v_notN ?_ | refine v_intI ?_ | refine v_intB ?_ | refine v_max ?_ | refine v_min ?_ | refine v_abs ?_ | refine v_inSign ?_)
local macro_rules | `(tactic| walk_at "st") => `(tactic| repeat walk_at "st1")
local macro_rules | `(tactic| walk_at "known") => `(tactic| first | ((with_reducible refine' ite_cT ?hk ?_); (case hk => rfl)) | ((with_reducible refine' ite_cF ?hk ?_); (case hk => rfl)))
local macro_rules | `(tactic| walk_at "stk") => `(tactic| repeat (first | walk_at "st1" | walk_at "known"))
local macro_rules | `(tactic| walk_at "sj1") => `(tactic| with_reducible first
  | refine g_seq ?_ | (refine g_asgN ?_; try dsimp only [List.set]) | refine g_c ?_ | (refine' g_var ?hv ?_; case hv => with_unfolding_all exact rfl)
  | refine g_cons ?_ | refine g_nil ?_ | refine g_op ?_ | refine g_cb ?_ | refine g_cl ?_ | refine g_test ?_ | refine g_tb ?_ 
  | refine g_rtA ?_ | refine g_nxA ?_ | refine g_next ?_ | refine g_ret ?_ | refine g_retN ?_ | refine g_drop ?_  | refine g_and ?_ | refine g_or ?_ | refine g_not ?_ | refine g_yes ?_
  | refine g_andV ?_ | refine g_orV ?_ | refine g_notV ?_ | refine g_chain ?_ | refine g_un ?_ | refine g_fld ?_ | refine g_bm ?_ | refine g_mt ?_ | refine g_sl ?_ | refine g_part ?_ | refine g_noPart ?_
  | (refine g_par ?_; try dsimp only [List.set]) | (refine g_par3 ?_; try dsimp only [List.set]) | refine g_asgS ?_ | refine g_asgT ?_ | refine g_lst ?_ | refine g_tup ?_ | refine g_dnewK ?_ | refine g_sfld ?_ | refine g_brk ?_ | refine g_cont ?_
  | refine g_try ?_ | refine g_raiseX ?_ | refine g_cval ?_ | refine g_cmeth ?_ | refine g_cmethS ?_ | refine g_clsStar ?_ | refine g_callS ?_ | refine g_mtS ?_ | refine g_callK ?_ | refine g_callK0 ?_ | refine g_xf ?_ | refine g_for ?_ | refine g_prop ?_
  | refine g_any ?_ | refine g_rng1 ?_ | refine g_rng2 ?_ | (refine g_gName ?_; try dsimp only [List.set]) | refine g_gsub ?_ | refine g_gcons ?_ | refine g_gnil ?_
  | refine ex_bl ?_ | refine ex_int ?_ | refine ite_T ?_ | refine ite_F ?_ | refine ite_nT ?_ | refine ite_nF ?_
  | refine v_addI ?_ | refine v_sub ?_ | refine v_neg ?_ | refine v_lt ?_ | refine v_le ?_ | refine v_gt ?_ | refine v_ge ?_ | refine v_isN ?_ | refine v_notN ?_ | refine v_intI ?_ | refine v_intB ?_ | refine v_max ?_ | refine v_min ?_ | refine v_abs ?_ | refine v_inSign ?_)
local macro_rules | `(tactic| walk_at "sj") => `(tactic| repeat walk_at "sj1")
local macro_rules | `(tactic| walk_at "len") => `(tactic| first | decide | exact Nat.le_of_lt (small1000 (by simp)) | exact small1000 (by simp))
local macro_rules | `(tactic| walk_at "start") => `(tactic| dsimp only [L2.start, List.map, List.length, List.append, HAppend.hAppend, Append.append, List.replicate, Nat.reduceAdd, Nat.reduceSub])
section
variable {K : PySem.W.Frag} {c : Ads}
theorem prime_at (k : Int) : ∃ p : Int, atI [V.int 2147483647, .int 2147483629, .int 2147483587, .int 2147483579, .int 2147483563, .int 2147483549, .int 2147483543] (k % 7) = some (.int p) ∧ 2147483543 ≤ p ∧ p ≤ 2147483647 := by
  have h : k % 7 = 0 ∨ k % 7 = 1 ∨ k % 7 = 2 ∨ k % 7 = 3 ∨ k % 7 = 4 ∨ k % 7 = 5 ∨ k % 7 = 6 := by omega
  rcases h with h | h | h | h | h | h | h <;> rw [h] <;> exact ⟨_, rfl, by decide, by decide⟩
theorem ints_at {ns : List Int} {k : Int} (h0 : 0 ≤ k) (h : k < (ns.map V.int).length) : ∃ z : Int, atI (ns.map V.int) k = some (.int z) := by
  rw [List.length_map] at h
  have hk : k.toNat < ns.length := by omega
  exact ⟨ns[k.toNat], at_int h0 (by rw [List.getElem?_map, List.getElem?_eq_getElem hk]; rfl)⟩
-- PURE law_bag
theorem pure_law_bag (vs : List V) (H : Hp) (Q : VK) (E : XK) (h : sp_law_bag K c vs H Q E) : t_law_bag K c E { nx := fun _ H' => Q .non H', rt := Q } (start ["_law_script", "_law_at", "_law_primes", "_law_cell", "_law_large", "_law_mixed"] vs) H := by
  obtain ⟨a, ns, k, rfl, hS, hl, h0, hk, q⟩ := h
  walk_at "start"
  unfold t_law_bag
  walk_at "sj"
  refine ⟨by decide, new_ fun p G hp _ s1 hpr => ?_⟩
  have hS1 := s1.seq hS
  obtain ⟨p1, e1, b1, b2⟩ := prime_at k
  obtain ⟨p2, e2, b3, b4⟩ := prime_at (k + 2)
  walk_at "sj"
  refine cut_ex (fun v H' => G = H' ∧ ∃ z : Int, v = .int z) (fun Q' q' => ?_) ?_
  · walk_at "st"
    refine v_lenL hS1 ?_
    walk_at "st"
    refine ite_d (fun h1 => ?_) fun h1 => ?_
    · walk_at "st"
      obtain ⟨z, hz⟩ := ints_at h0 h1
      exact v_ixL hS1 hz (q' _ _ ⟨rfl, _, rfl⟩)
    · walk_at "st"
      exact q' _ _ ⟨rfl, _, rfl⟩
  rintro v H1 ⟨rfl, cell, rfl⟩
  walk_at "sj"
  refine cut_ex (fun v H' => G = H' ∧ ∃ z : Int, v = .int z ∧ 0 ≤ z) (fun Q' q' => ?_) ?_
  · walk_at "st"
    refine v_pow ⟨by decide, by decide, by decide⟩ ?_
    walk_at "st"
    refine ite_d (fun h1 => ?_) fun h1 => ?_
    · walk_at "st"
      exact q' _ _ ⟨rfl, _, rfl, by split <;> omega⟩
    · walk_at "st"
      exact q' _ _ ⟨rfl, _, rfl, by decide⟩
  rintro v H1 ⟨rfl, large, rfl, hlarge⟩
  walk_at "st"
  refine v_mod (by decide) ?_
  walk_at "st"
  refine v_mulI (.inl ⟨by decide, by decide⟩) ?_
  walk_at "st"
  refine v_pow ⟨by decide, by decide, ?_⟩ ?_
  · have := Int.emod_nonneg cell (show (2305843009213693951 : Int) ≠ 0 by decide)
    have := Int.emod_lt_of_pos cell (show (0 : Int) < 2305843009213693951 by decide)
    omega
  walk_at "st"
  refine v_mod (by decide) ?_
  refine v_ixT (SqT.of hpr) e1 ?_
  refine v_mod (by omega) ?_
  generalize hm : (cell % 2305843009213693951 + 40961 * k + 19) ^ (3 : Int).toNat % p1 = m
  have m0 : 0 ≤ m := by rw [← hm]; exact Int.emod_nonneg _ (by omega)
  have m1 : m < p1 := by rw [← hm]; exact Int.emod_lt_of_pos _ (by omega)
  walk_at "st"
  refine v_div ⟨by decide, by decide⟩ ?_
  walk_at "st"
  refine v_mulI (.inl ⟨by decide, by decide⟩) ?_
  walk_at "st"
  refine v_mulI (.inl ⟨by omega, by omega⟩) ?_
  walk_at "st"
  refine v_mod (by decide) ?_
  refine v_ixT (SqT.of hpr) e2 ?_
  refine v_mod (by omega) ?_
  generalize hs : m * (m / 5 + 3 * k + 11) % p2 = s
  have s0 : 0 ≤ s := by rw [← hs]; exact Int.emod_nonneg _ (by omega)
  have s2 : s < p2 := by rw [← hs]; exact Int.emod_lt_of_pos _ (by omega)
  walk_at "st"
  refine ⟨by walk_at "len", new_ fun b G2 hb _ s2 hbl => ?_⟩
  walk_at "st"
  exact q _ b (s1.trans s2) (sm_none s1 hb) ⟨_, _, hbl, hlarge, by omega, by omega⟩
-- PURE law_take
theorem pure_law_take (vs : List V) (H : Hp) (Q : VK) (E : XK) (h : sp_law_take K c vs H Q E) : t_law_take K c E { nx := fun _ H' => Q .non H', rt := Q } (start ["_law_bag_here", "_law_many", "_law_digit"] vs) H := by
  obtain ⟨b, n, rfl, ⟨l, s, hb, hl, h0, h1⟩, n0, n1, q⟩ := h
  walk_at "start"
  unfold t_law_take
  walk_at "st"
  refine v_ixL (SqL.of hb) (i := 0) rfl ?_
  walk_at "st"
  refine ite_d (fun g => ?_) fun g => ?_
  · walk_at "st"
    refine v_ixL (SqL.of hb) (i := 0) rfl ?_
    walk_at "st"
    refine v_mod n0 ?_
    walk_at "st"
    refine v_ixL (SqL.of hb) (i := 0) rfl ?_
    walk_at "st"
    refine v_div ⟨n0, by omega⟩ ?_
    walk_at "st"
    refine v_setL hb (k := 0) rfl ?_
    walk_at "st"
    exact q _ _ (Int.emod_nonneg _ (by omega)) (Int.emod_lt_of_pos _ n0) (Fr.set (by simp)) ⟨l / n, s, upd_same, Int.ediv_nonneg hl (by omega), h0, h1⟩
  · walk_at "st"
    refine v_ixL (SqL.of hb) (i := 1) rfl ?_
    walk_at "st"
    refine v_mulI (.inl ⟨by omega, by omega⟩) ?_
    walk_at "st"
    refine v_mod (by decide) ?_
    walk_at "st"
    refine v_setL hb (k := 1) rfl ?_
    generalize hs : s * 48271 % 2147483647 = z
    have z0 : 0 ≤ z := by rw [← hs]; exact Int.emod_nonneg _ (by decide)
    have z1 : z < 2147483647 := by rw [← hs]; exact Int.emod_lt_of_pos _ (by decide)
    walk_at "st"
    refine v_ixL (SqL.of upd_same) (i := 1) rfl ?_
    walk_at "st"
    refine v_mulI (.inl ⟨by omega, by omega⟩) ?_
    walk_at "st"
    refine v_mod (by decide) ?_
    walk_at "st"
    refine v_pow ⟨by decide, by decide, by decide⟩ ?_
    refine v_div ⟨by decide, by decide⟩ ?_
    walk_at "st"
    refine v_mod n0 ?_
    exact q _ _ (Int.emod_nonneg _ (by omega)) (Int.emod_lt_of_pos _ n0) (Fr.set (by simp)) ⟨l, z, upd_same, hl, z0, by omega⟩
-- PURE law_leaf
theorem pure_law_leaf (vs : List V) (H : Hp) (Q : VK) (E : XK) (h : sp_law_leaf K c vs H Q E) : t_law_leaf K c E { nx := fun _ H' => Q .non H', rt := Q } (start ["_law_bag_here", "_law_some"] vs) H := by
  obtain ⟨b, rfl, hb, q⟩ := h
  walk_at "start"
  unfold t_law_leaf
  walk_at "st"
  refine ⟨b, 100, rfl, hb, by decide, by decide, fun j H1 j0 j1 f1 b1 => ?_⟩
  walk_at "st"
  refine v_pow ⟨by decide, by decide, by decide⟩ ?_
  walk_at "st"
  refine v_pow ⟨by decide, by decide, by decide⟩ ?_
  walk_at "st"
  refine ⟨by walk_at "len", new_ fun p G hp eG s1 hpl => ?_⟩
  walk_at "st"
  have hpb : p ≠ b := b1.ne hp
  refine ⟨b, 12, rfl, b1.s s1, by decide, by decide, fun z H3 z0 z1 f hb3 => ?_⟩
  have hp3 := f.at hpl (by simp [hpb])
  have ff : Fr [b] H H3 := (f1.trans (Fr.of s1)).trans f
  have hz : z = 0 ∨ z = 1 ∨ z = 2 ∨ z = 3 ∨ z = 4 ∨ z = 5 ∨ z = 6 ∨ z = 7 ∨ z = 8 ∨ z = 9 ∨ z = 10 ∨ z = 11 := by omega
  have gi : ∀ i : Int, PyData.int i ∈ leavesC → Q (.int i) H3 := fun i h => q _ _ _ ff hb3 (fun _ => .int i) h
  have gs : ∀ z : Str, z.length ≤ sizeLine → PyData.str z ∈ leavesC → Q (.str z) H3 := fun z h1 h2 => q _ _ _ ff hb3 (fun _ => .str z h1) h2
  have hj : PyData.int (j - 50) ∈ leavesC := by
    refine List.mem_append_right _ (List.mem_map.mpr ⟨j.toNat, List.mem_range.mpr (by omega), ?_⟩)
    rw [Int.toNat_of_nonneg j0]
  have e39 : (10 : Int) ^ (39 : Int).toNat = 10 ^ 39 := rfl
  rcases hz with rfl | rfl | rfl | rfl | rfl | rfl | rfl | rfl | rfl | rfl | rfl | rfl <;> refine v_ixL (SqL.of hp3) rfl ?_ <;> first | exact gi _ hj | exact gs _ (by decide +kernel) (by simp [leavesC]) | (rw [e39]; exact gi _ (by simp [leavesC])) | exact gi _ (by simp [leavesC])
-- PURE law_contents
theorem pure_law_contents (vs : List V) (H : Hp) (Q : VK) (E : XK) (h : sp_law_contents K c vs H Q E) : t_law_contents K c E { nx := fun _ H' => Q .non H', rt := Q } (start ["_law_bag_here", "_law_size", "_law_most", "_law_found", "_law_turn", "_law_items", "_law_place"] vs) H := by
  obtain ⟨b, tot, m, M, rfl, hb, hbM, hM, t0, t1, m0, m1, q⟩ := h
  walk_at "start"
  unfold t_law_contents
  walk_at "st"
  refine ⟨by walk_at "len", new_ fun F G hF eG sG hFl => ?_⟩
  walk_at "st"
  refine ⟨_, rfl, by omega, by omega, ?_⟩
  have f1 : Fr [b] H H := Fr.refl
  have hb1 := hb
  have hbF : b ≠ F := (hb.ne hF).symm
  have hFH : H F = none := hF
  have hbG : Bag G b := hb.s sG
  have hMx : ∀ {H'}, Fr [b] H H' → Bag H' b → ∀ x ∈ M, ∃ o, H' x = some o := fun {H'} f hb' x hx => by
    by_cases e : x = b
    · obtain ⟨l, s, e', _⟩ := hb'
      exact ⟨_, by rw [e]; exact e'⟩
    · obtain ⟨o, ho⟩ := hM x hx
      exact ⟨o, f.at ho (by simp [e])⟩
  have hFM : F ∉ M := fun m => by
    obtain ⟨o, ho⟩ := hMx f1 hb1 F m
    rw [ho] at hF
    cases hF
  have wd : ∀ {N : List Addr}, (∀ x ∈ M, x ∈ N) → ∀ x ∈ [b], x ∈ N := fun h x hx => by rw [List.mem_singleton.mp hx]; exact h b hbM
  refine for_it walk_range (fun i σ H' => ∃ x4 x5 x6 xs ds, σ = [some (.ref b), some (.int tot), some (.int m), some (.ref F), x4, x5, x6] ∧ Fr [b] H H' ∧ Bag H' b ∧ H' F = some (.lst xs) ∧ DtA (hid (F :: M) H') xs ds ∧ ds.length = i ∧ RowsC tot m ds)
    ⟨_, _, _, [], [], rfl, f1.trans (Fr.of sG), hbG, hFl, .nil, rfl, fun _ h => nomatch h⟩ (fun _ _ _ _ _ => trivial) ?_ ?_
  · rintro i x σ _ H2 hi ⟨x4, x5, x6, xs, ds, rfl, f2, hb2, hF2, hd, hlen, hgood⟩ ⟨rfl, rfl⟩
    walk_at "st"
    refine ⟨by walk_at "len", new_ fun R G2 hR eG2 sG2 hRl => ?_⟩
    have hbR : b ≠ R := by
      obtain ⟨l, s, hbl, _⟩ := hb2
      exact ne_of_none hbl hR
    have hFR : F ≠ R := ne_of_none hF2 hR
    have hRM : R ∉ M := fun m => by
      obtain ⟨o, ho⟩ := hMx f2 hb2 R m
      rw [ho] at hR
      cases hR
    have hRH : H R = none := fr_none f2 (by simp [hbR.symm]) hR
    have hb2' : Bag G2 b := by
      obtain ⟨l, s, hbl, hl⟩ := hb2
      exact ⟨l, s, sG2 _ _ hbl, hl⟩
    walk_at "st"
    refine ⟨b, m + 1, rfl, hb2', by omega, by omega, fun z4 H3 z40 z41 f3 hb3 => ?_⟩
    walk_at "st"
    refine ⟨_, rfl, by omega, by omega, ?_⟩
    have hd2 : DtA (hid (R :: F :: M) G2) xs ds := hd.s (by rw [eG2]; exact hid_new hR)
    refine for_it walk_range (fun j σ H' => ∃ x4 x6 ys es, σ = [some (.ref b), some (.int tot), some (.int m), some (.ref F), x4, some (.ref R), x6] ∧ Fr [b] H H' ∧ Bag H' b ∧ H' F = some (.lst xs) ∧ DtA (hid (R :: F :: M) H') xs ds ∧
        H' R = some (.lst ys) ∧ DtA (hid (R :: F :: M) H') ys es ∧ es.length = j ∧ ∀ e ∈ es, e ∈ leavesC ∨ ∃ k : Int, 0 ≤ k ∧ k < tot ∧ e = bx (.int k))
      ⟨_, _, [], [], rfl, (f2.trans (Fr.of sG2)).trans f3, hb3, f3.at (sG2 _ _ hF2) (by simp [hbF.symm]), hd2.s (f3.wide (wd fun x h => by simp [h])), f3.at hRl (by simp [hbR.symm]), .nil, rfl, fun _ h => nomatch h⟩ (fun _ _ _ _ _ => trivial) ?_ ?_
    · rintro j x σ _ H4 hj ⟨x4, x6, ys, es, rfl, f4, hb4, hF4, hd4, hR4, hd4r, hlen4, hit4⟩ ⟨rfl, rfl⟩
      walk_at "sj"
      refine ⟨v_tyL (SqL.of hR4), ?_⟩
      walk_at "sj"
      refine cut_ex (fun v H' => ∃ e, Fr [b] H4 H' ∧ Bag H' b ∧ Dt (hid (R :: F :: M) H') v e ∧ (e ∈ leavesC ∨ ∃ k : Int, 0 ≤ k ∧ k < tot ∧ e = bx (.int k))) (fun Q' q' => ?_) ?_
      · walk_at "st"
        refine ⟨b, 2, rfl, hb4, by decide, by decide, fun z3 H5 z30 z31 f5 hb5 => ?_⟩
        walk_at "st"
        refine v_eqS rfl ?_
        walk_at "st"
        refine ite_d (fun g => ?_) fun g => ?_
        · walk_at "st"
          refine ⟨b, tot, rfl, hb5, by omega, by omega, fun zt H6 zt0 zt1 f6 hb6 => ?_⟩
          walk_at "st"
          refine ⟨by walk_at "len", new_ fun T G6 hT eG6 sG6 hTl => ?_⟩
          have f56 := f5.trans f6
          have hTM : T ∉ M := fun m => by
            obtain ⟨o, ho⟩ := hMx (f4.trans f56) hb6 T m
            rw [ho] at hT
            cases hT
          have hTR : T ≠ R := (ne_of_none (f56.at hR4 (by simp [hbR.symm])) hT).symm
          have hTF : T ≠ F := (ne_of_none (f56.at hF4 (by simp [hbF.symm])) hT).symm
          obtain ⟨l6, s6, hbl6, hl6⟩ := hb6
          have hTb : T ≠ b := (ne_of_none hbl6 hT).symm
          refine q' _ _ ⟨.tuple [.str "box", .int zt], f56.trans (Fr.of sG6), ⟨l6, s6, sG6 _ _ hbl6, hl6⟩, .tup (hid_of hTl (by simp [hTR, hTF, hTM])) (.cons (.str _ (by decide +kernel)) (.cons (.int _) .nil)), ?_⟩
          exact .inr ⟨zt, zt0, zt1, rfl⟩
        · walk_at "st"
          refine ⟨b, rfl, hb5, fun v e H6 f6 hb6 hv hl => ?_⟩
          exact q' _ _ ⟨e, f5.trans f6, hb6, hv _, .inl hl⟩
      · rintro v H5 ⟨e, f5, hb5, hv, hit⟩
        walk_at "st"
        have hR5 := f5.at hR4 (by simp [hbR.symm])
        have hF5 := f5.at hF4 (by simp [hbF.symm])
        have hys := hd4r.len
        refine v_app hR5 (small1000 (by omega)) ?_
        walk_at "st"
        have f6 : Fr (R :: F :: M) H4 (upd H5 R (.lst (ys ++ [v]))) := (f5.wide (wd fun x h => by simp [h])).trans (Fr.set (by simp))
        obtain ⟨l5, s5, hbl5, hl5⟩ := hb5
        refine ⟨_, _, ys ++ [v], es ++ [e], rfl, fr_upd (f4.trans f5) hRH, ⟨l5, s5, (upd_ne hbR).trans hbl5, hl5⟩, (upd_ne hFR).trans hF5, hd4.s f6, upd_same, (hd4r.s f6).app (.one (hv.s (Fr.set (by simp)))), by rw [List.length_append, hlen4]; rfl, fun x hx => ?_⟩
        rcases List.mem_append.mp hx with w | w
        · exact hit4 x w
        · rw [List.mem_singleton.mp w]
          exact hit
    · rintro σ H4 ⟨x4, x6, ys, es, rfl, f4, hb4, hF4, hd4, hR4, hd4r, hlen4, hit4⟩
      walk_at "st"
      refine ⟨v_tyL (SqL.of hF4), ?_⟩
      walk_at "st"
      have hxs := hd4.len
      refine v_app hF4 (small1000 (by omega)) ?_
      walk_at "st"
      have f5 : Fr (F :: M) H4 (upd H4 F (.lst (xs ++ [.ref R]))) := Fr.set (by simp)
      obtain ⟨l4, s4, hbl4, hl4⟩ := hb4
      refine ⟨_, _, _, xs ++ [.ref R], ds ++ [.list es], rfl, fr_upd f4 hFH, ⟨l4, s4, (upd_ne hbF).trans hbl4, hl4⟩, upd_same, ((hd4.s hid_tail).s f5).app (.one (.lst (hid_of ((upd_ne hFR.symm).trans hR4) (by simp [hFR.symm, hRM])) ((hd4r.s hid_tail).s f5))), by rw [List.length_append, hlen]; rfl, fun x hx => ?_⟩
      rcases List.mem_append.mp hx with w | w
      · exact hgood x w
      · rw [List.mem_singleton.mp w]
        exact ⟨es, rfl, by omega, hit4⟩
  · rintro σ H2 ⟨x4, x5, x6, xs, ds, rfl, f2, hb2, hF2, hd, hlen, hgood⟩
    walk_at "st"
    exact q F xs ds H2 f2 hb2 (hid_of hF2 hFM) (hd.s hid_tail) (by omega) hgood
end
end RB
/-! P51: the promises of law k51's own defs. -/
namespace RB
open PySem PySem.Spec PyProof.Rows L2
/-- contents: lists of items -/
def Rows (cs : List (List PyData)) : Prop := ∀ r ∈ cs, ∀ d ∈ r, isItem cs.length d = true
def sp_law_at (K : PySem.W.Frag) (c : Ads) : Sp := fun vs H Q _ => ∃ (l p : Addr) (s : Int) (xs : List V) (cs : List (List PyData)) (ps : List Int), vs = [.ref l, .int s, .ref p] ∧ H l = some (.lst xs) ∧ DtA H xs (cs.map PyData.list) ∧ Rows cs ∧ 0 ≤ s ∧ s < cs.length ∧
  H p = some (.tup (ps.map V.int)) ∧ (∀ i ∈ ps, (0 : Int) ≤ i) ∧ ∀ w H', Same H H' → Dt H' w (walkAt cs (bx (.int s)) ps) → Q w H'
def sp_law_path (K : PySem.W.Frag) (c : Ads) : Sp := fun vs H Q _ => ∃ (b l : Addr) (s : Int) (xs : List V) (cs : List (List PyData)), vs = [.ref b, .ref l, .int s] ∧ Bag H b ∧ hid [b] H l = some (.lst xs) ∧ DtA (hid [b] H) xs (cs.map PyData.list) ∧ Rows cs ∧ 0 ≤ s ∧ s < cs.length ∧ (∀ r ∈ cs, r.length ≤ 100) ∧
  ∀ (p : Addr) (ps : List Int) H', Fr [b] H H' → Bag H' b → H' p = some (.tup (ps.map V.int)) → (∀ i ∈ ps, (0 : Int) ≤ i) → ps.length ≤ 5 → Q (.ref p) H'
def sp_law_why (K : PySem.W.Frag) (c : Ads) : Sp := fun vs H Q _ => ∃ a v d L rs cs, vs = [.ref a, v] ∧ HeapAt c H a L rs cs ∧ Dt H v d ∧ within 0 ((cs.length : Int) - 1) d = false ∧
  ∀ p H', Same H H' → H' p = some (.tup [.str "box", v]) → Q (.ref p) H'
structure KWhy (K : PySem.W.Frag) (c : Ads) : Prop where
  e1 : PySem.W.exmOne K (.ref c.NoBox) (.ref c.NoBox) = some true
  i1 : PySem.W.kitOne K (.ref c.NoBox) (.type "LookupError") = some true
  i2 : PySem.W.kitOne K (.ref c.NoBox) (.ref c.RingError) = some false
  bg : PySem.W.findIn K (.ref c.NoBox) "__getattribute__" = some (some (.builtin "BaseException.__getattribute__"))
  bk : PySem.W.findIn K (.ref c.NoBox) "__getattr__" = some none
  bs : PySem.W.subIn K (.ref c.NoBox) (.type "BaseException") = some true
  bd : PySem.W.hasDictIn K c.NoBox = true
  ba : PySem.W.findIn K (.ref c.NoBox) "__class__" = some (some (.builtin "object.__class__"))
  bm : PySem.W.mroIn K c.NoBox (.type "object") = some true
  hn : PySem.W.specialIn K (.builtin "object.__class__") "__get__" = some (some (.builtin "getset_descriptor.__get__"))
  ht : PySem.W.takesIn K (.builtin "object.__class__") = some true
end RB
/-! Q51: readings of law k51 (printed by gen.py). -/
namespace RB
open PySem PySem.Spec PyProof.Rows L2
/-- _law_at; slots: _law_contents_here, _law_start, _law_way, _law_item, _law_place -/
def t_law_at (K : PySem.W.Frag) (c : Ads) (E : XK) : TS :=
  (tSeq (tAsg (tTup (tCons (tC (.str "box")) (tCons (tVar 1) tNil))) (gName 3))
  (tSeq (tFor (iAny K (tVar 2)) (gName 4) (tSeq (tIfS (tOr (tNot (tB (tCB (rIsi K) (tCons (tVar 3) (tCons (tC (.ty "tuple")) tNil))))) (tTest (tOp rGe (tVar 4) (tCB (rLenU K) (tCons (tOp (rIx K) (tVar 0) (tOp (rIx K) (tVar 3) (tC (.int 1)))) tNil))))) (tRet (tC .non)) tNext)
  (tAsg (tOp (rIx K) (tOp (rIx K) (tVar 0) (tOp (rIx K) (tVar 3) (tC (.int 1)))) (tVar 4)) (gName 3))))
  (tRet (tVar 3))))
/-- _law_path; slots: _law_bag_here, _law_contents_here, _law_start, _law_way, _law_item, _law_turn, _law_size, _law_place -/
def t_law_path (K : PySem.W.Frag) (c : Ads) (E : XK) : TS :=
  (tSeq (tPar 3 4 (tCons (tLst tNil) (tCons (tTup (tCons (tC (.str "box")) (tCons (tVar 2) tNil))) tNil)))
  (tSeq (tFor (iRng1 (tCons (tCl (sp_law_take K c) E0 (tCons (tVar 0) (tCons (tC (.int 6)) tNil))) tNil)) (gName 5) (tSeq (tAsg (tIf (tB (tCB (rIsi K) (tCons (tVar 4) (tCons (tC (.ty "tuple")) tNil)))) (tCB (rLenU K) (tCons (tOp (rIx K) (tVar 1) (tOp (rIx K) (tVar 4) (tC (.int 1)))) tNil)) (tC (.int 0))) (gName 6))
  (tSeq (tAsg (tIf (tAnd (tTest (tOp rGt (tVar 6) (tC (.int 0)))) (tTest (tOp rGt (tCl (sp_law_take K c) E0 (tCons (tVar 0) (tCons (tC (.int 8)) tNil))) (tC (.int 0))))) (tCl (sp_law_take K c) E0 (tCons (tVar 0) (tCons (tVar 6) tNil))) (tCl (sp_law_take K c) E0 (tCons (tVar 0) (tCons (tC (.int 3)) tNil)))) (gName 7))
  (tSeq (tDrop (tBM K "list" rAppend (tVar 3) (tCons (tVar 7) tNil)))
  (tAsg (tIf (tTest (tOp rLt (tVar 7) (tVar 6))) (tOp (rIx K) (tOp (rIx K) (tVar 1) (tOp (rIx K) (tVar 4) (tC (.int 1)))) (tVar 7)) (tC (.int 0))) (gName 4))))))
  (tRet (tCB (rTuple1 K) (tCons (tVar 3) tNil)))))
/-- _law_why; slots: _law_book, _law_thing, e -/
def t_law_why (K : PySem.W.Frag) (c : Ads) (E : XK) : TS :=
  (tSeq (tTryN K (fun _ _ _ _ => False) ((.ref c.NoBox, 2, fun a cls d => (tRet (tIf (tAnd (tB (tCB (rIsX K a cls d) (tCons (tVar 2) (tCons (tC (.ty "LookupError")) tNil)))) (tNot (tB (tCB (rIsX K a cls d) (tCons (tVar 2) (tCons (tC (.ref c.RingError)) tNil)))))) (tTup (tCons (tC (.str "box")) (tCons (tXf a cls d c.NoBox "number" (tVar 2)) tNil))) (tC (.str "other"))))) :: []) (fun W => (tDrop (tCallS (sp_item_at K c) (WE W) (tCons (tVar 0) (tCons (tVar 1) (tCons (tTup tNil) tNil)))))))
  (tRet (tC (.str "fine"))))
/-- a loop of it -/
def t_law_f1 (K : PySem.W.Frag) (c : Ads) (E : XK) : TS :=
  (tSeq (tAsg (tCl (sp_law_take K c) E0 (tCons (tVar 2) (tCons (tVar 4) tNil))) (gName 8))
  (tSeq (tAsg (tOp (rMulU K) (tCl (sp_law_path K c) E0 (tCons (tVar 2) (tCons (tVar 5) (tCons (tVar 8) tNil)))) (tOp (rAddU K) (tC (.int 1)) (tOp (rMulU K) (tC (.int 9)) (tCB rInt1 (tCons (tOp (rEqU K) (tCl (sp_law_take K c) E0 (tCons (tVar 2) (tCons (tC (.int 4)) tNil))) (tC (.int 0))) tNil))))) (gName 9))
  (tSeq (tAsg (tCl (sp_law_at K c) E0 (tCons (tVar 5) (tCons (tVar 8) (tCons (tVar 9) tNil)))) (gName 10))
  (tIfS (tTest (tOp (rNeU K) (tCB (rRepr K) (tCons (tLst (tCons (tCl (sp_item_at K c) E0 (tCons (tVar 6) (tCons (tVar 8) (tCons (tVar 9) tNil)))) (tCons (tCallK0 (sp_item_at K c) (pick V.non 0 3 [1, 2, 0]) E0 (tCons (tVar 9) (tCons (tVar 6) (tCons (tVar 8) tNil)))) tNil))) tNil)) (tCB (rRepr K) (tCons (tOp (rMulU K) (tLst (tCons (tVar 10) tNil)) (tC (.int 2))) tNil)))) (tRet (tC (.bl false))) tNext))))
/-- a loop of it -/
def t_law_f2 (K : PySem.W.Frag) (c : Ads) (E : XK) : TS :=
  (tSeq (tAsg (tOp (rAddU K) (tC (.int 1)) (tCl (sp_law_take K c) E0 (tCons (tVar 2) (tCons (tC (.int 6)) tNil)))) (gName 4))
  (tSeq (tAsg (tCl (sp_law_contents K c) E0 (tCons (tVar 2) (tCons (tVar 4) (tCons (tC (.int 3)) tNil)))) (gName 5))
  (tSeq (tAsg (ClX.tCMeth c.Heap (sp_Heap_of K c) E0 (tC (.ref c.Heap)) (tCons (tVar 5) tNil)) (gName 6))
  (tSeq (tFor (iRng1 (tCons (tC (.int 6)) tNil)) (gName 7) (t_law_f1 K c E))
  (tSeq (tAsg (tOp (rIx K) (tLst (tCons (tVar 4) (tCons (tUn rNegU (tC (.int 1))) (tCons (tC .non) (tCons (tC (.bl true)) (tCons (tC (.str "0")) (tCons (tTup (tCons (tC (.int 0)) tNil)) (tCons (tLst (tCons (tC (.int 0)) tNil)) tNil)))))))) (tCl (sp_law_take K c) E0 (tCons (tVar 2) (tCons (tC (.int 7)) tNil)))) (gName 11))
  (tIfS (tOr (tTest (tOp (rNeU K) (tCB (rRepr K) (tCons (tCl (sp_law_why K c) E0 (tCons (tVar 6) (tCons (tVar 11) tNil))) tNil)) (tCB (rRepr K) (tCons (tTup (tCons (tC (.str "box")) (tCons (tVar 11) tNil))) tNil)))) (tTest (tOp (rNeU K) (tCB (rRepr K) (tCons (tCl (sp_item_at K c) E0 (tCons (tVar 6) (tCons (tC (.int 0)) (tCons (tTup tNil) tNil)))) tNil)) (tC (.str "('box', 0)"))))) (tRet (tC (.bl false))) tNext))))))
/-- a loop of it -/
def t_law_f3 (K : PySem.W.Frag) (c : Ads) (E : XK) : TS :=
  (tSeq (tAsg (tCl (sp_law_bag K c) E0 (tCons (tVar 0) (tCons (tVar 1) tNil))) (gName 2))
  (tFor (iRng1 (tCons (tC (.int 4)) tNil)) (gName 3) (t_law_f2 K c E)))
/-- law; slots: _law_script, _law_k, _law_bag_here, _law_turn, _law_size, _law_rows, _law_book, _law_again, _law_spot, _law_way, _law_due, _law_odd -/
def t_law (K : PySem.W.Frag) (c : Ads) (E : XK) : TS :=
  (tSeq (tFor (iRng1 (tCons (tCB rMax2 (tCons (tC (.int 2)) (tCons (tCB rMin2 (tCons (tC (.int 6)) (tCons (tCB (rLenU K) (tCons (tVar 0) tNil)) tNil))) tNil))) tNil)) (gName 1) (t_law_f3 K c E))
  (tRet (tC (.bl true))))
end RB
/-! S51: law k51: paths. -/
namespace RB
open PySem PySem.Spec PyProof.Rows L2
local macro_rules | `(tactic| walk_at "st1") => `(tactic| with_reducible first
  | refine g_seq ?_ | (refine g_asgN ?_; try dsimp only [List.set]) | refine g_c ?_ | (refine' g_var ?hv ?_; case hv => with_unfolding_all exact rfl)
  | refine g_cons ?_ | refine g_nil ?_ | refine g_op ?_ | refine g_cb ?_ | refine g_cl ?_ | refine g_test ?_ | refine g_tb ?_ | refine g_ifS ?_
  | refine g_rtA ?_ | refine g_nxA ?_ | refine g_next ?_ | refine g_ret ?_ | refine g_retN ?_ | refine g_drop ?_ | refine g_if ?_ | refine g_and ?_ | refine g_or ?_ | refine g_not ?_ | refine g_yes ?_
  | refine g_andV ?_ | refine g_orV ?_ | refine g_notV ?_ | refine g_chain ?_ | refine g_un ?_ | refine g_fld ?_ | refine g_bm ?_ | refine g_mt ?_ | refine g_sl ?_ | refine g_part ?_ | refine g_noPart ?_
  | (refine g_par ?_; try dsimp only [List.set]) | (refine g_par3 ?_; try dsimp only [List.set]) | refine g_asgS ?_ | refine g_asgT ?_ | refine g_lst ?_ | refine g_tup ?_ | refine g_dnewK ?_ | refine g_sfld ?_ | refine g_brk ?_ | refine g_cont ?_
  | refine g_try ?_ | refine g_raiseX ?_ | refine g_cval ?_ | refine g_cmeth ?_ | refine g_cmethS ?_ | refine g_clsStar ?_ | refine g_callS ?_ | refine g_mtS ?_ | refine g_callK ?_ | refine g_callK0 ?_ | refine g_xf ?_ | refine g_for ?_ | refine g_prop ?_
  | refine g_any ?_ | refine g_rng1 ?_ | refine g_rng2 ?_ | refine g_lc ?_ | refine g_lc2 ?_ | (refine g_gName ?_; try dsimp only [List.set]) | refine g_gsub ?_ | refine g_gcons ?_ | refine g_gnil ?_
  | refine ex_bl ?_ | refine ex_int ?_ | refine ite_T ?_ | refine ite_F ?_ | refine ite_nT ?_ | refine ite_nF ?_
  | refine v_addI ?_ | refine v_sub ?_ | refine v_neg ?_ | refine v_lt ?_ | refine v_le ?_ | refine v_gt ?_ | refine v_ge ?_ | refine v_isN ?_ | refine v_notN ?_ | refine v_intI ?_ | refine v_intB ?_ | refine v_max ?_ | refine v_min ?_ | refine v_abs ?_ | refine v_inSign ?_)
local macro_rules | `(tactic| walk_at "st") => `(tactic| repeat walk_at "st1")
local macro_rules | `(tactic| walk_at "known") => `(tactic| first | ((with_reducible refine' ite_cT ?hk ?_); (case hk => rfl)) | ((with_reducible refine' ite_cF ?hk ?_); (case hk => rfl)))
local macro_rules | `(tactic| walk_at "stk") => `(tactic| repeat (first | walk_at "st1" | walk_at "known"))
local macro_rules | `(tactic| walk_at "sj1") => `(tactic| with_reducible first
  | refine g_seq ?_ | (refine g_asgN ?_; try dsimp only [List.set]) | refine g_c ?_ | (refine' g_var ?hv ?_; case hv => with_unfolding_all exact rfl)
  | refine g_cons ?_ | refine g_nil ?_ | refine g_op ?_ | refine g_cb ?_ | refine g_cl ?_ | refine g_test ?_ | refine g_tb ?_ 
  | refine g_rtA ?_ | refine g_nxA ?_ | refine g_next ?_ | refine g_ret ?_ | refine g_retN ?_ | refine g_drop ?_  | refine g_and ?_ | refine g_or ?_ | refine g_not ?_ | refine g_yes ?_
  | refine g_andV ?_ | refine g_orV ?_ | refine g_notV ?_ | refine g_chain ?_ | refine g_un ?_ | refine g_fld ?_ | refine g_bm ?_ | refine g_mt ?_ | refine g_sl ?_ | refine g_part ?_ | refine g_noPart ?_
  | (refine g_par ?_; try dsimp only [List.set]) | (refine g_par3 ?_; try dsimp only [List.set]) | refine g_asgS ?_ | refine g_asgT ?_ | refine g_lst ?_ | refine g_tup ?_ | refine g_dnewK ?_ | refine g_sfld ?_ | refine g_brk ?_ | refine g_cont ?_
  | refine g_try ?_ | refine g_raiseX ?_ | refine g_cval ?_ | refine g_cmeth ?_ | refine g_cmethS ?_ | refine g_clsStar ?_ | refine g_callS ?_ | refine g_mtS ?_ | refine g_callK ?_ | refine g_callK0 ?_ | refine g_xf ?_ | refine g_for ?_ | refine g_prop ?_
  | refine g_any ?_ | refine g_rng1 ?_ | refine g_rng2 ?_ | (refine g_gName ?_; try dsimp only [List.set]) | refine g_gsub ?_ | refine g_gcons ?_ | refine g_gnil ?_
  | refine ex_bl ?_ | refine ex_int ?_ | refine ite_T ?_ | refine ite_F ?_ | refine ite_nT ?_ | refine ite_nF ?_
  | refine v_addI ?_ | refine v_sub ?_ | refine v_neg ?_ | refine v_lt ?_ | refine v_le ?_ | refine v_gt ?_ | refine v_ge ?_ | refine v_isN ?_ | refine v_notN ?_ | refine v_intI ?_ | refine v_intB ?_ | refine v_max ?_ | refine v_min ?_ | refine v_abs ?_ | refine v_inSign ?_)
local macro_rules | `(tactic| walk_at "sj") => `(tactic| repeat walk_at "sj1")
local macro_rules | `(tactic| walk_at "len") => `(tactic| first | decide | exact Nat.le_of_lt (small1000 (by simp)) | exact small1000 (by simp))
local macro_rules | `(tactic| walk_at "start") => `(tactic| dsimp only [L2.start, List.map, List.length, List.append, HAppend.hAppend, Append.append, List.replicate, Nat.reduceAdd, Nat.reduceSub])
section
variable {K : PySem.W.Frag} {c : Ads}
theorem row_at {H : Hp} {xs : List V} {cs : List (List PyData)} {k : Nat} {row : List PyData} (h : DtA H xs (cs.map PyData.list)) (hk : cs[k]? = some row) : ∃ p ys, xs[k]? = some (.ref p) ∧ H p = some (.lst ys) ∧ DtA H ys row := by
  obtain ⟨v, hv, hd⟩ := h.at (show (cs.map PyData.list)[k]? = some (.list row) by rw [List.getElem?_map, hk]; rfl)
  cases hd with
  | lst e1 e2 => exact ⟨_, _, hv, e1, e2⟩
-- PURE law_at
theorem pure_law_at (vs : List V) (H : Hp) (Q : VK) (E : XK) (h : sp_law_at K c vs H Q E) : t_law_at K c E { nx := fun _ H' => Q .non H', rt := Q } (start ["_law_contents_here", "_law_start", "_law_way", "_law_item", "_law_place"] vs) H := by
  obtain ⟨l, p, s, xs, cs, ps, rfl, hl, hd, good, s0, s1, hp, pos, k1⟩ := h
  walk_at "start"
  unfold t_law_at
  walk_at "st"
  refine ⟨by walk_at "len", new_ fun t G ht eG sG oG => ?_⟩
  walk_at "st"
  have i0 : isItem cs.length (bx (.int s)) = true := by
    have : within 0 ((cs.length : Int) - 1) (.int s) = true := by simp only [within, Bool.and_eq_true, decide_eq_true_eq]; omega
    simp [isItem, bx, isRef, this]
  refine it_tup (SqT.of (sG _ _ hp)) ?_
  refine for_it walk_tup (fun i σ H' => (∃ x cur, σ = [some (.ref l), some (.int s), some (.ref p), some cur, x] ∧ ∃ e, Dt H' cur e ∧ isItem cs.length e = true ∧ walkAt cs (bx (.int s)) ps = walkAt cs e (ps.drop i)) ∧ Same H H')
    ⟨⟨_, _, rfl, _, .tup oG (.cons (.str _ (by decide +kernel)) (.cons (.int s) .nil)), i0, rfl⟩, sG⟩ (fun i σ H' _ q => SqT.of (q.2 _ _ hp)) ?_ ?_
  · rintro i x σ _ H1 hi ⟨⟨x4, cur, rfl, e, hcur, hit, hwk⟩, sH⟩ ⟨rfl, hx⟩
    rw [List.getElem?_map] at hx
    cases hpi : ps[i]? with
    | none =>
      rw [hpi] at hx
      cases hx
    | some pl =>
    rw [hpi] at hx
    cases hx
    rw [drop_cons hpi] at hwk
    have hpl := pos pl (List.mem_of_getElem? hpi)
    walk_at "st"
    refine v_isTuple hcur ?_
    walk_at "st"
    rcases isItem_cases hit with ⟨j, rfl⟩ | ⟨z, rfl⟩ | ⟨k, rfl, hk0, hk1⟩
    · walk_at "stk"
      exact k1 _ _ sH (by rw [hwk]; exact .non)
    · walk_at "stk"
      exact k1 _ _ sH (by rw [hwk]; exact .non)
    · cases hcur with
      | @tup q0 xs2 _ ht2 hxs =>
      cases hxs with
      | @cons y0 _ _ _ hy0 hr =>
      cases hr with
      | @cons y1 _ _ _ hy1 hn =>
      cases hn
      cases hy1
      walk_at "stk"
      have hk2 : k.toNat < cs.length := by omega
      have hrow := List.getElem?_eq_getElem hk2
      obtain ⟨q1, ys, hq1, hqs, hys⟩ := row_at (hd.s sH) hrow
      have hgd : cs.getD k.toNat [] = cs[k.toNat] := by rw [List.getD_eq_getElem?_getD, hrow]; rfl
      have hyl := hys.len
      refine v_ixT (SqT.of ht2) (i := 1) rfl ?_
      refine v_ixL (SqL.of (sH _ _ hl)) (at_int hk0 hq1) ?_
      walk_at "st"
      refine v_lenL (SqL.of hqs) ?_
      walk_at "st"
      refine ite_d (fun hh => ?_) fun hh => ?_
      · walk_at "st"
        refine k1 _ _ sH ?_
        have : cs[k.toNat][pl.toNat]? = none := List.getElem?_eq_none (by omega)
        rw [hwk]
        show Dt H1 .non (match (cs.getD k.toNat [])[pl.toNat]? with | some e => walkAt cs e (ps.drop (i + 1)) | none => .none)
        rw [hgd, this]
        exact .non
      · walk_at "st"
        have hpl2 : pl.toNat < cs[k.toNat].length := by omega
        obtain ⟨w, hw2, hdw⟩ := hys.at (List.getElem?_eq_getElem hpl2)
        refine v_ixT (SqT.of ht2) (i := 1) rfl ?_
        refine v_ixL (SqL.of (sH _ _ hl)) (at_int hk0 hq1) ?_
        walk_at "st"
        refine v_ixL (SqL.of hqs) (at_int hpl hw2) ?_
        walk_at "st"
        refine ⟨⟨_, w, rfl, _, hdw, good _ (List.getElem_mem hk2) _ (List.getElem_mem hpl2), ?_⟩, sH⟩
        rw [hwk]
        show (match (cs.getD k.toNat [])[pl.toNat]? with | some e => walkAt cs e (ps.drop (i + 1)) | none => .none) = _
        rw [hgd, List.getElem?_eq_getElem hpl2]
  · rintro σ H1 ⟨⟨x4, cur, rfl, e, hcur, hit, hwk⟩, sH⟩
    walk_at "st"
    refine k1 _ _ sH ?_
    rw [hwk, List.length_map, List.drop_length]
    cases e <;> exact hcur
-- PURE law_why KWhy
theorem pure_law_why (kw : KWhy K c) (vs : List V) (H : Hp) (Q : VK) (E : XK) (h : sp_law_why K c vs H Q E) : t_law_why K c E { nx := fun _ H' => Q .non H', rt := Q } (start ["_law_book", "_law_thing", "e"] vs) H := by
  obtain ⟨a, v, d, L, rs, cs, rfl, hp, hd, hw, q⟩ := h
  have xb : ExcC K c.NoBox := ⟨kw.bg, kw.bk, kw.bs, kw.bd, kw.ba, kw.hn, kw.ht, kw.bm⟩
  walk_at "start"
  unfold t_law_why
  walk_at "st"
  refine ⟨by walk_at "len", new_ fun t G ht eG sG oG => ?_⟩
  walk_at "st"
  refine ⟨a, v, d, t, [], L, rs, cs, rfl, hp.s sG, hd.s sG, SqT.of oG, (fun _ h => nomatch h), (fun h => by rw [hw] at h; cases h), fun _ e H1 er => ?_⟩
  refine ⟨true, kw.e1, fun _ x hx => ?_, fun q => nomatch q⟩
  walk_at "st"
  refine ⟨c.NoBox, _, _, true, rfl, rfl, .ty _, xb, .inr ⟨_, _, rfl, er.2⟩, kw.i1, ?_⟩
  walk_at "st"
  refine ⟨c.NoBox, _, _, false, rfl, rfl, .own _, xb, .inr ⟨_, _, rfl, er.2⟩, kw.i2, ?_⟩
  walk_at "st"
  refine ⟨rfl, rfl, e, _, _, rfl, er.2, rfl, ?_⟩
  walk_at "st"
  refine ⟨by walk_at "len", new_ fun u G2 hu eG2 sG2 oG2 => ?_⟩
  exact q u G2 ((sG.trans er.1).trans sG2) oG2
-- PURE law_path
theorem pure_law_path (vs : List V) (H : Hp) (Q : VK) (E : XK) (h : sp_law_path K c vs H Q E) : t_law_path K c E { nx := fun _ H' => Q .non H', rt := Q } (start ["_law_bag_here", "_law_contents_here", "_law_start", "_law_way", "_law_item", "_law_turn", "_law_size", "_law_place"] vs) H := by
  obtain ⟨b, l, s, xs, cs, rfl, hb, hl, hd, good, s0, s1, short, q⟩ := h
  walk_at "start"
  unfold t_law_path
  walk_at "st"
  refine ⟨by walk_at "len", new_ fun F G hF eG sG oF => ?_⟩
  walk_at "st"
  refine ⟨by walk_at "len", new_ fun T G1 hT eG1 sG1 oT => ?_⟩
  walk_at "st"
  refine ⟨_, _, rfl, ?_⟩
  walk_at "st"
  have bG := (hb.s sG).s sG1
  have hFb : F ≠ b := hb.ne hF
  have hTb : T ≠ b := (hb.s sG).ne hT
  have hTF : T ≠ F := (ne_of_none oF hT).symm
  refine ⟨b, 6, rfl, bG, by decide, by decide, fun z H1 z0 z1 f1 b1 => ?_⟩
  walk_at "st"
  refine ⟨_, rfl, by omega, by omega, ?_⟩
  have i0 : isItem cs.length (bx (.int s)) = true := by
    have : within 0 ((cs.length : Int) - 1) (.int s) = true := by simp only [within, Bool.and_eq_true, decide_eq_true_eq]; omega
    simp [isItem, bx, isRef, this]
  have inF : Same (hid [b] H) (hid [F, b] G) := by rw [eG]; exact hid_new hF
  have fG1 : Fr [F, b] G H1 := (Fr.of sG1).trans (f1.wide (by simp))
  refine for_it walk_range (fun i σ H' => ∃ cur x5 x6 x7 ps e, σ = [some (.ref b), some (.ref l), some (.int s), some (.ref F), some cur, x5, x6, x7] ∧ Fr [b] H H' ∧ Bag H' b ∧ H' F = some (.lst (ps.map V.int)) ∧ (∀ i ∈ ps, (0 : Int) ≤ i) ∧ ps.length = i ∧
      hid [F, b] H' l = some (.lst xs) ∧ DtA (hid [F, b] H') xs (cs.map PyData.list) ∧ Dt (hid [F, b] H') cur e ∧ isItem cs.length e = true)
    ⟨_, _, _, _, [], _, rfl, ((Fr.of (sG.trans sG1)).trans f1), b1, f1.at (sG1 _ _ oF) (by simp [hFb]), (fun _ h => nomatch h), rfl, (inF.trans fG1) _ _ hl, hd.s (inF.trans fG1),
      .tup (hid_of (f1.at oT (by simp [hTb])) (by simp [hTF, hTb])) (.cons (.str _ (by decide +kernel)) (.cons (.int s) .nil)), i0⟩ (fun _ _ _ _ _ => trivial) ?_ ?_
  · rintro i x σ _ H2 hi ⟨cur, x5, x6, x7, ps, e, rfl, f2, b2, oF2, pos, hlen, hl2, hd2, hcur, hit⟩ ⟨rfl, rfl⟩
    walk_at "sj"
    refine cut_ex (fun v H' => H2 = H' ∧ ∃ n : Int, v = .int n ∧ 0 ≤ n ∧ n ≤ 100 ∧ (0 < n → ∃ (k : Int) (p : Addr) (ys : List V) (row : List PyData) (t : Addr) (y : V), cur = .ref t ∧ H2 t = some (.tup [y, .int k]) ∧ 0 ≤ k ∧ xs[k.toNat]? = some (.ref p) ∧ hid [F, b] H2 p = some (.lst ys) ∧ DtA (hid [F, b] H2) ys row ∧ (row.length : Int) = n ∧ cs[k.toNat]? = some row)) (fun Q' q' => ?_) ?_
    · walk_at "st"
      refine v_isTuple hcur.h ?_
      walk_at "st"
      rcases isItem_cases hit with ⟨j, rfl⟩ | ⟨z, rfl⟩ | ⟨k, rfl, hk0, hk1⟩
      · walk_at "stk"
        exact q' _ _ ⟨rfl, 0, rfl, by decide, by decide, fun h => absurd h (by decide)⟩
      · walk_at "stk"
        exact q' _ _ ⟨rfl, 0, rfl, by decide, by decide, fun h => absurd h (by decide)⟩
      · cases hcur with
        | @tup q0 xs2 _ ht2 hxs =>
        cases hxs with
        | @cons y0 _ _ _ hy0 hr =>
        cases hr with
        | @cons y1 _ _ _ hy1 hn =>
        cases hn
        cases hy1
        have hk2 : k.toNat < cs.length := by omega
        have hrow := List.getElem?_eq_getElem hk2
        obtain ⟨q1, ys, hq1, hqs, hys⟩ := row_at hd2 hrow
        have hyl := hys.len
        have hsh := short _ (List.getElem_mem hk2)
        walk_at "stk"
        refine v_ixT (SqT.of (hid_get ht2)) (i := 1) rfl ?_
        refine v_ixL (SqL.of (hid_get hl2)) (at_int hk0 hq1) ?_
        walk_at "st"
        refine v_lenL (SqL.of (hid_get hqs)) ?_
        exact q' _ _ ⟨rfl, _, rfl, by omega, by omega, fun _ => ⟨k, q1, ys, _, q0, y0, rfl, hid_get ht2, hk0, hq1, hqs, hys, by omega, hrow⟩⟩
    rintro v _ ⟨rfl, n, rfl, n0, n100, hn⟩
    walk_at "sj"
    refine cut_ex (fun v H' => ∃ pl : Int, v = .int pl ∧ 0 ≤ pl ∧ Fr [b] H2 H' ∧ Bag H' b) (fun Q' q' => ?_) ?_
    · walk_at "st"
      refine ite_d (fun hh => ?_) fun hh => ?_
      · walk_at "st"
        refine ⟨b, 8, rfl, b2, by decide, by decide, fun z8 H3 z80 z81 f3 b3 => ?_⟩
        walk_at "st"
        refine ite_d (fun h8 => ?_) fun h8 => ?_
        · walk_at "st"
          exact ⟨b, n, rfl, b3, hh, by omega, fun zn H4 zn0 zn1 f4 b4 => q' _ _ ⟨zn, rfl, zn0, f3.trans f4, b4⟩⟩
        · walk_at "st"
          exact ⟨b, 3, rfl, b3, by decide, by decide, fun zn H4 zn0 zn1 f4 b4 => q' _ _ ⟨zn, rfl, zn0, f3.trans f4, b4⟩⟩
      · walk_at "st"
        exact ⟨b, 3, rfl, b2, by decide, by decide, fun zn H4 zn0 zn1 f4 b4 => q' _ _ ⟨zn, rfl, zn0, f4, b4⟩⟩
    rintro v H3 ⟨pl, rfl, pl0, f3, b3⟩
    walk_at "sj"
    have oF3 := f3.at oF2 (by simp [hFb])
    refine ⟨v_tyL (SqL.of oF3), ?_⟩
    walk_at "sj"
    have hi6 : i < 6 := by omega
    refine v_app oF3 (small1000 (by rw [List.length_map]; omega)) ?_
    walk_at "sj"
    generalize eG4 : upd H3 F (.lst (ps.map V.int ++ [.int pl])) = H4
    have f34 : Fr [F, b] H3 H4 := by rw [← eG4]; exact Fr.set (by simp)
    have f24 : Fr [F, b] H2 H4 := (f3.wide (by simp)).trans f34
    have fH4 : Fr [b] H H4 := by rw [← eG4]; exact fr_upd (f2.trans f3) hF
    have b4 : Bag H4 b := by
      obtain ⟨l', z', e', k'⟩ := b3
      rw [← eG4]
      exact ⟨l', z', (upd_ne hFb.symm).trans e', k'⟩
    have oF4 : H4 F = some (.lst ((ps ++ [pl]).map V.int)) := by rw [← eG4, List.map_append]; exact upd_same
    have pos4 : ∀ i ∈ ps ++ [pl], (0 : Int) ≤ i := fun j hj => by
      rcases List.mem_append.mp hj with w | w
      · exact pos j w
      · rw [List.mem_singleton.mp w]
        exact pl0
    have len4 : (ps ++ [pl]).length = i + 1 := by rw [List.length_append, hlen]; rfl
    walk_at "st"
    refine ite_d (fun hh => ?_) fun hh => ?_
    · walk_at "st"
      obtain ⟨k, p, ys, row, t, y, rfl, ht, hk0, hxp, hp, hys, hrl, hrow⟩ := hn (by omega)
      have htF : t ≠ F := ne_of ht oF2 (by simp)
      have htb : t ≠ b := by
        obtain ⟨l', z', e', _⟩ := b2
        exact ne_of ht e' (by simp)
      have ht4 : H4 t = some (.tup [y, .int k]) := f24.at ht (by simp [htF, htb])
      refine v_ixT (SqT.of ht4) (i := 1) rfl ?_
      refine v_ixL (SqL.of (hid_get (f24 _ _ hl2))) (at_int hk0 hxp) ?_
      walk_at "st"
      have hpl2 : pl.toNat < row.length := by omega
      obtain ⟨w, hw2, hdw⟩ := hys.at (List.getElem?_eq_getElem hpl2)
      refine v_ixL (SqL.of (hid_get (f24 _ _ hp))) (at_int pl0 hw2) ?_
      walk_at "st"
      exact ⟨w, _, _, _, _, _, rfl, fH4, b4, oF4, pos4, len4, f24 _ _ hl2, hd2.s f24, hdw.s f24, good _ (List.mem_of_getElem? hrow) _ (List.getElem_mem hpl2)⟩
    · walk_at "st"
      exact ⟨.int 0, _, _, _, _, _, rfl, fH4, b4, oF4, pos4, len4, f24 _ _ hl2, hd2.s f24, .int 0, rfl⟩
  · rintro σ H2 ⟨cur, x5, x6, x7, ps, e, rfl, f2, b2, oF2, pos, hlen, hl2, hd2, hcur, hit⟩
    walk_at "st"
    refine v_tuple (SqL.of oF2) (new_ fun p G2 hp eG2 sG2 oG2 => ?_)
    exact q p ps G2 (f2.trans (Fr.of sG2)) (b2.s sG2) oG2 pos (by omega)
end
end RB
/-! U51: law k51, the law itself. -/
namespace RB
open PySem PySem.Spec PyProof.Rows L2
local macro_rules | `(tactic| walk_at "st1") => `(tactic| with_reducible first
  | refine g_seq ?_ | (refine g_asgN ?_; try dsimp only [List.set]) | refine g_c ?_ | (refine' g_var ?hv ?_; case hv => with_unfolding_all exact rfl)
  | refine g_cons ?_ | refine g_nil ?_ | refine g_op ?_ | refine g_cb ?_ | refine g_cl ?_ | refine g_test ?_ | refine g_tb ?_ | refine g_ifS ?_
  | refine g_rtA ?_ | refine g_nxA ?_ | refine g_next ?_ | refine g_ret ?_ | refine g_retN ?_ | refine g_drop ?_ | refine g_if ?_ | refine g_and ?_ | refine g_or ?_ | refine g_not ?_ | refine g_yes ?_
  | refine g_andV ?_ | refine g_orV ?_ | refine g_notV ?_ | refine g_chain ?_ | refine g_un ?_ | refine g_fld ?_ | refine g_bm ?_ | refine g_mt ?_ | refine g_sl ?_ | refine g_part ?_ | refine g_noPart ?_
  | (refine g_par ?_; try dsimp only [List.set]) | (refine g_par3 ?_; try dsimp only [List.set]) | refine g_asgS ?_ | refine g_asgT ?_ | refine g_lst ?_ | refine g_tup ?_ | refine g_dnewK ?_ | refine g_sfld ?_ | refine g_brk ?_ | refine g_cont ?_
  | refine g_try ?_ | refine g_raiseX ?_ | refine g_cval ?_ | refine g_cmeth ?_ | refine g_cmethS ?_ | refine g_clsStar ?_ | refine g_callS ?_ | refine g_mtS ?_ | refine g_callK ?_ | refine g_callK0 ?_ | refine g_xf ?_ | refine g_for ?_ | refine g_prop ?_
  | refine g_any ?_ | refine g_rng1 ?_ | refine g_rng2 ?_ | refine g_lc ?_ | refine g_lc2 ?_ | (refine g_gName ?_; try dsimp only [List.set]) | refine g_gsub ?_ | refine g_gcons ?_ | refine g_gnil ?_
  | refine ex_bl ?_ | refine ex_int ?_ | refine ite_T ?_ | refine ite_F ?_ | refine ite_nT ?_ | refine ite_nF ?_
  | refine v_addI ?_ | refine v_sub ?_ | refine v_neg ?_ | refine v_lt ?_ | refine v_le ?_ | refine v_gt ?_ | refine v_ge ?_ | refine v_isN ?_ | refine v_notN ?_ | refine v_intI ?_ | refine v_intB ?_ | refine v_max ?_ | refine v_min ?_ | refine v_abs ?_ | refine v_inSign ?_)
local macro_rules | `(tactic| walk_at "st") => `(tactic| repeat walk_at "st1")
local macro_rules | `(tactic| walk_at "known") => `(tactic| first | ((with_reducible refine' ite_cT ?hk ?_); (case hk => rfl)) | ((with_reducible refine' ite_cF ?hk ?_); (case hk => rfl)))
local macro_rules | `(tactic| walk_at "stk") => `(tactic| repeat (first | walk_at "st1" | walk_at "known"))
local macro_rules | `(tactic| walk_at "sj1") => `(tactic| with_reducible first
  | refine g_seq ?_ | (refine g_asgN ?_; try dsimp only [List.set]) | refine g_c ?_ | (refine' g_var ?hv ?_; case hv => with_unfolding_all exact rfl)
  | refine g_cons ?_ | refine g_nil ?_ | refine g_op ?_ | refine g_cb ?_ | refine g_cl ?_ | refine g_test ?_ | refine g_tb ?_ 
  | refine g_rtA ?_ | refine g_nxA ?_ | refine g_next ?_ | refine g_ret ?_ | refine g_retN ?_ | refine g_drop ?_  | refine g_and ?_ | refine g_or ?_ | refine g_not ?_ | refine g_yes ?_
  | refine g_andV ?_ | refine g_orV ?_ | refine g_notV ?_ | refine g_chain ?_ | refine g_un ?_ | refine g_fld ?_ | refine g_bm ?_ | refine g_mt ?_ | refine g_sl ?_ | refine g_part ?_ | refine g_noPart ?_
  | (refine g_par ?_; try dsimp only [List.set]) | (refine g_par3 ?_; try dsimp only [List.set]) | refine g_asgS ?_ | refine g_asgT ?_ | refine g_lst ?_ | refine g_tup ?_ | refine g_dnewK ?_ | refine g_sfld ?_ | refine g_brk ?_ | refine g_cont ?_
  | refine g_try ?_ | refine g_raiseX ?_ | refine g_cval ?_ | refine g_cmeth ?_ | refine g_cmethS ?_ | refine g_clsStar ?_ | refine g_callS ?_ | refine g_mtS ?_ | refine g_callK ?_ | refine g_callK0 ?_ | refine g_xf ?_ | refine g_for ?_ | refine g_prop ?_
  | refine g_any ?_ | refine g_rng1 ?_ | refine g_rng2 ?_ | (refine g_gName ?_; try dsimp only [List.set]) | refine g_gsub ?_ | refine g_gcons ?_ | refine g_gnil ?_
  | refine ex_bl ?_ | refine ex_int ?_ | refine ite_T ?_ | refine ite_F ?_ | refine ite_nT ?_ | refine ite_nF ?_
  | refine v_addI ?_ | refine v_sub ?_ | refine v_neg ?_ | refine v_lt ?_ | refine v_le ?_ | refine v_gt ?_ | refine v_ge ?_ | refine v_isN ?_ | refine v_notN ?_ | refine v_intI ?_ | refine v_intB ?_ | refine v_max ?_ | refine v_min ?_ | refine v_abs ?_ | refine v_inSign ?_)
local macro_rules | `(tactic| walk_at "sj") => `(tactic| repeat walk_at "sj1")
local macro_rules | `(tactic| walk_at "len") => `(tactic| first | decide | exact Nat.le_of_lt (small1000 (by simp)) | exact small1000 (by simp))
local macro_rules | `(tactic| walk_at "start") => `(tactic| dsimp only [L2.start, List.map, List.length, List.append, HAppend.hAppend, Append.append, List.replicate, Nat.reduceAdd, Nat.reduceSub])
def fine (d : PyData) : Bool := d.showable && decide (d.shown.length ≤ 1000) && decide (d.depth < 100)
theorem fine_parts {d : PyData} (h : fine d = true) : d.showable = true ∧ d.shown.length ≤ sizeLine ∧ d.depth < 100 := by
  unfold fine at h
  simp only [Bool.and_eq_true, decide_eq_true_eq] at h
  exact ⟨h.1.1, Nat.le_trans h.1.2 (by decide), h.2⟩
/-- all that a path may lead to, in a heap of at most six boxes -/
def ends51 : List PyData := .none :: leavesC ++ (List.range 6).map fun (i : Nat) => bx (.int (i : Int))
theorem ends_fine : ends51.all (fun d => fine (.list [d, d])) = true := by decide +kernel
theorem leavesC_item (n : Int) {d : PyData} (h : d ∈ leavesC) : isItem n d = true := by
  have := List.all_eq_true.mp leavesC_leaf d h
  simp [isItem, this]
theorem rowsC_lists {n m : Int} : ∀ {ds : List PyData}, RowsC n m ds → ∃ cs : List (List PyData), ds = cs.map PyData.list ∧ ∀ r ∈ cs, (r.length : Int) ≤ m ∧ ∀ x ∈ r, x ∈ leavesC ∨ ∃ k : Int, 0 ≤ k ∧ k < n ∧ x = bx (.int k)
  | [], _ => ⟨[], rfl, fun _ h => nomatch h⟩
  | d :: ds, h => by
    obtain ⟨r, rfl, h1, h2⟩ := h d (by simp)
    obtain ⟨cs, rfl, h3⟩ := rowsC_lists (ds := ds) fun x hx => h x (by simp [hx])
    exact ⟨r :: cs, rfl, fun x hx => by
      rcases List.mem_cons.mp hx with z | z
      · rw [z]
        exact ⟨h1, h2⟩
      · exact h3 x z⟩
/-- what stands in such rows, and whence a path leads -/
def Row51 (cs : List (List PyData)) : Prop := ∀ r ∈ cs, ∀ x ∈ r, x ∈ leavesC ∨ ∃ k : Int, 0 ≤ k ∧ k < cs.length ∧ x = bx (.int k)
theorem row51_item {cs : List (List PyData)} (h : Row51 cs) : Rows cs := fun r hr d hd => by
  rcases h r hr d hd with w | ⟨k, k0, k1, rfl⟩
  · exact leavesC_item _ w
  · have : within 0 ((cs.length : Int) - 1) (.int k) = true := by simp only [within, Bool.and_eq_true, decide_eq_true_eq]; omega
    simp [isItem, bx, isRef, this]
theorem bx_ends {k : Int} (h0 : 0 ≤ k) (h6 : k < 6) : bx (.int k) ∈ ends51 := by
  refine List.mem_append_right _ (List.mem_map.mpr ⟨k.toNat, List.mem_range.mpr (by omega), ?_⟩)
  rw [Int.toNat_of_nonneg h0]
theorem walk_ends {cs : List (List PyData)} (h : Row51 cs) (h6 : cs.length ≤ 6) : ∀ (ps : List Int) (e : PyData), (e ∈ leavesC ∨ ∃ k : Int, 0 ≤ k ∧ k < cs.length ∧ e = bx (.int k)) → walkAt cs e ps ∈ ends51
  | [], e, he => by
    have hw : walkAt cs e [] = e := by cases e <;> rfl
    rw [hw]
    rcases he with w | ⟨k, k0, k1, rfl⟩
    · exact List.mem_append_left _ (List.mem_cons_of_mem _ w)
    · exact bx_ends k0 (by omega)
  | p :: ps, e, he => by
    rcases he with w | ⟨k, k0, k1, rfl⟩
    · have hl : isLeaf e = true := List.all_eq_true.mp leavesC_leaf e w
      have : walkAt cs e (p :: ps) = .none := by
        cases e <;> first | rfl | (cases hl; done) | (simp [isLeaf, isInt, isWord] at hl)
      rw [this]
      simp [ends51]
    · show (match (cs.getD k.toNat [])[p.toNat]? with | some e => walkAt cs e ps | none => .none) ∈ ends51
      have hk : k.toNat < cs.length := by omega
      have hgd : cs.getD k.toNat [] = cs[k.toNat] := by rw [List.getD_eq_getElem?_getD, List.getElem?_eq_getElem hk]; rfl
      rw [hgd]
      cases hx : cs[k.toNat][p.toNat]? with
      | none => simp [ends51]
      | some x => exact walk_ends h h6 ps x (h _ (List.getElem_mem hk) x (List.mem_of_getElem? hx))
theorem end_facts {d : PyData} (h : d ∈ ends51) : fine (.list [d, d]) = true := List.all_eq_true.mp ends_fine d h
/-- a heap beside the bag -/
theorem Dt.hideItem {M : List Addr} {H : Hp} {n : Int} {v : V} {d : PyData} (hm : ∀ x ∈ M, ∃ xs, H x = some (.lst xs)) (hi : isItem n d = true) (h : Dt H v d) : Dt (hid M H) v d := by
  rcases isItem_cases hi with ⟨j, rfl⟩ | ⟨z, rfl⟩ | ⟨k, rfl, _, _⟩
  · cases h
    exact .int _
  · cases h
    exact .str _ (by assumption)
  · cases h with
    | tup e hx =>
      refine .tup (hid_of e fun m => ?_) ?_
      · obtain ⟨ys, hy⟩ := hm _ m
        rw [hy] at e
        cases e
      · cases hx with
        | cons h1 h2 =>
          cases h2 with
          | cons h3 h4 =>
            cases h4
            cases h1
            cases h3
            exact .cons (.str _ (by assumption)) (.cons (.int _) .nil)
theorem DtA.hideItems {M : List Addr} {H : Hp} {n : Int} (hm : ∀ x ∈ M, ∃ xs, H x = some (.lst xs)) : ∀ {vs : List V} {ds : List PyData}, (∀ d ∈ ds, isItem n d = true) → DtA H vs ds → DtA (hid M H) vs ds
  | _, _, _, .nil => .nil
  | _, _, hi, .cons h t => .cons (h.hideItem hm (hi _ (by simp))) (DtA.hideItems hm (fun d hd => hi d (by simp [hd])) t)
theorem RowsAt.hideItems {M : List Addr} {H : Hp} {n : Int} (hm : ∀ x ∈ M, ∃ xs, H x = some (.lst xs)) : ∀ {rs : List Addr} {cs : List (List PyData)}, (∀ r ∈ rs, r ∉ M) → (∀ r ∈ cs, ∀ d ∈ r, isItem n d = true) → RowsAt H rs cs → RowsAt (hid M H) rs cs
  | _, _, _, _, .nil => .nil
  | _, _, hr, hi, .cons h hd t => .cons (hid_of h (hr _ (by simp))) (hd.hideItems hm (hi _ (by simp))) (t.hideItems hm (fun r h => hr r (by simp [h])) fun r h => hi r (by simp [h]))
theorem HeapAt.hideAll {c : Ads} {M : List Addr} {H : Hp} {a L : Addr} {rs : List Addr} {cs : List (List PyData)} (hm : ∀ x ∈ M, ∃ xs, H x = some (.lst xs)) (hL : L ∉ M) (hr : ∀ r ∈ rs, r ∉ M) (h : HeapAt c H a L rs cs) : HeapAt c (hid M H) a L rs cs := by
  obtain ⟨dx, e1, e2⟩ := h.ins
  refine ⟨⟨dx, hid_of e1 fun m => ?_, hid_of e2 fun m => ?_⟩, hid_of h.lst hL, h.rows.hideItems hm hr h.ok, h.nd, h.few, h.many, h.ok⟩
  · obtain ⟨ys, hy⟩ := hm _ m
    rw [hy] at e1
    cases e1
  · obtain ⟨ys, hy⟩ := hm _ m
    rw [hy] at e2
    cases e2
theorem flat_rep {α : Type} (x : α) : ∀ k : Nat, (List.replicate k [x]).flatten = List.replicate k x
  | 0 => rfl
  | k + 1 => by rw [List.replicate_succ, List.flatten_cons, flat_rep x k, List.replicate_succ]; rfl
end RB
/-! V51: law k51, its loops. -/
namespace RB
open PySem PySem.Spec PyProof.Rows L2
local macro_rules | `(tactic| walk_at "st1") => `(tactic| with_reducible first
  | refine g_seq ?_ | (refine g_asgN ?_; try dsimp only [List.set]) | refine g_c ?_ | (refine' g_var ?hv ?_; case hv => with_unfolding_all exact rfl)
  | refine g_cons ?_ | refine g_nil ?_ | refine g_op ?_ | refine g_cb ?_ | refine g_cl ?_ | refine g_test ?_ | refine g_tb ?_ | refine g_ifS ?_
  | refine g_rtA ?_ | refine g_nxA ?_ | refine g_next ?_ | refine g_ret ?_ | refine g_retN ?_ | refine g_drop ?_ | refine g_if ?_ | refine g_and ?_ | refine g_or ?_ | refine g_not ?_ | refine g_yes ?_
  | refine g_andV ?_ | refine g_orV ?_ | refine g_notV ?_ | refine g_chain ?_ | refine g_un ?_ | refine g_fld ?_ | refine g_bm ?_ | refine g_mt ?_ | refine g_sl ?_ | refine g_part ?_ | refine g_noPart ?_
  | (refine g_par ?_; try dsimp only [List.set]) | (refine g_par3 ?_; try dsimp only [List.set]) | refine g_asgS ?_ | refine g_asgT ?_ | refine g_lst ?_ | refine g_tup ?_ | refine g_dnewK ?_ | refine g_sfld ?_ | refine g_brk ?_ | refine g_cont ?_
  | refine g_try ?_ | refine g_raiseX ?_ | refine g_cval ?_ | refine g_cmeth ?_ | refine g_cmethS ?_ | refine g_clsStar ?_ | refine g_callS ?_ | refine g_mtS ?_ | refine g_callK ?_ | refine g_callK0 ?_ | refine g_xf ?_ | refine g_for ?_ | refine g_prop ?_
  | refine g_any ?_ | refine g_rng1 ?_ | refine g_rng2 ?_ | refine g_lc ?_ | refine g_lc2 ?_ | (refine g_gName ?_; try dsimp only [List.set]) | refine g_gsub ?_ | refine g_gcons ?_ | refine g_gnil ?_
  | refine ex_bl ?_ | refine ex_int ?_ | refine ite_T ?_ | refine ite_F ?_ | refine ite_nT ?_ | refine ite_nF ?_
  | refine v_addI ?_ | refine v_sub ?_ | refine v_neg ?_ | refine v_lt ?_ | refine v_le ?_ | refine v_gt ?_ | refine v_ge ?_ | refine v_isN ?_ | refine v_notN ?_ | refine v_intI ?_ | refine v_intB ?_ | refine v_max ?_ | refine v_min ?_ | refine v_abs ?_ | refine v_inSign ?_)
local macro_rules | `(tactic| walk_at "st") => `(tactic| repeat walk_at "st1")
local macro_rules | `(tactic| walk_at "known") => `(tactic| first | ((with_reducible refine' ite_cT ?hk ?_); (case hk => rfl)) | ((with_reducible refine' ite_cF ?hk ?_); (case hk => rfl)))
local macro_rules | `(tactic| walk_at "stk") => `(tactic| repeat (first | walk_at "st1" | walk_at "known"))
local macro_rules | `(tactic| walk_at "sj1") => `(tactic| with_reducible first
  | refine g_seq ?_ | (refine g_asgN ?_; try dsimp only [List.set]) | refine g_c ?_ | (refine' g_var ?hv ?_; case hv => with_unfolding_all exact rfl)
  | refine g_cons ?_ | refine g_nil ?_ | refine g_op ?_ | refine g_cb ?_ | refine g_cl ?_ | refine g_test ?_ | refine g_tb ?_ 
  | refine g_rtA ?_ | refine g_nxA ?_ | refine g_next ?_ | refine g_ret ?_ | refine g_retN ?_ | refine g_drop ?_  | refine g_and ?_ | refine g_or ?_ | refine g_not ?_ | refine g_yes ?_
  | refine g_andV ?_ | refine g_orV ?_ | refine g_notV ?_ | refine g_chain ?_ | refine g_un ?_ | refine g_fld ?_ | refine g_bm ?_ | refine g_mt ?_ | refine g_sl ?_ | refine g_part ?_ | refine g_noPart ?_
  | (refine g_par ?_; try dsimp only [List.set]) | (refine g_par3 ?_; try dsimp only [List.set]) | refine g_asgS ?_ | refine g_asgT ?_ | refine g_lst ?_ | refine g_tup ?_ | refine g_dnewK ?_ | refine g_sfld ?_ | refine g_brk ?_ | refine g_cont ?_
  | refine g_try ?_ | refine g_raiseX ?_ | refine g_cval ?_ | refine g_cmeth ?_ | refine g_cmethS ?_ | refine g_clsStar ?_ | refine g_callS ?_ | refine g_mtS ?_ | refine g_callK ?_ | refine g_callK0 ?_ | refine g_xf ?_ | refine g_for ?_ | refine g_prop ?_
  | refine g_any ?_ | refine g_rng1 ?_ | refine g_rng2 ?_ | (refine g_gName ?_; try dsimp only [List.set]) | refine g_gsub ?_ | refine g_gcons ?_ | refine g_gnil ?_
  | refine ex_bl ?_ | refine ex_int ?_ | refine ite_T ?_ | refine ite_F ?_ | refine ite_nT ?_ | refine ite_nF ?_
  | refine v_addI ?_ | refine v_sub ?_ | refine v_neg ?_ | refine v_lt ?_ | refine v_le ?_ | refine v_gt ?_ | refine v_ge ?_ | refine v_isN ?_ | refine v_notN ?_ | refine v_intI ?_ | refine v_intB ?_ | refine v_max ?_ | refine v_min ?_ | refine v_abs ?_ | refine v_inSign ?_)
local macro_rules | `(tactic| walk_at "sj") => `(tactic| repeat walk_at "sj1")
local macro_rules | `(tactic| walk_at "len") => `(tactic| first | decide | exact Nat.le_of_lt (small1000 (by simp)) | exact small1000 (by simp))
local macro_rules | `(tactic| walk_at "start") => `(tactic| dsimp only [L2.start, List.map, List.length, List.append, HAppend.hAppend, Append.append, List.replicate, Nat.reduceAdd, Nat.reduceSub])
section
variable {K : PySem.W.Frag} {c : Ads}
/-- what a turn holds: the bag, the rows, the book -/
structure In51 (c : Ads) (H : Hp) (b l h L : Addr) (xs : List V) (rs : List Addr) (cs : List (List PyData)) : Prop where
  bag : Bag H b
  lst : hid [b] H l = some (.lst xs)
  rows : DtA (hid [b] H) xs (cs.map PyData.list)
  book : HeapAt c (hid [b] H) h L rs cs
theorem In51.fr {H H' : Hp} {b l h L : Addr} {xs : List V} {rs : List Addr} {cs : List (List PyData)} (i : In51 c H b l h L xs rs cs) (f : Fr [b] H H') (hb : Bag H' b) : In51 c H' b l h L xs rs cs := ⟨hb, f _ _ i.lst, i.rows.s f, i.book.s f⟩
def Sl51 (a b l h : Addr) (n : Int) (σ : L2.St) : Prop := ∃ x1 x3 x7 x8 x9 x10 x11, σ = [some (.ref a), x1, some (.ref b), x3, some (.int n), some (.ref l), some (.ref h), x7, x8, x9, x10, x11]
theorem f1_ok51 {a b l h L : Addr} {n : Int} {xs : List V} {rs : List Addr} {cs : List (List PyData)} {σ : L2.St} {H : Hp} {E : XK} {nx bk ct : L2.St → Hp → Prop} {rt : VK} (hσ : Sl51 a b l h n σ) (i : In51 c H b l h L xs rs cs) (hn : (cs.length : Int) = n) (n0 : 0 < n) (n6 : n ≤ 6) (h51 : Row51 cs) (short : ∀ r ∈ cs, r.length ≤ 100)
    (k : ∀ σ' H', Sl51 a b l h n σ' → Fr [b] H H' → Bag H' b → nx σ' H') : t_law_f1 K c E ⟨nx, rt, bk, ct⟩ σ H := by
  obtain ⟨x1, x3, x7, x8, x9, x10, x11, rfl⟩ := hσ
  unfold t_law_f1
  walk_at "st"
  refine ⟨b, n, rfl, i.bag, n0, by omega, fun s H1 s0 s1 f1 b1 => ?_⟩
  have i1 := i.fr f1 b1
  walk_at "st"
  refine ⟨b, l, s, xs, cs, rfl, b1, i1.lst, i1.rows, row51_item h51, s0, by omega, short, fun p ps H2 f2 b2 op pos hps => ?_⟩
  have i2 := i1.fr f2 b2
  walk_at "st"
  refine ⟨b, 4, rfl, b2, by decide, by decide, fun z H3 z0 z1 f3 b3 => ?_⟩
  have i3 := i2.fr f3 b3
  walk_at "st"
  refine v_eqS rfl ?_
  walk_at "st"
  refine v_mulI (.inl ⟨by decide, by decide⟩) ?_
  walk_at "st"
  have hpb : p ≠ b := by
    obtain ⟨l', z', e', _⟩ := b2
    exact ne_of op e' (by simp)
  have op3 := f3.at op (by simp [hpb])
  refine cut_r (r := rMulU K) (fun v H' => ∃ (w : Addr) (ws : List Int), v = .ref w ∧ Same H3 H' ∧ H' w = some (.tup (ws.map V.int)) ∧ ∀ j ∈ ws, (0 : Int) ≤ j) (fun Q' q' => ?_) ?_
  · by_cases hz : z = 0
    · by_cases hp0 : ps = []
      · refine v_repT1 (SqT.of op3) (.inl (by rw [hp0]; rfl)) (by split <;> omega) (by split <;> omega) (q' _ _ ⟨p, ps, rfl, Same.refl _, op3, pos⟩)
      · have e : (1 : Int) + 9 * (if decide (V.int z = V.int 0) = true then 1 else 0) = 10 := by rw [if_pos (by simp [hz])]; rfl
        rw [e]
        refine v_repT (SqT.of op3) (by simpa using hp0) (by decide) (by decide) (by rw [List.length_map]; omega) (new_ fun w G hw eG sG oG => ?_)
        refine q' _ _ ⟨w, (List.replicate 10 ps).flatten, rfl, sG, ?_, fun j hj => ?_⟩
        · rw [oG]
          have : (List.replicate (10 : Int).toNat (ps.map V.int)).flatten = ((List.replicate 10 ps).flatten).map V.int := by
            rw [List.map_flatten, List.map_replicate]
            rfl
          rw [this]
        · obtain ⟨x, hx, hj2⟩ := List.mem_flatten.mp hj
          rw [List.eq_of_mem_replicate hx] at hj2
          exact pos j hj2
    · have e : (1 : Int) + 9 * (if decide (V.int z = V.int 0) = true then 1 else 0) = 1 := by rw [if_neg (by simp [hz])]; rfl
      rw [e]
      exact v_repT1 (SqT.of op3) (.inr rfl) (by decide) (by decide) (q' _ _ ⟨p, ps, rfl, Same.refl _, op3, pos⟩)
  rintro _ H4 ⟨w, ws, rfl, s4, ow, posw⟩
  have f4 : Fr [b] H3 H4 := Fr.of s4
  have i4 := i3.fr f4 (b3.s s4)
  walk_at "st"
  have hd4 := walk_ends h51 (by omega) ws (bx (.int s)) (.inr ⟨s, s0, by omega, rfl⟩)
  have hfine := fine_parts (end_facts hd4)
  refine ⟨l, w, s, xs, cs, ws, rfl, hid_get i4.lst, i4.rows.h, row51_item h51, s0, by omega, ow, posw, fun v1 H5 s5 hv1 => ?_⟩
  have i5 := i4.fr (Fr.of s5) (i4.bag.s s5)
  walk_at "st"
  have hws : within 0 ((cs.length : Int) - 1) (.int s) = true := by simp only [within, Bool.and_eq_true, decide_eq_true_eq]; omega
  refine ⟨h, .int s, .int s, w, ws, L, rs, cs, rfl, i5.book.s same_hid, .int s, SqT.of (s5 _ _ ow), posw, fun _ v2 H6 s6 hv2 => ?_, fun hf => by rw [hws] at hf; cases hf⟩
  have i6 := i5.fr (Fr.of s6) (i5.bag.s s6)
  walk_at "st"
  refine ⟨h, .int s, .int s, w, ws, L, rs, cs, rfl, i6.book.s same_hid, .int s, SqT.of (s6 _ _ (s5 _ _ ow)), posw, fun _ v3 H7 s7 hv3 => ?_, fun hf => by rw [hws] at hf; cases hf⟩
  walk_at "st"
  refine ⟨by walk_at "len", new_ fun u1 G1 hu1 _ sg1 og1 => ?_⟩
  walk_at "st"
  refine v_repr (.lst og1 (.cons ((hv2.s s7).s sg1) (.one (hv3.s sg1)))) hfine.1 hfine.2.1 hfine.2.2 ?_
  walk_at "st"
  refine ⟨by walk_at "len", new_ fun u2 G2 hu2 _ sg2 og2 => ?_⟩
  walk_at "st"
  refine v_rep og2 (by decide) (by decide) (by walk_at "len") (new_ fun u3 G3 hu3 _ sg3 og3 => ?_)
  rw [flat_rep] at og3
  walk_at "st"
  have s17 : Same H5 G3 := fun x o e => sg3 _ _ (sg2 _ _ (sg1 _ _ (s7 _ _ (s6 _ _ e))))
  refine v_repr (.lst og3 (.cons (hv1.s s17) (.one (hv1.s s17)))) hfine.1 hfine.2.1 hfine.2.2 ?_
  walk_at "st"
  refine v_neS rfl ?_
  walk_at "st"
  refine ite_n (fun hh => absurd rfl hh) fun _ => ?_
  walk_at "st"
  exact k _ _ ⟨_, _, _, _, _, _, _, rfl⟩ (((((f1.trans f2).trans f3).trans f4).trans (Fr.of s5)).trans (Fr.of s17)) (i5.bag.s s17)
def odds51 (n : Int) : List PyData := [.int n, .int (-1), .none, .bool true, .str "0", .tuple [.int 0], .list [.int 0]]
theorem odds51_fine : ∀ n ∈ [(1 : Int), 2, 3, 4, 5, 6], (odds51 n).all (fun d => fine (bx d) && !within 0 (n - 1) d) = true := by decide +kernel
theorem odd51_facts {n : Int} {d : PyData} (h0 : 0 < n) (h6 : n ≤ 6) (h : d ∈ odds51 n) : fine (bx d) = true ∧ within 0 (n - 1) d = false := by
  have hn : n ∈ [(1 : Int), 2, 3, 4, 5, 6] := by
    have : n = 1 ∨ n = 2 ∨ n = 3 ∨ n = 4 ∨ n = 5 ∨ n = 6 := by omega
    simpa using this
  have := List.all_eq_true.mp (odds51_fine n hn) d h
  simpa using this
theorem box0_shown : (bx (.int 0)).shown = "('box', 0)" := by decide +kernel
theorem box0_fine : fine (bx (.int 0)) = true := by decide +kernel
theorem list_inj : ∀ {a b : List (List PyData)}, a.map PyData.list = b.map PyData.list → a = b
  | [], [], _ => rfl
  | [], _ :: _, h => by cases h
  | _ :: _, [], h => by cases h
  | x :: a, y :: b, h => by
    have h1 : PyData.list x = PyData.list y ∧ a.map PyData.list = b.map PyData.list := by simpa using h
    cases h1.1
    rw [list_inj h1.2]
theorem f2_ok51 {a b : Addr} {σ : L2.St} {H : Hp} {E : XK} {nx bk ct : L2.St → Hp → Prop} {rt : VK} (hσ : ∃ x1 x3 x4 x5 x6 x7 x8 x9 x10 x11, σ = [some (.ref a), x1, some (.ref b), x3, x4, x5, x6, x7, x8, x9, x10, x11]) (hb : Bag H b)
    (k : ∀ σ' H', (∃ x1 x3 x4 x5 x6 x7 x8 x9 x10 x11, σ' = [some (.ref a), x1, some (.ref b), x3, x4, x5, x6, x7, x8, x9, x10, x11]) → Fr [b] H H' → Bag H' b → nx σ' H') : t_law_f2 K c E ⟨nx, rt, bk, ct⟩ σ H := by
  obtain ⟨x1, x3, x4, x5, x6, x7, x8, x9, x10, x11, rfl⟩ := hσ
  unfold t_law_f2
  walk_at "st"
  refine ⟨b, 6, rfl, hb, by decide, by decide, fun z H1 z0 z1 f1 b1 => ?_⟩
  walk_at "st"
  generalize hn : 1 + z = n
  have n0 : 0 < n := by omega
  have n6 : n ≤ 6 := by omega
  obtain ⟨bl, bs, eb, _⟩ := id b1
  refine ⟨b, n, 3, [b], rfl, b1, by simp, (fun x hx => by rw [List.mem_singleton.mp hx]; exact ⟨_, eb⟩), n0, by omega, by decide, by decide, fun l xs ds H2 f2 b2 hl hd hlen hrows => ?_⟩
  obtain ⟨cs, rfl, hcs⟩ := rowsC_lists hrows
  rw [List.length_map] at hlen
  have h51 : Row51 cs := fun r hr x hx => by
    rcases (hcs r hr).2 x hx with w | ⟨k', k0, k1, e⟩
    · exact .inl w
    · exact .inr ⟨k', k0, by omega, e⟩
  have good := row51_item h51
  have short : ∀ r ∈ cs, r.length ≤ 100 := fun r hr => by have := (hcs r hr).1; omega
  have hno : firstBad (cs.map PyData.list) = none := by
    refine firstBad_all fun d hd' => ?_
    obtain ⟨r, hr, rfl⟩ := List.mem_map.mp hd'
    exact ⟨r, rfl, by rw [List.length_map]; exact good r hr⟩
  have hrl : ∀ r ∈ cs.map PyData.list, rowLen r ≤ 3 := fun d hd' => by
    obtain ⟨r, hr, rfl⟩ := List.mem_map.mp hd'
    have := (hcs r hr).1
    show r.length ≤ 3
    omega
  have htot := total_le hrl
  have hml : (cs.map PyData.list).length = cs.length := List.length_map _
  have hxl := hd.len
  walk_at "st"
  refine ⟨rfl, ?_⟩
  walk_at "st"
  refine ⟨l, xs, cs.map PyData.list, rfl, hid_get hl, hd.h, by omega, fun r hr => Nat.le_trans (hrl r hr) (by decide), by omega, (fun bad h => by rw [hno] at h; cases h), (fun _ h => by omega), (fun _ _ h => by omega), fun _ _ _ H3 h L rs cs' s3 hap e nh nL nrs => ?_⟩
  cases list_inj e
  have b3 := b2.s s3
  obtain ⟨bl3, bs3, eb3, _⟩ := id b3
  have f3 : Fr [b] H2 H3 := Fr.of s3
  have i3 : In51 c H3 b l h L xs rs cs := ⟨b3, f3 _ _ hl, hd.s f3, hap.hideAll (fun x hx => by rw [List.mem_singleton.mp hx]; exact ⟨_, eb3⟩) (by simp [b2.ne nL]) fun r hr => by simp [b2.ne (nrs r hr)]⟩
  walk_at "st"
  refine ⟨6, rfl, by decide, by decide, ?_⟩
  refine for_it walk_range (fun i σ H' => Sl51 a b l h n σ ∧ Fr [b] H3 H' ∧ Bag H' b) ⟨⟨_, _, _, _, _, _, _, rfl⟩, Fr.refl, b3⟩ (fun _ _ _ _ _ => trivial) ?_ ?_
  · rintro i x σ _ H4 hi ⟨⟨y1, y3, y7, y8, y9, y10, y11, rfl⟩, f4, b4⟩ ⟨rfl, rfl⟩
    walk_at "st"
    exact f1_ok51 ⟨_, _, _, _, _, _, _, rfl⟩ (i3.fr f4 b4) hlen n0 n6 h51 short fun σ' H' hs f b' => ⟨hs, f4.trans f, b'⟩
  rintro σ H4 ⟨⟨y1, y3, y7, y8, y9, y10, y11, rfl⟩, f4, b4⟩
  have i4 := i3.fr f4 b4
  walk_at "st"
  refine ⟨by walk_at "len", newB_ (M := [b]) b4 (fun x hx => by obtain ⟨_, _, e', _⟩ := id b4; rw [List.mem_singleton.mp hx]; exact ⟨_, e'⟩) fun t1 T1 _ bt1 m1 s1 o1 => ?_⟩
  walk_at "st"
  refine ⟨by walk_at "len", newB_ bt1 m1 fun t2 T2 _ bt2 m2 s2 o2 => ?_⟩
  walk_at "st"
  refine ⟨by walk_at "len", newB_ bt2 m2 fun t3 T3 _ bt3 m3 s3' o3 => ?_⟩
  walk_at "st"
  have all : DtA (hid [b] T3) _ (odds51 n) := .cons (.int n) (.cons (.int (-1)) (.cons .non (.cons (.bl true) (.cons (.str "0" (by decide +kernel)) (.cons (.tup ((Fr.of (s2.trans s3') : Fr [b] T1 T3) _ _ o1) (.one (.int 0))) (.cons (.lst ((Fr.of s3' : Fr [b] T2 T3) _ _ o2) (.one (.int 0))) .nil))))))
  refine ⟨b, 7, rfl, bt3, by decide, by decide, fun oi H5 oi0 oi1 f5 b5 => ?_⟩
  have s4T : Same H4 T3 := (s1.trans s2).trans s3'
  have i5 := (i4.fr (Fr.of s4T) bt3).fr f5 b5
  have hoi : oi.toNat < (odds51 n).length := by
    show oi.toNat < 7
    omega
  obtain ⟨v, hv, hdv⟩ := all.at (List.getElem?_eq_getElem hoi)
  refine v_ixL (SqL.of (hid_get (f5 _ _ o3))) (at_int oi0 hv) ?_
  have hdv5 := (hdv.s f5).h
  obtain ⟨hof, how⟩ := odd51_facts n0 n6 (List.getElem_mem hoi)
  generalize (odds51 n)[oi.toNat] = d at hdv5 hof how
  have hfine := fine_parts hof
  walk_at "st"
  refine ⟨h, v, d, L, rs, cs, rfl, i5.book.s same_hid, hdv5, by rw [hlen]; exact how, fun p H6 s6 op => ?_⟩
  walk_at "st"
  have dp : Dt H6 (.ref p) (bx d) := .tup op (.cons (.str _ (by decide +kernel)) (.one (hdv5.s s6)))
  refine v_repr dp hfine.1 hfine.2.1 hfine.2.2 ?_
  walk_at "st"
  refine ⟨by walk_at "len", new_ fun u1 G1 hu1 _ sg1 og1 => ?_⟩
  walk_at "st"
  have dq : Dt G1 (.ref u1) (bx d) := .tup og1 (.cons (.str _ (by decide +kernel)) (.one ((hdv5.s s6).s sg1)))
  refine v_repr dq hfine.1 hfine.2.1 hfine.2.2 ?_
  walk_at "st"
  refine v_neS rfl ?_
  walk_at "st"
  refine ite_n (fun hh => absurd rfl hh) fun _ => ?_
  walk_at "st"
  have s5G : Same H5 G1 := s6.trans sg1
  refine ⟨by walk_at "len", new_ fun u2 G2 hu2 _ sg2 og2 => ?_⟩
  walk_at "st"
  have w0 : within 0 ((cs.length : Int) - 1) (.int 0) = true := by simp only [within, Bool.and_eq_true, decide_eq_true_eq]; omega
  have s5G2 : Same H5 G2 := s5G.trans sg2
  refine ⟨h, .int 0, .int 0, u2, [], L, rs, cs, rfl, (i5.book.s same_hid).s s5G2, .int 0, SqT.of og2, (fun _ hh => nomatch hh), fun _ w H7 s7 hw => ?_, fun hf => by rw [w0] at hf; cases hf⟩
  walk_at "st"
  have f0 := fine_parts box0_fine
  refine v_repr (show Dt H7 w (bx (.int 0)) from hw) f0.1 f0.2.1 f0.2.2 ?_
  rw [box0_shown]
  walk_at "st"
  refine v_neS rfl ?_
  walk_at "st"
  refine ite_n (fun hh => absurd rfl hh) fun _ => ?_
  walk_at "st"
  have s57 : Same H5 H7 := s5G2.trans s7
  exact k _ _ ⟨_, _, _, _, _, _, _, _, _, _, rfl⟩ ((((((f1.trans f2).trans f3).trans f4).trans (Fr.of s4T)).trans f5).trans (Fr.of s57)) (b5.s s57)
-- PURE law
theorem pure_law (vs : List V) (H : Hp) (Q : VK) (E : XK) (h : sp_law K c vs H Q E) : t_law K c E { nx := fun _ H' => Q .non H', rt := Q } (start ["_law_script", "_law_k", "_law_bag_here", "_law_turn", "_law_size", "_law_rows", "_law_book", "_law_again", "_law_spot", "_law_way", "_law_due", "_law_odd"] vs) H := by
  obtain ⟨a, ns, rfl, hS, hl, q⟩ := h
  walk_at "start"
  unfold t_law
  walk_at "st"
  refine v_lenL hS ?_
  walk_at "st"
  rw [List.length_map]
  refine ⟨_, rfl, by split <;> split <;> omega, by split <;> split <;> omega, ?_⟩
  refine for_it walk_range (fun i σ H' => (∃ x1 x2 x3 x4 x5 x6 x7 x8 x9 x10 x11, σ = [some (.ref a), x1, x2, x3, x4, x5, x6, x7, x8, x9, x10, x11]) ∧ Same H H')
    ⟨⟨_, _, _, _, _, _, _, _, _, _, _, rfl⟩, Same.refl _⟩ (fun _ _ _ _ _ => trivial) ?_ ?_
  · rintro i x σ _ H2 hi ⟨⟨y1, y2, y3, y4, y5, y6, y7, y8, y9, y10, y11, rfl⟩, s2⟩ ⟨rfl, rfl⟩
    have hk : (0 : Int) + (i : Int) < 100 := by
      have : i < (if (if (ns.length : Int) < 6 then (ns.length : Int) else 6) > 2 then (if (ns.length : Int) < 6 then (ns.length : Int) else 6) else 2).toNat := hi
      split at this <;> split at this <;> omega
    walk_at "st"
    unfold t_law_f3
    walk_at "st"
    refine ⟨a, ns, _, rfl, s2.seq hS, hl, by omega, hk, fun H3 b s3 hbn hb => ?_⟩
    walk_at "st"
    refine ⟨4, rfl, by decide, by decide, ?_⟩
    refine for_it walk_range (fun i σ H' => (∃ x1 x3 x4 x5 x6 x7 x8 x9 x10 x11, σ = [some (.ref a), x1, some (.ref b), x3, x4, x5, x6, x7, x8, x9, x10, x11]) ∧ Fr [b] H3 H' ∧ Bag H' b)
      ⟨⟨_, _, _, _, _, _, _, _, _, _, rfl⟩, Fr.refl, hb⟩ (fun _ _ _ _ _ => trivial) ?_ ?_
    · rintro j x σ _ H4 hj ⟨⟨w1, w3, w4, w5, w6, w7, w8, w9, w10, w11, rfl⟩, f4, b4⟩ ⟨rfl, rfl⟩
      walk_at "st"
      exact f2_ok51 ⟨_, _, _, _, _, _, _, _, _, _, rfl⟩ b4 fun σ' H' hs f b' => ⟨hs, f4.trans f, b'⟩
    · rintro σ H4 ⟨⟨w1, w3, w4, w5, w6, w7, w8, w9, w10, w11, rfl⟩, f4, b4⟩
      exact ⟨⟨_, _, _, _, _, _, _, _, _, _, _, rfl⟩, s2.trans (fr_fresh s3 hbn f4)⟩
  · rintro σ H2 ⟨⟨y1, y2, y3, y4, y5, y6, y7, y8, y9, y10, y11, rfl⟩, s2⟩
    walk_at "st"
    exact q _
end
end RB
namespace RB
open PySem PySem.Spec PyProof.Rows L2
def topS (i : Nat) : Stmt := PySem.Challenge.pw_ringlists_k51_paths.main.body.getD i (.Pass ⟨0, 0, 0, 0⟩)
abbrev s_BadItem_init : Stmt := inClass (topS 3) 0
theorem sc_BadItem_init : FnScope ["self", "item"] ["self", "item"] (defScope s_BadItem_init) := ⟨rfl, rfl, rfl, by decide +kernel, rfl, by decide +kernel, by decide +kernel⟩
abbrev s_Full_init : Stmt := inClass (topS 5) 0
theorem sc_Full_init : FnScope ["self", "most"] ["self", "most"] (defScope s_Full_init) := ⟨rfl, rfl, rfl, by decide +kernel, rfl, by decide +kernel, by decide +kernel⟩
abbrev s_Heap_len : Stmt := inClass (topS 20) 5
theorem sc_Heap_len : FnScope ["self", "one", "item"] ["self"] (defScope s_Heap_len) := ⟨rfl, rfl, rfl, by decide +kernel, rfl, by decide +kernel, by decide +kernel⟩
abbrev s_Heap_need_room : Stmt := inClass (topS 20) 12
theorem sc_Heap_need_room : FnScope ["self", "boxes", "items"] ["self", "boxes", "items"] (defScope s_Heap_need_room) := ⟨rfl, rfl, rfl, by decide +kernel, rfl, by decide +kernel, by decide +kernel⟩
abbrev s_is_integer : Stmt := topS 10
theorem sc_is_integer : FnScope ["thing"] ["thing"] (defScope s_is_integer) := ⟨rfl, rfl, rfl, by decide +kernel, rfl, by decide +kernel, by decide +kernel⟩
abbrev s_is_word : Stmt := topS 12
theorem sc_is_word : FnScope ["thing", "sign"] ["thing"] (defScope s_is_word) := ⟨rfl, rfl, rfl, by decide +kernel, rfl, by decide +kernel, by decide +kernel⟩
abbrev s_is_leaf : Stmt := topS 13
theorem sc_is_leaf : FnScope ["thing"] ["thing"] (defScope s_is_leaf) := ⟨rfl, rfl, rfl, by decide +kernel, rfl, by decide +kernel, by decide +kernel⟩
abbrev s_is_within : Stmt := topS 11
theorem sc_is_within : FnScope ["thing", "low", "high"] ["thing", "low", "high"] (defScope s_is_within) := ⟨rfl, rfl, rfl, by decide +kernel, rfl, by decide +kernel, by decide +kernel⟩
abbrev s_is_reference : Stmt := topS 14
theorem sc_is_reference : FnScope ["thing", "size"] ["thing", "size"] (defScope s_is_reference) := ⟨rfl, rfl, rfl, by decide +kernel, rfl, by decide +kernel, by decide +kernel⟩
abbrev s_is_item : Stmt := topS 15
theorem sc_is_item : FnScope ["thing", "size"] ["thing", "size"] (defScope s_is_item) := ⟨rfl, rfl, rfl, by decide +kernel, rfl, by decide +kernel, by decide +kernel⟩
abbrev s_Heap_init : Stmt := inClass (topS 20) 2
theorem sc_Heap_init : FnScope ["self", "contents", "one", "item"] ["self", "contents"] (defScope s_Heap_init) := ⟨rfl, rfl, rfl, by decide +kernel, rfl, by decide +kernel, by decide +kernel⟩
abbrev s_Heap_of : Stmt := inClass (topS 20) 3
theorem sc_Heap_of : FnScope ["cls", "contents"] ["cls", "contents"] (defScope s_Heap_of) := ⟨rfl, rfl, rfl, by decide +kernel, rfl, by decide +kernel, by decide +kernel⟩
abbrev s_Heap_contains : Stmt := inClass (topS 20) 7
theorem sc_Heap_contains : FnScope ["self", "number"] ["self", "number"] (defScope s_Heap_contains) := ⟨rfl, rfl, rfl, by decide +kernel, rfl, by decide +kernel, by decide +kernel⟩
abbrev s_NoBox_init : Stmt := inClass (topS 4) 0
theorem sc_NoBox_init : FnScope ["self", "number"] ["self", "number"] (defScope s_NoBox_init) := ⟨rfl, rfl, rfl, by decide +kernel, rfl, by decide +kernel, by decide +kernel⟩
abbrev s_Heap_need_box : Stmt := inClass (topS 20) 9
theorem sc_Heap_need_box : FnScope ["self", "number"] ["self", "number"] (defScope s_Heap_need_box) := ⟨rfl, rfl, rfl, by decide +kernel, rfl, by decide +kernel, by decide +kernel⟩
abbrev s_Heap_look : Stmt := inClass (topS 20) 19
theorem sc_Heap_look : FnScope ["self", "box"] ["self", "box"] (defScope s_Heap_look) := ⟨rfl, rfl, rfl, by decide +kernel, rfl, by decide +kernel, by decide +kernel⟩
abbrev s_is_box : Stmt := topS 16
theorem sc_is_box : FnScope ["item"] ["item"] (defScope s_is_box) := ⟨rfl, rfl, rfl, by decide +kernel, rfl, by decide +kernel, by decide +kernel⟩
abbrev s_item_at : Stmt := topS 18
theorem sc_item_at : FnScope ["heap", "box", "path", "item", "place", "items"] ["heap", "box", "path"] (defScope s_item_at) := ⟨rfl, rfl, rfl, by decide +kernel, rfl, by decide +kernel, by decide +kernel⟩
abbrev s_law_at : Stmt := topS 26
theorem sc_law_at : FnScope ["_law_contents_here", "_law_start", "_law_way", "_law_item", "_law_place"] ["_law_contents_here", "_law_start", "_law_way"] (defScope s_law_at) := ⟨rfl, rfl, rfl, by decide +kernel, rfl, by decide +kernel, by decide +kernel⟩
abbrev s_law_bag : Stmt := topS 22
theorem sc_law_bag : FnScope ["_law_script", "_law_at_here", "_law_primes", "_law_cell", "_law_large", "_law_mixed"] ["_law_script", "_law_at_here"] (defScope s_law_bag) := ⟨rfl, rfl, rfl, by decide +kernel, rfl, by decide +kernel, by decide +kernel⟩
abbrev s_law_take : Stmt := topS 23
theorem sc_law_take : FnScope ["_law_bag_here", "_law_size", "_law_digit"] ["_law_bag_here", "_law_size"] (defScope s_law_take) := ⟨rfl, rfl, rfl, by decide +kernel, rfl, by decide +kernel, by decide +kernel⟩
abbrev s_law_leaf : Stmt := topS 24
theorem sc_law_leaf : FnScope ["_law_bag_here", "_law_some"] ["_law_bag_here"] (defScope s_law_leaf) := ⟨rfl, rfl, rfl, by decide +kernel, rfl, by decide +kernel, by decide +kernel⟩
abbrev s_law_contents : Stmt := topS 25
theorem sc_law_contents : FnScope ["_law_bag_here", "_law_size", "_law_most", "_law_found", "_law_turn", "_law_items", "_law_place"] ["_law_bag_here", "_law_size", "_law_most"] (defScope s_law_contents) := ⟨rfl, rfl, rfl, by decide +kernel, rfl, by decide +kernel, by decide +kernel⟩
abbrev s_law_path : Stmt := topS 27
theorem sc_law_path : FnScope ["_law_bag_here", "_law_contents_here", "_law_start", "_law_way", "_law_item", "_law_turn", "_law_size", "_law_place"] ["_law_bag_here", "_law_contents_here", "_law_start"] (defScope s_law_path) := ⟨rfl, rfl, rfl, by decide +kernel, rfl, by decide +kernel, by decide +kernel⟩
abbrev s_law_why : Stmt := topS 28
theorem sc_law_why : FnScope ["_law_book", "_law_thing", "e"] ["_law_book", "_law_thing"] (defScope s_law_why) := ⟨rfl, rfl, rfl, by decide +kernel, rfl, by decide +kernel, by decide +kernel⟩
abbrev s_law : Stmt := topS 29
theorem sc_law : FnScope ["_law_script", "_law_k", "_law_bag_here", "_law_turn", "_law_size", "_law_rows", "_law_book", "_law_again", "_law_spot", "_law_way", "_law_due", "_law_odd"] ["_law_script"] (defScope s_law) := ⟨rfl, rfl, rfl, by decide +kernel, rfl, by decide +kernel, by decide +kernel⟩
structure Txt (K : PySem.W.Frag) (mg : Str → Option Value) (c : Ads) where
  f_BadItem_init : Addr
  d_BadItem_init : FuncData
  f_Full_init : Addr
  d_Full_init : FuncData
  f_Heap_len : Addr
  d_Heap_len : FuncData
  f_Heap_need_room : Addr
  d_Heap_need_room : FuncData
  f_is_integer : Addr
  d_is_integer : FuncData
  f_is_word : Addr
  d_is_word : FuncData
  f_is_leaf : Addr
  d_is_leaf : FuncData
  f_is_within : Addr
  d_is_within : FuncData
  f_is_reference : Addr
  d_is_reference : FuncData
  f_is_item : Addr
  d_is_item : FuncData
  f_Heap_init : Addr
  d_Heap_init : FuncData
  f_Heap_of : Addr
  d_Heap_of : FuncData
  p_Heap_of : Addr
  f_Heap_contains : Addr
  d_Heap_contains : FuncData
  f_NoBox_init : Addr
  d_NoBox_init : FuncData
  f_Heap_need_box : Addr
  d_Heap_need_box : FuncData
  f_Heap_look : Addr
  d_Heap_look : FuncData
  f_is_box : Addr
  d_is_box : FuncData
  f_item_at : Addr
  d_item_at : FuncData
  f_law_at : Addr
  d_law_at : FuncData
  f_law_bag : Addr
  d_law_bag : FuncData
  f_law_take : Addr
  d_law_take : FuncData
  f_law_leaf : Addr
  d_law_leaf : FuncData
  f_law_contents : Addr
  d_law_contents : FuncData
  f_law_path : Addr
  d_law_path : FuncData
  f_law_why : Addr
  d_law_why : FuncData
  f_law : Addr
  d_law : FuncData
  g_BadItem : mg "BadItem" = some (.ref c.BadItem)
  g_Full : mg "Full" = some (.ref c.Full)
  g_Heap : mg "Heap" = some (.ref c.Heap)
  g_NoBox : mg "NoBox" = some (.ref c.NoBox)
  g_RingError : mg "RingError" = some (.ref c.RingError)
  cl_Heap : Cls K c.Heap
  cr_Heap : ClX.CRead K c.Heap (.type "type")
  g_BOX : ∃ t, mg "BOX" = some (.str "box" t)
  g_LETTERS : ∃ t, mg "LETTERS" = some (.str "abcdefghijklmnopqrstuvwxyz" t)
  g_MOST_LETTERS : ∃ t, mg "MOST_LETTERS" = some (.int 8 t)
  n_LookupError : mg "LookupError" = none
  n_OverflowError : mg "OverflowError" = none
  n_abs : mg "abs" = none
  n_all : mg "all" = none
  n_bool : mg "bool" = none
  n_int : mg "int" = none
  n_isinstance : mg "isinstance" = none
  n_len : mg "len" = none
  n_list : mg "list" = none
  n_max : mg "max" = none
  n_min : mg "min" = none
  n_range : mg "range" = none
  n_repr : mg "repr" = none
  n_str : mg "str" = none
  n_tuple : mg "tuple" = none
  rr_RingError : ClX.CRead K c.RingError (.type "type")
  F_BadItem_init : Fun K "__init__" "BadItem.__init__" s_BadItem_init f_BadItem_init d_BadItem_init
  ic_BadItem : PySem.W.findIn K (.ref c.BadItem) "__init__" = some (some (.ref f_BadItem_init))
  ti_BadItem : PySem.W.typeIn K (.ref f_BadItem_init) = some (.type "function")
  F_Full_init : Fun K "__init__" "Full.__init__" s_Full_init f_Full_init d_Full_init
  ic_Full : PySem.W.findIn K (.ref c.Full) "__init__" = some (some (.ref f_Full_init))
  ti_Full : PySem.W.typeIn K (.ref f_Full_init) = some (.type "function")
  F_Heap_len : Fun K "__len__" "Heap.__len__" s_Heap_len f_Heap_len d_Heap_len
  m_Heap_len : Meth K c.Heap "__len__" f_Heap_len
  F_Heap_need_room : Fun K "need_room" "Heap.need_room" s_Heap_need_room f_Heap_need_room d_Heap_need_room
  m_Heap_need_room : Meth K c.Heap "need_room" f_Heap_need_room
  F_is_integer : Fun K "is_integer" "is_integer" s_is_integer f_is_integer d_is_integer
  g_is_integer : mg "is_integer" = some (.ref f_is_integer)
  k_is_integer : PySem.W.keepIn K (.ref f_is_integer) = true
  F_is_word : Fun K "is_word" "is_word" s_is_word f_is_word d_is_word
  g_is_word : mg "is_word" = some (.ref f_is_word)
  k_is_word : PySem.W.keepIn K (.ref f_is_word) = true
  F_is_leaf : Fun K "is_leaf" "is_leaf" s_is_leaf f_is_leaf d_is_leaf
  g_is_leaf : mg "is_leaf" = some (.ref f_is_leaf)
  k_is_leaf : PySem.W.keepIn K (.ref f_is_leaf) = true
  F_is_within : Fun K "is_within" "is_within" s_is_within f_is_within d_is_within
  g_is_within : mg "is_within" = some (.ref f_is_within)
  k_is_within : PySem.W.keepIn K (.ref f_is_within) = true
  F_is_reference : Fun K "is_reference" "is_reference" s_is_reference f_is_reference d_is_reference
  g_is_reference : mg "is_reference" = some (.ref f_is_reference)
  k_is_reference : PySem.W.keepIn K (.ref f_is_reference) = true
  F_is_item : Fun K "is_item" "is_item" s_is_item f_is_item d_is_item
  g_is_item : mg "is_item" = some (.ref f_is_item)
  k_is_item : PySem.W.keepIn K (.ref f_is_item) = true
  F_Heap_init : Fun K "__init__" "Heap.__init__" s_Heap_init f_Heap_init d_Heap_init
  mk_Heap : Mk K c.Heap f_Heap_init
  F_Heap_of : Fun K "of" "Heap.of" s_Heap_of f_Heap_of d_Heap_of
  cm_Heap_of : ClX.CMet K c.Heap (.type "type") "of" p_Heap_of f_Heap_of
  F_Heap_contains : Fun K "__contains__" "Heap.__contains__" s_Heap_contains f_Heap_contains d_Heap_contains
  m_Heap_contains : Meth K c.Heap "__contains__" f_Heap_contains
  F_NoBox_init : Fun K "__init__" "NoBox.__init__" s_NoBox_init f_NoBox_init d_NoBox_init
  ic_NoBox : PySem.W.findIn K (.ref c.NoBox) "__init__" = some (some (.ref f_NoBox_init))
  ti_NoBox : PySem.W.typeIn K (.ref f_NoBox_init) = some (.type "function")
  F_Heap_need_box : Fun K "need_box" "Heap.need_box" s_Heap_need_box f_Heap_need_box d_Heap_need_box
  m_Heap_need_box : Meth K c.Heap "need_box" f_Heap_need_box
  F_Heap_look : Fun K "look" "Heap.look" s_Heap_look f_Heap_look d_Heap_look
  m_Heap_look : Meth K c.Heap "look" f_Heap_look
  F_is_box : Fun K "is_box" "is_box" s_is_box f_is_box d_is_box
  g_is_box : mg "is_box" = some (.ref f_is_box)
  k_is_box : PySem.W.keepIn K (.ref f_is_box) = true
  F_item_at : Fun K "item_at" "item_at" s_item_at f_item_at d_item_at
  g_item_at : mg "item_at" = some (.ref f_item_at)
  k_item_at : PySem.W.keepIn K (.ref f_item_at) = true
  F_law_at : Fun K "_law_at" "_law_at" s_law_at f_law_at d_law_at
  g_law_at : mg "_law_at" = some (.ref f_law_at)
  k_law_at : PySem.W.keepIn K (.ref f_law_at) = true
  F_law_bag : Fun K "_law_bag" "_law_bag" s_law_bag f_law_bag d_law_bag
  g_law_bag : mg "_law_bag" = some (.ref f_law_bag)
  k_law_bag : PySem.W.keepIn K (.ref f_law_bag) = true
  F_law_take : Fun K "_law_take" "_law_take" s_law_take f_law_take d_law_take
  g_law_take : mg "_law_take" = some (.ref f_law_take)
  k_law_take : PySem.W.keepIn K (.ref f_law_take) = true
  F_law_leaf : Fun K "_law_leaf" "_law_leaf" s_law_leaf f_law_leaf d_law_leaf
  g_law_leaf : mg "_law_leaf" = some (.ref f_law_leaf)
  k_law_leaf : PySem.W.keepIn K (.ref f_law_leaf) = true
  F_law_contents : Fun K "_law_contents" "_law_contents" s_law_contents f_law_contents d_law_contents
  g_law_contents : mg "_law_contents" = some (.ref f_law_contents)
  k_law_contents : PySem.W.keepIn K (.ref f_law_contents) = true
  F_law_path : Fun K "_law_path" "_law_path" s_law_path f_law_path d_law_path
  g_law_path : mg "_law_path" = some (.ref f_law_path)
  k_law_path : PySem.W.keepIn K (.ref f_law_path) = true
  F_law_why : Fun K "_law_why" "_law_why" s_law_why f_law_why d_law_why
  g_law_why : mg "_law_why" = some (.ref f_law_why)
  k_law_why : PySem.W.keepIn K (.ref f_law_why) = true
  F_law : Fun K "law" "law" s_law f_law d_law
  g_law : mg "law" = some (.ref f_law)
  k_law : PySem.W.keepIn K (.ref f_law) = true
  ek_BadItem : ExK K c.BadItem "ValueError" "ValueError.__new__" "ValueError.__init__" [.type "ValueError", .type "Exception", .type "BaseException", .type "object"]
  no_BadItem : PySem.W.findIn K (.ref c.BadItem) "item" = some none
  vv_BadItem : PySem.W.findCls K (.ref c.RingError) (.type "type") "__init__" = some (.val (.builtin "ValueError.__init__"))
  hh_BadItem : PySem.W.handedIn (.builtin "ValueError.__init__") = true
  ek_Full : ExK K c.Full "OverflowError" "OverflowError.__new__" "OverflowError.__init__" [.type "OverflowError", .type "ArithmeticError", .type "Exception", .type "BaseException", .type "object"]
  no_Full : PySem.W.findIn K (.ref c.Full) "most" = some none
  vv_Full : PySem.W.findCls K (.type "OverflowError") (.type "type") "__init__" = some (.val (.builtin "OverflowError.__init__"))
  hh_Full : PySem.W.handedIn (.builtin "OverflowError.__init__") = true
  ek_NoBox : ExK K c.NoBox "LookupError" "LookupError.__new__" "LookupError.__init__" [.type "LookupError", .type "Exception", .type "BaseException", .type "object"]
  no_NoBox : PySem.W.findIn K (.ref c.NoBox) "number" = some none
  vv_NoBox : PySem.W.findCls K (.type "LookupError") (.type "type") "__init__" = some (.val (.builtin "LookupError.__init__"))
  hh_NoBox : PySem.W.handedIn (.builtin "LookupError.__init__") = true
  xf_NoBox : XfC K c.NoBox
  fKHeap : KHeap K c
  fKMost : KMost K c
  fKWhy : KWhy K c
section
variable {P : Program} {w : World} {K : PySem.W.Frag} {mg : Str → Option Value} {base : Heap} {c : Ads}
theorem b_BadItem_init (T : Txt K mg c) : Binds K T.d_BadItem_init ["self", "item"] [] := T.F_BadItem_init.binds (ps := ["self", "item"]) fun _ _ _ _ _ _ us hl => match us, hl with | [_, _], _ => rfl
theorem ok_BadItem_init (T : Txt K mg c) : FnOk P w K mg base CX0 1 T.f_BadItem_init T.d_BadItem_init ["self", "item"] (sp_BadItem_init K c) := by
  refine T.F_BadItem_init.ok sc_BadItem_init (fun vs H Q E h => by repeat (first | (obtain ⟨rfl, _⟩ := h; rfl) | (obtain ⟨_, h⟩ := h))) (fun cdv A outer s H vs Q E hr h => ⟨t_BadItem_init K c E, ?_, pure_BadItem_init  vs H Q E h⟩)
  exact (pss_cons (ps_expr (pe_exinit_own T.ek_BadItem rfl T.g_RingError T.rr_RingError T.vv_BadItem T.hh_BadItem (pa_cons (pv 0) (pa_cons pe_str pa_nil))))
  (pss_one (ps_exset T.ek_BadItem T.no_BadItem (pv 0) (pv 1))))
theorem b_Full_init (T : Txt K mg c) : Binds K T.d_Full_init ["self", "most"] [] := T.F_Full_init.binds (ps := ["self", "most"]) fun _ _ _ _ _ _ us hl => match us, hl with | [_, _], _ => rfl
theorem ok_Full_init (T : Txt K mg c) : FnOk P w K mg base CX0 1 T.f_Full_init T.d_Full_init ["self", "most"] (sp_Full_init K c) := by
  refine T.F_Full_init.ok sc_Full_init (fun vs H Q E h => by repeat (first | (obtain ⟨rfl, _⟩ := h; rfl) | (obtain ⟨_, h⟩ := h))) (fun cdv A outer s H vs Q E hr h => ⟨t_Full_init K c E, ?_, pure_Full_init  vs H Q E h⟩)
  exact (pss_cons (ps_expr (pe_exinit_bt T.ek_Full rfl T.n_OverflowError rfl rfl rfl T.vv_Full T.hh_Full (pa_cons (pv 0) (pa_cons pe_str pa_nil))))
  (pss_one (ps_exset T.ek_Full T.no_Full (pv 0) (pv 1))))
theorem b_Heap_len (T : Txt K mg c) : Binds K T.d_Heap_len ["self"] [] := T.F_Heap_len.binds (ps := ["self"]) fun _ _ _ _ _ _ us hl => match us, hl with | [_], _ => rfl
theorem ok_Heap_len (T : Txt K mg c) : FnOk P w K mg base CX0 1 T.f_Heap_len T.d_Heap_len ["self"] (sp_Heap_len K c) := by
  refine T.F_Heap_len.ok sc_Heap_len (fun vs H Q E h => by repeat (first | (obtain ⟨rfl, _⟩ := h; rfl) | (obtain ⟨_, h⟩ := h))) (fun cdv A outer s H vs Q E hr h => ⟨t_Heap_len K c E, ?_, pure_Heap_len T.fKHeap vs H Q E h⟩)
  exact (pss_one (ps_ret (pe_callB call_lenU (by rfl) T.n_len (by decide +kernel) (pa_cons (pe_lc2 (own := [("one", 1), ("item", 2)]) (vs1 := [2]) (g := gName 1) (tt := tYes) (g1 := gName 2) (tt1 := tYes) rfl sc_Heap_len.nd (pi_any (pe_fld (pv 0) rfl)) (blkOk_by (own := [("one", 1), ("item", 2)]) (N := ["self", "one", "item"]) (sc := (defScope s_Heap_len)) (by decide +kernel)) (by decide) (fun _ _ _ _ _ => pg_name (i := 1) sc_Heap_len.nd rfl (Or.inl rfl)) (fun _ _ _ _ _ => pts_nil) (fun _ _ _ _ _ => (pi_any (pv 1))) (fun _ _ _ _ _ => pg_name (i := 2) sc_Heap_len.nd rfl (Or.inl rfl)) (fun _ _ _ _ _ => pts_nil) (fun _ _ _ _ _ => (pv 2))) pa_nil))))
theorem b_Heap_need_room (T : Txt K mg c) : Binds K T.d_Heap_need_room ["self", "boxes", "items"] [] := T.F_Heap_need_room.binds (ps := ["self", "boxes", "items"]) fun _ _ _ _ _ _ us hl => match us, hl with | [_, _, _], _ => rfl
theorem ok_Heap_need_room (T : Txt K mg c) : FnOk P w K mg base (L2.CX P w) 3 T.f_Heap_need_room T.d_Heap_need_room ["self", "boxes", "items"] (sp_Heap_need_room K c) := by
  refine T.F_Heap_need_room.okX sc_Heap_need_room (fun vs H Q E h => by repeat (first | (obtain ⟨rfl, _⟩ := h; rfl) | (obtain ⟨_, h⟩ := h))) (fun cdv A outer s H vs Q E hr h => ⟨t_Heap_need_room K c E, ?_, pure_Heap_need_room T.fKHeap T.fKMost vs H Q E h⟩)
  exact (pss_cons (ps_if (pt_cmpR op_gtU (pe_op op_addU (pe_callB call_lenU (by rfl) T.n_len (by decide +kernel) (pa_cons (pe_fld (pv 0) rfl) pa_nil)) (pv 1)) (ClX.pe_cval (pe_gr rfl T.g_Heap)) (nomark _)) (pss_one (ps_raise rfl (takes_of rfl rfl rfl rfl) (pmk_ex T.ek_Full T.ic_Full T.ti_Full (ok_Full_init T) (hr.mono (by decide)) (b_Full_init T) pass0 rfl T.g_Full (pa_cons (ClX.pe_cval (pe_gr rfl T.g_Heap)) pa_nil)))) pss_nil)
  (pss_one (ps_if (pt_cmpR op_gtU (pe_op op_addU (pe_callB (call_lenO (ok_Heap_len T) (hr.mono (by decide)) (b_Heap_len T) pass0 T.m_Heap_len.at_ T.m_Heap_len.fn) (by rfl) T.n_len (by decide +kernel) (pa_cons (pv 0) pa_nil)) (pv 2)) (ClX.pe_cval (pe_gr rfl T.g_Heap)) (nomark _)) (pss_one (ps_raise rfl (takes_of rfl rfl rfl rfl) (pmk_ex T.ek_Full T.ic_Full T.ti_Full (ok_Full_init T) (hr.mono (by decide)) (b_Full_init T) pass0 rfl T.g_Full (pa_cons (ClX.pe_cval (pe_gr rfl T.g_Heap)) pa_nil)))) pss_nil)))
theorem b_is_integer (T : Txt K mg c) : Binds K T.d_is_integer ["thing"] [] := T.F_is_integer.binds (ps := ["thing"]) fun _ _ _ _ _ _ us hl => match us, hl with | [_], _ => rfl
theorem ok_is_integer (T : Txt K mg c) : FnOk P w K mg base CX0 1 T.f_is_integer T.d_is_integer ["thing"] (sp_is_integer K c) := by
  refine T.F_is_integer.ok sc_is_integer (fun vs H Q E h => by repeat (first | (obtain ⟨rfl, _⟩ := h; rfl) | (obtain ⟨_, h⟩ := h))) (fun cdv A outer s H vs Q E hr h => ⟨t_is_integer K c E, ?_, pure_is_integer  vs H Q E h⟩)
  exact (pss_one (ps_ret (pe_and (pe_callB call_isi (by rfl) T.n_isinstance (by decide +kernel) (pa_cons (pv 0) (pa_cons (pe_bltn (by rfl) T.n_int (by decide +kernel) rfl) pa_nil))) (pe_one (pe_not (pe_callB call_isi (by rfl) T.n_isinstance (by decide +kernel) (pa_cons (pv 0) (pa_cons (pe_bltn (by rfl) T.n_bool (by decide +kernel) rfl) pa_nil))))))))
theorem b_is_word (T : Txt K mg c) : Binds K T.d_is_word ["thing"] [] := T.F_is_word.binds (ps := ["thing"]) fun _ _ _ _ _ _ us hl => match us, hl with | [_], _ => rfl
theorem ok_is_word (T : Txt K mg c) : FnOk P w K mg base CX0 1 T.f_is_word T.d_is_word ["thing"] (sp_is_word K c) := by
  refine T.F_is_word.ok sc_is_word (fun vs H Q E h => by repeat (first | (obtain ⟨rfl, _⟩ := h; rfl) | (obtain ⟨_, h⟩ := h))) (fun cdv A outer s H vs Q E hr h => ⟨t_is_word K c E, ?_, pure_is_word  vs H Q E h⟩)
  exact (pss_one (ps_ret (pe_and (pe_callB call_isi (by rfl) T.n_isinstance (by decide +kernel) (pa_cons (pv 0) (pa_cons (pe_bltn (by rfl) T.n_str (by decide +kernel) rfl) pa_nil))) (pe_and (pe_cmpR op_leU (pe_callB call_lenU (by rfl) T.n_len (by decide +kernel) (pa_cons (pv 0) pa_nil)) (pe_gi rfl T.g_MOST_LETTERS) (nomark _)) (pe_one (pe_callB (cr_all rfl) (by rfl) T.n_all (by decide +kernel) (pa_cons (pe_lc (own := [("sign", 1)]) (g := gName 1) (tt := tYes) rfl sc_is_word.nd (pi_any (pv 0)) (blkOk_by (own := [("sign", 1)]) (N := ["thing", "sign"]) (sc := (defScope s_is_word)) (by decide +kernel)) (fun _ _ _ _ _ => pg_name (i := 1) sc_is_word.nd rfl (Or.inl rfl)) (fun _ _ _ _ _ => pts_nil) (fun _ _ _ _ _ => (pe_cmpR op_inU (pv 1) (pe_gs rfl T.g_LETTERS) (by rfl)))) pa_nil)))))))
theorem b_is_leaf (T : Txt K mg c) : Binds K T.d_is_leaf ["thing"] [] := T.F_is_leaf.binds (ps := ["thing"]) fun _ _ _ _ _ _ us hl => match us, hl with | [_], _ => rfl
theorem ok_is_leaf (T : Txt K mg c) : FnOk P w K mg base CX0 2 T.f_is_leaf T.d_is_leaf ["thing"] (sp_is_leaf K c) := by
  refine T.F_is_leaf.ok sc_is_leaf (fun vs H Q E h => by repeat (first | (obtain ⟨rfl, _⟩ := h; rfl) | (obtain ⟨_, h⟩ := h))) (fun cdv A outer s H vs Q E hr h => ⟨t_is_leaf K c E, ?_, pure_is_leaf  vs H Q E h⟩)
  exact (pss_one (ps_ret (pe_or (pe_cl (pe_call (ok_is_integer T) (hr.mono (by decide)) rfl T.g_is_integer T.k_is_integer (b_is_integer T) .nil pass0 (pa_cons (pv 0) pa_nil))) (pe_one (pe_cl (pe_call (ok_is_word T) (hr.mono (by decide)) rfl T.g_is_word T.k_is_word (b_is_word T) .nil pass0 (pa_cons (pv 0) pa_nil)))))))
theorem b_is_within (T : Txt K mg c) : Binds K T.d_is_within ["thing", "low", "high"] [] := T.F_is_within.binds (ps := ["thing", "low", "high"]) fun _ _ _ _ _ _ us hl => match us, hl with | [_, _, _], _ => rfl
theorem ok_is_within (T : Txt K mg c) : FnOk P w K mg base CX0 2 T.f_is_within T.d_is_within ["thing", "low", "high"] (sp_is_within K c) := by
  refine T.F_is_within.ok sc_is_within (fun vs H Q E h => by repeat (first | (obtain ⟨rfl, _⟩ := h; rfl) | (obtain ⟨_, h⟩ := h))) (fun cdv A outer s H vs Q E hr h => ⟨t_is_within K c E, ?_, pure_is_within  vs H Q E h⟩)
  exact (pss_one (ps_ret (pe_and (pe_cl (pe_call (ok_is_integer T) (hr.mono (by decide)) rfl T.g_is_integer T.k_is_integer (b_is_integer T) .nil pass0 (pa_cons (pv 0) pa_nil))) (pe_one (pe_chain op_leU op_leU (pv 1) (pv 0) (pv 2))))))
theorem b_is_reference (T : Txt K mg c) : Binds K T.d_is_reference ["thing", "size"] [] := T.F_is_reference.binds (ps := ["thing", "size"]) fun _ _ _ _ _ _ us hl => match us, hl with | [_, _], _ => rfl
theorem ok_is_reference (T : Txt K mg c) : FnOk P w K mg base CX0 3 T.f_is_reference T.d_is_reference ["thing", "size"] (sp_is_reference K c) := by
  refine T.F_is_reference.ok sc_is_reference (fun vs H Q E h => by repeat (first | (obtain ⟨rfl, _⟩ := h; rfl) | (obtain ⟨_, h⟩ := h))) (fun cdv A outer s H vs Q E hr h => ⟨t_is_reference K c E, ?_, pure_is_reference  vs H Q E h⟩)
  exact (pss_cons (ps_if (PW.pt (pw_or (pt_not (pt_val (pe_callB call_isi (by rfl) T.n_isinstance (by decide +kernel) (pa_cons (pv 0) (pa_cons (pe_bltn (by rfl) T.n_tuple (by decide +kernel) rfl) pa_nil))))) (pw_or (pt_cmpR (op_neU (u64 hr)) (pe_callB call_lenU (by rfl) T.n_len (by decide +kernel) (pa_cons (pv 0) pa_nil)) pe_int (nomark _)) (pw_or (pt_not (pt_val (pe_callB call_isi (by rfl) T.n_isinstance (by decide +kernel) (pa_cons (pe_ix ix_seq (pv 0) pe_int (fun _ _ => rfl)) (pa_cons (pe_bltn (by rfl) T.n_str (by decide +kernel) rfl) pa_nil))))) (pw_or1 (pt_cmpR (op_neU (u64 hr)) (pe_ix ix_seq (pv 0) pe_int (fun _ _ => rfl)) (pe_gs rfl T.g_BOX) (nomark _))))))) (pss_one (ps_ret pe_bl)) pss_nil)
  (pss_one (ps_ret (pe_cl (pe_call (ok_is_within T) (hr.mono (by decide)) rfl T.g_is_within T.k_is_within (b_is_within T) .nil pass0 (pa_cons (pe_ix ix_seq (pv 0) pe_int (fun _ _ => rfl)) (pa_cons pe_int (pa_cons (pe_op op_subU (pv 1) pe_int) pa_nil))))))))
theorem b_is_item (T : Txt K mg c) : Binds K T.d_is_item ["thing", "size"] [] := T.F_is_item.binds (ps := ["thing", "size"]) fun _ _ _ _ _ _ us hl => match us, hl with | [_, _], _ => rfl
theorem ok_is_item (T : Txt K mg c) : FnOk P w K mg base CX0 4 T.f_is_item T.d_is_item ["thing", "size"] (sp_is_item K c) := by
  refine T.F_is_item.ok sc_is_item (fun vs H Q E h => by repeat (first | (obtain ⟨rfl, _⟩ := h; rfl) | (obtain ⟨_, h⟩ := h))) (fun cdv A outer s H vs Q E hr h => ⟨t_is_item K c E, ?_, pure_is_item  vs H Q E h⟩)
  exact (pss_one (ps_ret (pe_or (pe_cl (pe_call (ok_is_leaf T) (hr.mono (by decide)) rfl T.g_is_leaf T.k_is_leaf (b_is_leaf T) .nil pass0 (pa_cons (pv 0) pa_nil))) (pe_one (pe_cl (pe_call (ok_is_reference T) (hr.mono (by decide)) rfl T.g_is_reference T.k_is_reference (b_is_reference T) .nil pass0 (pa_cons (pv 0) (pa_cons (pv 1) pa_nil))))))))
theorem ok_Heap_init (T : Txt K mg c) : FnR P w K mg base (L2.CX P w) 5 T.f_Heap_init (sp_Heap_init K c) := by
  refine okStar1 T.F_Heap_init sc_Heap_init (fun _ _ _ _ _ _ _ => rfl) (fun _ _ _ _ _ _ _ _ _ => rfl) (fun cdv A outer s H vs Q E hr h => ⟨t_Heap_init K c E, ?_, pure_Heap_init T.fKHeap vs H Q E h⟩)
  exact (pss_cons (ps_for (passes_of rfl) rfl (pi_any (pv 1)) (pg_name (i := 2) sc_Heap_init.nd rfl (Or.inl rfl)) (pss_cons (ps_if (pt_not (pt_val (pe_callB call_isi (by rfl) T.n_isinstance (by decide +kernel) (pa_cons (pv 2) (pa_cons (pe_bltn (by rfl) T.n_list (by decide +kernel) rfl) pa_nil))))) (pss_one (ps_raise rfl (takes_of rfl rfl rfl rfl) (pmk_ex T.ek_BadItem T.ic_BadItem T.ti_BadItem (ok_BadItem_init T) (hr.mono (by decide)) (b_BadItem_init T) pass0 rfl T.g_BadItem (pa_cons (pv 2) pa_nil)))) pss_nil)
  (pss_one (ps_for (passes_of rfl) rfl (pi_any (pv 2)) (pg_name (i := 3) sc_Heap_init.nd rfl (Or.inl rfl)) (pss_one (ps_if (pt_not (pt_val (pe_cl (pe_call (ok_is_item T) (hr.mono (by decide)) rfl T.g_is_item T.k_is_item (b_is_item T) .nil pass0 (pa_cons (pv 3) (pa_cons (pe_callB call_lenU (by rfl) T.n_len (by decide +kernel) (pa_cons (pv 1) pa_nil)) pa_nil)))))) (pss_one (ps_raise rfl (takes_of rfl rfl rfl rfl) (pmk_ex T.ek_BadItem T.ic_BadItem T.ti_BadItem (ok_BadItem_init T) (hr.mono (by decide)) (b_BadItem_init T) pass0 rfl T.g_BadItem (pa_cons (pv 3) pa_nil)))) pss_nil))))))
  (pss_cons (ps_fld (pv 0) (pe_lc (own := [("one", 2)]) (g := gName 2) (tt := tYes) rfl sc_Heap_init.nd (pi_any (pv 1)) (blkOk_by (own := [("one", 2)]) (N := ["self", "contents", "one", "item"]) (sc := (defScope s_Heap_init)) (by decide +kernel)) (fun _ _ _ _ _ => pg_name (i := 2) sc_Heap_init.nd rfl (Or.inl rfl)) (fun _ _ _ _ _ => pts_nil) (fun _ _ _ _ _ => (pe_callTy call_listU (by rfl) T.n_list (by decide +kernel) (pa_cons (pv 2) pa_nil)))) rfl)
  (pss_one (ps_expr (pe_mt (pe_meth (pv 0) T.cl_Heap T.m_Heap_need_room (ok_Heap_need_room T) (hr.mono (by decide)) (b_Heap_need_room T) .nil (passR rfl rfl rfl rfl) (pa_cons pe_int (pa_cons pe_int pa_nil))))))))
theorem b_Heap_of (T : Txt K mg c) : Binds K T.d_Heap_of ["cls", "contents"] [] := T.F_Heap_of.binds (ps := ["cls", "contents"]) fun _ _ _ _ _ _ us hl => match us, hl with | [_, _], _ => rfl
theorem ok_Heap_of (T : Txt K mg c) : FnR P w K mg base (L2.CX P w) 7 T.f_Heap_of (sp_Heap_of K c) := by
  refine fnr_of (ps := ["cls", "contents"]) (b_Heap_of T) (T.F_Heap_of.okX sc_Heap_of (fun vs H Q E h => by repeat (first | (obtain ⟨rfl, _⟩ := h; rfl) | (obtain ⟨_, h⟩ := h))) (fun cdv A outer s H vs Q E hr h => ⟨t_Heap_of K c E, ?_, pure_Heap_of  vs H Q E h⟩))
  exact (pss_one (ps_ret (pe_clsStar (pv 0) T.mk_Heap (ok_Heap_init T) (hr.mono (by decide)) (passR rfl rfl rfl rfl) (pv 1))))
theorem b_Heap_contains (T : Txt K mg c) : Binds K T.d_Heap_contains ["self", "number"] [] := T.F_Heap_contains.binds (ps := ["self", "number"]) fun _ _ _ _ _ _ us hl => match us, hl with | [_, _], _ => rfl
theorem ok_Heap_contains (T : Txt K mg c) : FnOk P w K mg base CX0 3 T.f_Heap_contains T.d_Heap_contains ["self", "number"] (sp_Heap_contains K c) := by
  refine T.F_Heap_contains.ok sc_Heap_contains (fun vs H Q E h => by repeat (first | (obtain ⟨rfl, _⟩ := h; rfl) | (obtain ⟨_, h⟩ := h))) (fun cdv A outer s H vs Q E hr h => ⟨t_Heap_contains K c E, ?_, pure_Heap_contains T.fKHeap vs H Q E h⟩)
  exact (pss_one (ps_ret (pe_cl (pe_call (ok_is_within T) (hr.mono (by decide)) rfl T.g_is_within T.k_is_within (b_is_within T) .nil pass0 (pa_cons (pv 1) (pa_cons pe_int (pa_cons (pe_op op_subU (pe_callB call_lenU (by rfl) T.n_len (by decide +kernel) (pa_cons (pe_fld (pv 0) rfl) pa_nil)) pe_int) pa_nil)))))))
theorem b_NoBox_init (T : Txt K mg c) : Binds K T.d_NoBox_init ["self", "number"] [] := T.F_NoBox_init.binds (ps := ["self", "number"]) fun _ _ _ _ _ _ us hl => match us, hl with | [_, _], _ => rfl
theorem ok_NoBox_init (T : Txt K mg c) : FnOk P w K mg base CX0 1 T.f_NoBox_init T.d_NoBox_init ["self", "number"] (sp_NoBox_init K c) := by
  refine T.F_NoBox_init.ok sc_NoBox_init (fun vs H Q E h => by repeat (first | (obtain ⟨rfl, _⟩ := h; rfl) | (obtain ⟨_, h⟩ := h))) (fun cdv A outer s H vs Q E hr h => ⟨t_NoBox_init K c E, ?_, pure_NoBox_init  vs H Q E h⟩)
  exact (pss_cons (ps_expr (pe_exinit_bt T.ek_NoBox rfl T.n_LookupError rfl rfl rfl T.vv_NoBox T.hh_NoBox (pa_cons (pv 0) (pa_cons pe_str pa_nil))))
  (pss_one (ps_exset T.ek_NoBox T.no_NoBox (pv 0) (pv 1))))
theorem b_Heap_need_box (T : Txt K mg c) : Binds K T.d_Heap_need_box ["self", "number"] [] := T.F_Heap_need_box.binds (ps := ["self", "number"]) fun _ _ _ _ _ _ us hl => match us, hl with | [_, _], _ => rfl
theorem ok_Heap_need_box (T : Txt K mg c) : FnOk P w K mg base (L2.CX P w) 4 T.f_Heap_need_box T.d_Heap_need_box ["self", "number"] (sp_Heap_need_box K c) := by
  refine T.F_Heap_need_box.okX sc_Heap_need_box (fun vs H Q E h => by repeat (first | (obtain ⟨rfl, _⟩ := h; rfl) | (obtain ⟨_, h⟩ := h))) (fun cdv A outer s H vs Q E hr h => ⟨t_Heap_need_box K c E, ?_, pure_Heap_need_box  vs H Q E h⟩)
  exact (pss_one (ps_if (pt_cmpR (op_notInO (ok_Heap_contains T) (hr.mono (by decide)) (b_Heap_contains T) pass0 T.m_Heap_contains.at_ T.m_Heap_contains.fn) (pv 1) (pv 0) (by rfl)) (pss_one (ps_raise rfl (takes_of rfl rfl rfl rfl) (pmk_ex T.ek_NoBox T.ic_NoBox T.ti_NoBox (ok_NoBox_init T) (hr.mono (by decide)) (b_NoBox_init T) pass0 rfl T.g_NoBox (pa_cons (pv 1) pa_nil)))) pss_nil))
theorem b_Heap_look (T : Txt K mg c) : Binds K T.d_Heap_look ["self", "box"] [] := T.F_Heap_look.binds (ps := ["self", "box"]) fun _ _ _ _ _ _ us hl => match us, hl with | [_, _], _ => rfl
theorem ok_Heap_look (T : Txt K mg c) : FnOk P w K mg base (L2.CX P w) 5 T.f_Heap_look T.d_Heap_look ["self", "box"] (sp_Heap_look K c) := by
  refine T.F_Heap_look.okX sc_Heap_look (fun vs H Q E h => by repeat (first | (obtain ⟨rfl, _⟩ := h; rfl) | (obtain ⟨_, h⟩ := h))) (fun cdv A outer s H vs Q E hr h => ⟨t_Heap_look K c E, ?_, pure_Heap_look T.fKHeap vs H Q E h⟩)
  exact (pss_cons (ps_expr (pe_mt (pe_meth (pv 0) T.cl_Heap T.m_Heap_need_box (ok_Heap_need_box T) (hr.mono (by decide)) (b_Heap_need_box T) .nil (passR rfl rfl rfl rfl) (pa_cons (pv 1) pa_nil))))
  (pss_one (ps_ret (pe_callTy call_listU (by rfl) T.n_list (by decide +kernel) (pa_cons (pe_ix ix_seq (pe_fld (pv 0) rfl) (pv 1) (fun _ _ => rfl)) pa_nil)))))
theorem b_is_box (T : Txt K mg c) : Binds K T.d_is_box ["item"] [] := T.F_is_box.binds (ps := ["item"]) fun _ _ _ _ _ _ us hl => match us, hl with | [_], _ => rfl
theorem ok_is_box (T : Txt K mg c) : FnOk P w K mg base CX0 1 T.f_is_box T.d_is_box ["item"] (sp_is_box K c) := by
  refine T.F_is_box.ok sc_is_box (fun vs H Q E h => by repeat (first | (obtain ⟨rfl, _⟩ := h; rfl) | (obtain ⟨_, h⟩ := h))) (fun cdv A outer s H vs Q E hr h => ⟨t_is_box K c E, ?_, pure_is_box  vs H Q E h⟩)
  exact (pss_one (ps_ret (pe_callB call_isi (by rfl) T.n_isinstance (by decide +kernel) (pa_cons (pv 0) (pa_cons (pe_bltn (by rfl) T.n_tuple (by decide +kernel) rfl) pa_nil)))))
theorem b_item_at (T : Txt K mg c) : Binds K T.d_item_at ["heap", "box", "path"] [] := T.F_item_at.binds (ps := ["heap", "box", "path"]) fun _ _ _ _ _ _ us hl => match us, hl with | [_, _, _], _ => rfl
theorem kb_item_at_0_120 (T : Txt K mg c) : KBinds K T.d_item_at ["heap", "box", "path"] ["path", "heap", "box"] (pick Value.none 0 3 [1, 2, 0]) (pick V.non 0 3 [1, 2, 0]) := kbinds T.F_item_at (fun kV dc pm an cdv ct us ws h1 h2 => match us, ws, h1, h2 with | [], [w0, w1, w2], _, _ => rfl)
theorem ok_item_at (T : Txt K mg c) : FnOk P w K mg base (L2.CX P w) 6 T.f_item_at T.d_item_at ["heap", "box", "path"] (sp_item_at K c) := by
  refine T.F_item_at.okX sc_item_at (fun vs H Q E h => by repeat (first | (obtain ⟨rfl, _⟩ := h; rfl) | (obtain ⟨_, h⟩ := h))) (fun cdv A outer s H vs Q E hr h => ⟨t_item_at K c E, ?_, pure_item_at  vs H Q E h⟩)
  exact (pss_cons (ps_expr (pe_mt (pe_meth (pv 0) T.cl_Heap T.m_Heap_need_box (ok_Heap_need_box T) (hr.mono (by decide)) (b_Heap_need_box T) .nil (passR rfl rfl rfl rfl) (pa_cons (pv 1) pa_nil))))
  (pss_cons (ps_set (i := 3) sc_item_at.nd rfl (Or.inl rfl) (pe_tup (pa_cons (pe_gs rfl T.g_BOX) (pa_cons (pv 1) pa_nil))))
  (pss_cons (ps_for (passes_of rfl) rfl (pi_any (pv 2)) (pg_name (i := 4) sc_item_at.nd rfl (Or.inl rfl)) (pss_cons (ps_set (i := 5) sc_item_at.nd rfl (Or.inl rfl) (pe_ifExp (pt_val (pe_cl (pe_call (ok_is_box T) (hr.mono (by decide)) rfl T.g_is_box T.k_is_box (b_is_box T) .nil pass0 (pa_cons (pv 3) pa_nil)))) (pe_mt (pe_meth (pv 0) T.cl_Heap T.m_Heap_look (ok_Heap_look T) (hr.mono (by decide)) (b_Heap_look T) .nil (passR rfl rfl rfl rfl) (pa_cons (pe_ix ix_seq (pv 3) pe_int (fun _ _ => rfl)) pa_nil))) (pe_lst pa_nil)))
  (pss_cons (ps_if (pt_cmpR op_geU (pv 4) (pe_callB call_lenU (by rfl) T.n_len (by decide +kernel) (pa_cons (pv 5) pa_nil)) (nomark _)) (pss_one (ps_ret pe_non)) pss_nil)
  (pss_one (ps_set (i := 3) sc_item_at.nd rfl (Or.inl rfl) (pe_ix ix_seq (pv 5) (pv 4) (fun _ _ => rfl)))))))
  (pss_one (ps_ret (pv 3))))))
theorem b_law_at (T : Txt K mg c) : Binds K T.d_law_at ["_law_contents_here", "_law_start", "_law_way"] [] := T.F_law_at.binds (ps := ["_law_contents_here", "_law_start", "_law_way"]) fun _ _ _ _ _ _ us hl => match us, hl with | [_, _, _], _ => rfl
theorem ok_law_at (T : Txt K mg c) : FnOk P w K mg base CX0 1 T.f_law_at T.d_law_at ["_law_contents_here", "_law_start", "_law_way"] (sp_law_at K c) := by
  refine T.F_law_at.ok sc_law_at (fun vs H Q E h => by repeat (first | (obtain ⟨rfl, _⟩ := h; rfl) | (obtain ⟨_, h⟩ := h))) (fun cdv A outer s H vs Q E hr h => ⟨t_law_at K c E, ?_, pure_law_at  vs H Q E h⟩)
  exact (pss_cons (ps_set (i := 3) sc_law_at.nd rfl (Or.inl rfl) (pe_tup (pa_cons pe_str (pa_cons (pv 1) pa_nil))))
  (pss_cons (ps_for PassesOwn.never rfl (pi_any (pv 2)) (pg_name (i := 4) sc_law_at.nd rfl (Or.inl rfl)) (pss_cons (ps_if (PW.pt (pw_or (pt_not (pt_val (pe_callB call_isi (by rfl) T.n_isinstance (by decide +kernel) (pa_cons (pv 3) (pa_cons (pe_bltn (by rfl) T.n_tuple (by decide +kernel) rfl) pa_nil))))) (pw_or1 (pt_cmpR op_geU (pv 4) (pe_callB call_lenU (by rfl) T.n_len (by decide +kernel) (pa_cons (pe_ix ix_seq (pv 0) (pe_ix ix_seq (pv 3) pe_int (fun _ _ => rfl)) (fun _ _ => rfl)) pa_nil)) (nomark _))))) (pss_one (ps_ret pe_non)) pss_nil)
  (pss_one (ps_set (i := 3) sc_law_at.nd rfl (Or.inl rfl) (pe_ix ix_seq (pe_ix ix_seq (pv 0) (pe_ix ix_seq (pv 3) pe_int (fun _ _ => rfl)) (fun _ _ => rfl)) (pv 4) (fun _ _ => rfl))))))
  (pss_one (ps_ret (pv 3)))))
theorem b_law_bag (T : Txt K mg c) : Binds K T.d_law_bag ["_law_script", "_law_at_here"] [] := T.F_law_bag.binds (ps := ["_law_script", "_law_at_here"]) fun _ _ _ _ _ _ us hl => match us, hl with | [_, _], _ => rfl
theorem ok_law_bag (T : Txt K mg c) : FnOk P w K mg base CX0 1 T.f_law_bag T.d_law_bag ["_law_script", "_law_at_here"] (sp_law_bag K c) := by
  refine T.F_law_bag.ok sc_law_bag (fun vs H Q E h => by repeat (first | (obtain ⟨rfl, _⟩ := h; rfl) | (obtain ⟨_, h⟩ := h))) (fun cdv A outer s H vs Q E hr h => ⟨t_law_bag K c E, ?_, pure_law_bag  vs H Q E h⟩)
  exact (pss_cons (ps_set (i := 2) sc_law_bag.nd rfl (Or.inl rfl) (pe_tup (pa_cons pe_int (pa_cons pe_int (pa_cons pe_int (pa_cons pe_int (pa_cons pe_int (pa_cons pe_int (pa_cons pe_int pa_nil)))))))))
  (pss_cons (ps_set (i := 3) sc_law_bag.nd rfl (Or.inl rfl) (pe_ifExp (pt_cmpR op_ltU (pv 1) (pe_callB call_lenU (by rfl) T.n_len (by decide +kernel) (pa_cons (pv 0) pa_nil)) (nomark _)) (pe_ix ix_seq (pv 0) (pv 1) (fun _ _ => rfl)) pe_int))
  (pss_cons (ps_set (i := 4) sc_law_bag.nd rfl (Or.inl rfl) (pe_ifExp (pt_cmpR op_geU (pe_callB call_absU (by rfl) T.n_abs (by decide +kernel) (pa_cons (pv 3) pa_nil)) (pe_op op_powU pe_int pe_int) (nomark _)) (pe_callB call_absU (by rfl) T.n_abs (by decide +kernel) (pa_cons (pv 3) pa_nil)) pe_int))
  (pss_cons (ps_set (i := 5) sc_law_bag.nd rfl (Or.inl rfl) (pe_op op_modU (pe_op op_powU (pe_op op_addU (pe_op op_addU (pe_op op_modU (pv 3) pe_int) (pe_op op_mulU pe_int (pv 1))) pe_int) pe_int) (pe_ix ix_seq (pv 2) (pe_op op_modU (pv 1) pe_int) (fun _ _ => rfl))))
  (pss_one (ps_ret (pe_lst (pa_cons (pv 4) (pa_cons (pe_op op_addU (pe_op op_modU (pe_op op_mulU (pv 5) (pe_op op_addU (pe_op op_addU (pe_op op_divU (pv 5) pe_int) (pe_op op_mulU pe_int (pv 1))) pe_int)) (pe_ix ix_seq (pv 2) (pe_op op_modU (pe_op op_addU (pv 1) pe_int) pe_int) (fun _ _ => rfl))) pe_int) pa_nil)))))))))
theorem b_law_take (T : Txt K mg c) : Binds K T.d_law_take ["_law_bag_here", "_law_size"] [] := T.F_law_take.binds (ps := ["_law_bag_here", "_law_size"]) fun _ _ _ _ _ _ us hl => match us, hl with | [_, _], _ => rfl
theorem ok_law_take (T : Txt K mg c) : FnOk P w K mg base CX0 1 T.f_law_take T.d_law_take ["_law_bag_here", "_law_size"] (sp_law_take K c) := by
  refine T.F_law_take.ok sc_law_take (fun vs H Q E h => by repeat (first | (obtain ⟨rfl, _⟩ := h; rfl) | (obtain ⟨_, h⟩ := h))) (fun cdv A outer s H vs Q E hr h => ⟨t_law_take K c E, ?_, pure_law_take  vs H Q E h⟩)
  exact (pss_cons (ps_if (pt_cmpR op_gtU (pe_ix ix_seq (pv 0) pe_int (fun _ _ => rfl)) pe_int (nomark _)) (pss_cons (ps_set (i := 2) sc_law_take.nd rfl (Or.inl rfl) (pe_op op_modU (pe_ix ix_seq (pv 0) pe_int (fun _ _ => rfl)) (pv 1)))
  (pss_cons (ps_asg (pe_op op_divU (pe_ix ix_seq (pv 0) pe_int (fun _ _ => rfl)) (pv 1)) (pg_sub (pv 0) pe_int set_list))
  (pss_one (ps_ret (pv 2))))) pss_nil)
  (pss_cons (ps_asg (pe_op op_modU (pe_op op_mulU (pe_ix ix_seq (pv 0) pe_int (fun _ _ => rfl)) pe_int) pe_int) (pg_sub (pv 0) pe_int set_list))
  (pss_one (ps_ret (pe_op op_modU (pe_op op_divU (pe_op op_modU (pe_op op_mulU (pe_ix ix_seq (pv 0) pe_int (fun _ _ => rfl)) pe_int) pe_int) (pe_op op_powU pe_int pe_int)) (pv 1))))))
theorem b_law_leaf (T : Txt K mg c) : Binds K T.d_law_leaf ["_law_bag_here"] [] := T.F_law_leaf.binds (ps := ["_law_bag_here"]) fun _ _ _ _ _ _ us hl => match us, hl with | [_], _ => rfl
theorem ok_law_leaf (T : Txt K mg c) : FnOk P w K mg base CX0 2 T.f_law_leaf T.d_law_leaf ["_law_bag_here"] (sp_law_leaf K c) := by
  refine T.F_law_leaf.ok sc_law_leaf (fun vs H Q E h => by repeat (first | (obtain ⟨rfl, _⟩ := h; rfl) | (obtain ⟨_, h⟩ := h))) (fun cdv A outer s H vs Q E hr h => ⟨t_law_leaf K c E, ?_, pure_law_leaf  vs H Q E h⟩)
  exact (pss_cons (ps_set (i := 1) sc_law_leaf.nd rfl (Or.inl rfl) (pe_lst (pa_cons pe_int (pa_cons pe_int (pa_cons (pe_un un_negU pe_int) (pa_cons pe_int (pa_cons (pe_op op_subU (pe_cl (pe_call (ok_law_take T) (hr.mono (by decide)) rfl T.g_law_take T.k_law_take (b_law_take T) .nil pass0 (pa_cons (pv 0) (pa_cons pe_int pa_nil)))) pe_int) (pa_cons (pe_op op_powU pe_int pe_int) (pa_cons (pe_un un_negU (pe_op op_powU pe_int pe_int)) (pa_cons pe_str (pa_cons pe_str (pa_cons pe_str (pa_cons pe_str (pa_cons pe_str pa_nil))))))))))))))
  (pss_one (ps_ret (pe_ix ix_seq (pv 1) (pe_cl (pe_call (ok_law_take T) (hr.mono (by decide)) rfl T.g_law_take T.k_law_take (b_law_take T) .nil pass0 (pa_cons (pv 0) (pa_cons pe_int pa_nil)))) (fun _ _ => rfl)))))
theorem b_law_contents (T : Txt K mg c) : Binds K T.d_law_contents ["_law_bag_here", "_law_size", "_law_most"] [] := T.F_law_contents.binds (ps := ["_law_bag_here", "_law_size", "_law_most"]) fun _ _ _ _ _ _ us hl => match us, hl with | [_, _, _], _ => rfl
theorem ok_law_contents (T : Txt K mg c) : FnOk P w K mg base CX0 3 T.f_law_contents T.d_law_contents ["_law_bag_here", "_law_size", "_law_most"] (sp_law_contents K c) := by
  refine T.F_law_contents.ok sc_law_contents (fun vs H Q E h => by repeat (first | (obtain ⟨rfl, _⟩ := h; rfl) | (obtain ⟨_, h⟩ := h))) (fun cdv A outer s H vs Q E hr h => ⟨t_law_contents K c E, ?_, pure_law_contents  vs H Q E h⟩)
  exact (pss_cons (ps_set (i := 3) sc_law_contents.nd rfl (Or.inl rfl) (pe_lst pa_nil))
  (pss_cons (ps_for PassesOwn.never rfl (pi_range1 rfl T.n_range (pa_cons (pv 1) pa_nil)) (pg_name (i := 4) sc_law_contents.nd rfl (Or.inl rfl)) (pss_cons (ps_set (i := 5) sc_law_contents.nd rfl (Or.inl rfl) (pe_lst pa_nil))
  (pss_cons (ps_for PassesOwn.never rfl (pi_range1 rfl T.n_range (pa_cons (pe_cl (pe_call (ok_law_take T) (hr.mono (by decide)) rfl T.g_law_take T.k_law_take (b_law_take T) .nil pass0 (pa_cons (pv 0) (pa_cons (pe_op op_addU (pv 2) pe_int) pa_nil)))) pa_nil)) (pg_name (i := 6) sc_law_contents.nd rfl (Or.inl rfl)) (pss_one (ps_expr (pe_bm PySem.F.plainAttrs_list PySem.F.slot_list_append PySem.F.type_list_append mt_append (pv 5) (pa_cons (pe_ifExp (pt_cmpR (op_eqU (u64 hr)) (pe_cl (pe_call (ok_law_take T) (hr.mono (by decide)) rfl T.g_law_take T.k_law_take (b_law_take T) .nil pass0 (pa_cons (pv 0) (pa_cons pe_int pa_nil)))) pe_int (nomark _)) (pe_tup (pa_cons pe_str (pa_cons (pe_cl (pe_call (ok_law_take T) (hr.mono (by decide)) rfl T.g_law_take T.k_law_take (b_law_take T) .nil pass0 (pa_cons (pv 0) (pa_cons (pv 1) pa_nil)))) pa_nil))) (pe_cl (pe_call (ok_law_leaf T) (hr.mono (by decide)) rfl T.g_law_leaf T.k_law_leaf (b_law_leaf T) .nil pass0 (pa_cons (pv 0) pa_nil)))) pa_nil)))))
  (pss_one (ps_expr (pe_bm PySem.F.plainAttrs_list PySem.F.slot_list_append PySem.F.type_list_append mt_append (pv 3) (pa_cons (pv 5) pa_nil)))))))
  (pss_one (ps_ret (pv 3)))))
theorem b_law_path (T : Txt K mg c) : Binds K T.d_law_path ["_law_bag_here", "_law_contents_here", "_law_start"] [] := T.F_law_path.binds (ps := ["_law_bag_here", "_law_contents_here", "_law_start"]) fun _ _ _ _ _ _ us hl => match us, hl with | [_, _, _], _ => rfl
theorem ok_law_path (T : Txt K mg c) : FnOk P w K mg base CX0 2 T.f_law_path T.d_law_path ["_law_bag_here", "_law_contents_here", "_law_start"] (sp_law_path K c) := by
  refine T.F_law_path.ok sc_law_path (fun vs H Q E h => by repeat (first | (obtain ⟨rfl, _⟩ := h; rfl) | (obtain ⟨_, h⟩ := h))) (fun cdv A outer s H vs Q E hr h => ⟨t_law_path K c E, ?_, pure_law_path  vs H Q E h⟩)
  exact (pss_cons (ps_par rfl sc_law_path.nd rfl rfl (by decide) rfl rfl (pa_cons (pe_lst pa_nil) (pa_cons (pe_tup (pa_cons pe_str (pa_cons (pv 2) pa_nil))) pa_nil)) (by rfl))
  (pss_cons (ps_for PassesOwn.never rfl (pi_range1 rfl T.n_range (pa_cons (pe_cl (pe_call (ok_law_take T) (hr.mono (by decide)) rfl T.g_law_take T.k_law_take (b_law_take T) .nil pass0 (pa_cons (pv 0) (pa_cons pe_int pa_nil)))) pa_nil)) (pg_name (i := 5) sc_law_path.nd rfl (Or.inl rfl)) (pss_cons (ps_set (i := 6) sc_law_path.nd rfl (Or.inl rfl) (pe_ifExp (pt_val (pe_callB call_isi (by rfl) T.n_isinstance (by decide +kernel) (pa_cons (pv 4) (pa_cons (pe_bltn (by rfl) T.n_tuple (by decide +kernel) rfl) pa_nil)))) (pe_callB call_lenU (by rfl) T.n_len (by decide +kernel) (pa_cons (pe_ix ix_seq (pv 1) (pe_ix ix_seq (pv 4) pe_int (fun _ _ => rfl)) (fun _ _ => rfl)) pa_nil)) pe_int))
  (pss_cons (ps_set (i := 7) sc_law_path.nd rfl (Or.inl rfl) (pe_ifExp (PW.pt (pw_and (pt_cmpR op_gtU (pv 6) pe_int (nomark _)) (pw_and1 (pt_cmpR op_gtU (pe_cl (pe_call (ok_law_take T) (hr.mono (by decide)) rfl T.g_law_take T.k_law_take (b_law_take T) .nil pass0 (pa_cons (pv 0) (pa_cons pe_int pa_nil)))) pe_int (nomark _))))) (pe_cl (pe_call (ok_law_take T) (hr.mono (by decide)) rfl T.g_law_take T.k_law_take (b_law_take T) .nil pass0 (pa_cons (pv 0) (pa_cons (pv 6) pa_nil)))) (pe_cl (pe_call (ok_law_take T) (hr.mono (by decide)) rfl T.g_law_take T.k_law_take (b_law_take T) .nil pass0 (pa_cons (pv 0) (pa_cons pe_int pa_nil))))))
  (pss_cons (ps_expr (pe_bm PySem.F.plainAttrs_list PySem.F.slot_list_append PySem.F.type_list_append mt_append (pv 3) (pa_cons (pv 7) pa_nil)))
  (pss_one (ps_set (i := 4) sc_law_path.nd rfl (Or.inl rfl) (pe_ifExp (pt_cmpR op_ltU (pv 7) (pv 6) (nomark _)) (pe_ix ix_seq (pe_ix ix_seq (pv 1) (pe_ix ix_seq (pv 4) pe_int (fun _ _ => rfl)) (fun _ _ => rfl)) (pv 7) (fun _ _ => rfl)) pe_int)))))))
  (pss_one (ps_ret (pe_callTy call_tupleU (by rfl) T.n_tuple (by decide +kernel) (pa_cons (pv 3) pa_nil))))))
theorem b_law_why (T : Txt K mg c) : Binds K T.d_law_why ["_law_book", "_law_thing"] [] := T.F_law_why.binds (ps := ["_law_book", "_law_thing"]) fun _ _ _ _ _ _ us hl => match us, hl with | [_, _], _ => rfl
theorem ok_law_why (T : Txt K mg c) : FnOk P w K mg base CX0 7 T.f_law_why T.d_law_why ["_law_book", "_law_thing"] (sp_law_why K c) := by
  refine T.F_law_why.ok sc_law_why (fun vs H Q E h => by repeat (first | (obtain ⟨rfl, _⟩ := h; rfl) | (obtain ⟨_, h⟩ := h))) (fun cdv A outer s H vs Q E hr h => ⟨t_law_why K c E, ?_, pure_law_why T.fKWhy vs H Q E h⟩)
  exact (pss_cons (ps_try_named (Wout := fun _ _ _ _ => False) (tb := fun W => (tDrop (tCallS (sp_item_at K c) (WE W) (tCons (tVar 0) (tCons (tVar 1) (tCons (tTup tNil) tNil)))))) rfl rfl sc_law_why.nd takes0 (fun W pn xe tk _ => (pss_one (ps_expr (pe_callS (ok_item_at T) (hr.mono (by decide)) rfl T.g_item_at T.k_item_at (b_item_at T) (fun σ => passAt tk σ) (pa_cons (pv 0) (pa_cons (pv 1) (pa_cons (pe_tup pa_nil) pa_nil)))))))
   (.cons (i := 2) ⟨rfl, by decide, Or.inl T.g_NoBox⟩ rfl rfl (fun a oe cls d pn hz hf => (pss_one (ps_ret (pe_ifExp (PW.pt (pw_and (pt_val (pe_callB (call_isX hz hf) (by rfl) T.n_isinstance (by decide +kernel) (pa_cons (pv 2) (pa_cons (pe_bltn (by rfl) T.n_LookupError (by decide +kernel) rfl) pa_nil)))) (pw_and1 (pt_not (pt_val (pe_callB (call_isX hz hf) (by rfl) T.n_isinstance (by decide +kernel) (pa_cons (pv 2) (pa_cons (pe_gr rfl T.g_RingError) pa_nil)))))))) (pe_tup (pa_cons pe_str (pa_cons (pe_xf T.xf_NoBox T.no_NoBox hz hf (pv 2)) pa_nil))) pe_str))))
   .nil))
  (pss_one (ps_ret pe_str)))
theorem b_law (T : Txt K mg c) : Binds K T.d_law ["_law_script"] [] := T.F_law.binds (ps := ["_law_script"]) fun _ _ _ _ _ _ us hl => match us, hl with | [_], _ => rfl
theorem ok_law (T : Txt K mg c) : FnG P w K mg base CX0 8 T.f_law T.d_law ["_law_script"] (sp_law K c) := by
  refine RB.Fun.okG T.F_law sc_law (fun vs H Q E h => by repeat (first | (obtain ⟨rfl, _⟩ := h; rfl) | (obtain ⟨_, h⟩ := h))) (fun cdv A outer s H vs Q E hgd hr h => ⟨t_law K c E, ?_, pure_law  vs H Q E h⟩)
  exact (pss_cons (ps_for (passes_of rfl) rfl (pi_range1 rfl T.n_range (pa_cons (pe_callB (call_max2U rfl) (by rfl) T.n_max (by decide +kernel) (pa_cons pe_int (pa_cons (pe_callB (call_min2U rfl) (by rfl) T.n_min (by decide +kernel) (pa_cons pe_int (pa_cons (pe_callB call_lenU (by rfl) T.n_len (by decide +kernel) (pa_cons (pv 0) pa_nil)) pa_nil))) pa_nil))) pa_nil)) (pg_name (i := 1) sc_law.nd rfl (Or.inl rfl)) (pss_cons (ps_set (i := 2) sc_law.nd rfl (Or.inl rfl) (pe_cl (pe_call (ok_law_bag T) (hr.mono (by decide)) rfl T.g_law_bag T.k_law_bag (b_law_bag T) .nil pass0 (pa_cons (pv 0) (pa_cons (pv 1) pa_nil)))))
  (pss_one (ps_for (passes_of rfl) rfl (pi_range1 rfl T.n_range (pa_cons pe_int pa_nil)) (pg_name (i := 3) sc_law.nd rfl (Or.inl rfl)) (pss_cons (ps_set (i := 4) sc_law.nd rfl (Or.inl rfl) (pe_op op_addU pe_int (pe_cl (pe_call (ok_law_take T) (hr.mono (by decide)) rfl T.g_law_take T.k_law_take (b_law_take T) .nil pass0 (pa_cons (pv 2) (pa_cons pe_int pa_nil))))))
  (pss_cons (ps_set (i := 5) sc_law.nd rfl (Or.inl rfl) (pe_cl (pe_call (ok_law_contents T) (hr.mono (by decide)) rfl T.g_law_contents T.k_law_contents (b_law_contents T) .nil pass0 (pa_cons (pv 2) (pa_cons (pv 4) (pa_cons pe_int pa_nil))))))
  (pss_cons (ps_set (i := 6) sc_law.nd rfl (Or.inl rfl) (ClX.pe_cmeth (pe_gr rfl T.g_Heap) T.cr_Heap T.cm_Heap_of (ok_Heap_of T) (hr.mono (by decide)) passL (pa_cons (pv 5) pa_nil)))
  (pss_cons (ps_for (passes_of rfl) rfl (pi_range1 rfl T.n_range (pa_cons pe_int pa_nil)) (pg_name (i := 7) sc_law.nd rfl (Or.inl rfl)) (pss_cons (ps_set (i := 8) sc_law.nd rfl (Or.inl rfl) (pe_cl (pe_call (ok_law_take T) (hr.mono (by decide)) rfl T.g_law_take T.k_law_take (b_law_take T) .nil pass0 (pa_cons (pv 2) (pa_cons (pv 4) pa_nil)))))
  (pss_cons (ps_set (i := 9) sc_law.nd rfl (Or.inl rfl) (pe_op op_mulU (pe_cl (pe_call (ok_law_path T) (hr.mono (by decide)) rfl T.g_law_path T.k_law_path (b_law_path T) .nil pass0 (pa_cons (pv 2) (pa_cons (pv 5) (pa_cons (pv 8) pa_nil))))) (pe_op op_addU pe_int (pe_op op_mulU pe_int (pe_callTy call_intU (by rfl) T.n_int (by decide +kernel) (pa_cons (pe_cmpR (op_eqU (u64 hr)) (pe_cl (pe_call (ok_law_take T) (hr.mono (by decide)) rfl T.g_law_take T.k_law_take (b_law_take T) .nil pass0 (pa_cons (pv 2) (pa_cons pe_int pa_nil)))) pe_int (nomark _)) pa_nil))))))
  (pss_cons (ps_set (i := 10) sc_law.nd rfl (Or.inl rfl) (pe_cl (pe_call (ok_law_at T) (hr.mono (by decide)) rfl T.g_law_at T.k_law_at (b_law_at T) .nil pass0 (pa_cons (pv 5) (pa_cons (pv 8) (pa_cons (pv 9) pa_nil))))))
  (pss_one (ps_if (pt_cmpR (op_neU (u64 hr)) (pe_callB (call_repr hgd (u200 hr)) (by rfl) T.n_repr (by decide +kernel) (pa_cons (pe_lst (pa_cons (pe_cl (pe_call (ok_item_at T) (hr.mono (by decide)) rfl T.g_item_at T.k_item_at (b_item_at T) .nil passL (pa_cons (pv 6) (pa_cons (pv 8) (pa_cons (pv 9) pa_nil))))) (pa_cons (pe_callK0 (ok_item_at T) (hr.mono (by decide)) rfl T.g_item_at T.k_item_at (kb_item_at_0_120 T) passL (pk_cons (pv 9) (pk_cons (pv 6) (pk_cons (pv 8) pk_nil)))) pa_nil))) pa_nil)) (pe_callB (call_repr hgd (u200 hr)) (by rfl) T.n_repr (by decide +kernel) (pa_cons (pe_op op_mulU (pe_lst (pa_cons (pv 10) pa_nil)) pe_int) pa_nil)) (nomark _)) (pss_one (ps_ret pe_bl)) pss_nil))))))
  (pss_cons (ps_set (i := 11) sc_law.nd rfl (Or.inl rfl) (pe_ix ix_seq (pe_lst (pa_cons (pv 4) (pa_cons (pe_un un_negU pe_int) (pa_cons pe_non (pa_cons pe_bl (pa_cons pe_str (pa_cons (pe_tup (pa_cons pe_int pa_nil)) (pa_cons (pe_lst (pa_cons pe_int pa_nil)) pa_nil)))))))) (pe_cl (pe_call (ok_law_take T) (hr.mono (by decide)) rfl T.g_law_take T.k_law_take (b_law_take T) .nil pass0 (pa_cons (pv 2) (pa_cons pe_int pa_nil)))) (fun _ _ => rfl)))
  (pss_one (ps_if (PW.pt (pw_or (pt_cmpR (op_neU (u64 hr)) (pe_callB (call_repr hgd (u200 hr)) (by rfl) T.n_repr (by decide +kernel) (pa_cons (pe_cl (pe_call (ok_law_why T) (hr.mono (by decide)) rfl T.g_law_why T.k_law_why (b_law_why T) .nil pass0 (pa_cons (pv 6) (pa_cons (pv 11) pa_nil)))) pa_nil)) (pe_callB (call_repr hgd (u200 hr)) (by rfl) T.n_repr (by decide +kernel) (pa_cons (pe_tup (pa_cons pe_str (pa_cons (pv 11) pa_nil))) pa_nil)) (nomark _)) (pw_or1 (pt_cmpR (op_neU (u64 hr)) (pe_callB (call_repr hgd (u200 hr)) (by rfl) T.n_repr (by decide +kernel) (pa_cons (pe_cl (pe_call (ok_item_at T) (hr.mono (by decide)) rfl T.g_item_at T.k_item_at (b_item_at T) .nil passL (pa_cons (pv 6) (pa_cons pe_int (pa_cons (pe_tup pa_nil) pa_nil))))) pa_nil)) pe_str (nomark _))))) (pss_one (ps_ret pe_bl)) pss_nil)))))))))))
  (pss_one (ps_ret pe_bl)))
end
theorem all_mk {l : PySem.W.OpenLaw} {w : World} {K : PySem.W.Frag} {h : Heap} {mg : Str → Option Value} {fa : Addr} (X : K.In h) (G : h.Ns mainGlobals mg) (hfa : mg "law" = some (.ref fa))
    {a_BadItem a_Full a_Heap a_NoBox a_RingError f_BadItem_init f_Full_init f_Heap_len f_Heap_need_room f_is_integer f_is_word f_is_leaf f_is_within f_is_reference f_is_item f_Heap_init f_Heap_of p_Heap_of f_Heap_contains f_NoBox_init f_Heap_need_box f_Heap_look f_is_box f_item_at f_law_at f_law_bag f_law_take f_law_leaf f_law_contents f_law_path f_law_why f_law : Addr}
    {t_BOX t_LETTERS t_MOST_LETTERS t_KMost_mb t_KMost_mi : Tok}
    {v_oc_BadItem_init v_kV_BadItem_init v_dc_BadItem_init v_pm_BadItem_init v_cd_BadItem_init v_ct_BadItem_init v_oc_Full_init v_kV_Full_init v_dc_Full_init v_pm_Full_init v_cd_Full_init v_ct_Full_init v_oc_Heap_len v_kV_Heap_len v_dc_Heap_len v_pm_Heap_len v_cd_Heap_len v_ct_Heap_len v_oc_Heap_need_room v_kV_Heap_need_room v_dc_Heap_need_room v_pm_Heap_need_room v_cd_Heap_need_room v_ct_Heap_need_room v_oc_is_integer v_kV_is_integer v_dc_is_integer v_pm_is_integer v_cd_is_integer v_ct_is_integer v_oc_is_word v_kV_is_word v_dc_is_word v_pm_is_word v_cd_is_word v_ct_is_word v_oc_is_leaf v_kV_is_leaf v_dc_is_leaf v_pm_is_leaf v_cd_is_leaf v_ct_is_leaf v_oc_is_within v_kV_is_within v_dc_is_within v_pm_is_within v_cd_is_within v_ct_is_within v_oc_is_reference v_kV_is_reference v_dc_is_reference v_pm_is_reference v_cd_is_reference v_ct_is_reference v_oc_is_item v_kV_is_item v_dc_is_item v_pm_is_item v_cd_is_item v_ct_is_item v_oc_Heap_init v_kV_Heap_init v_dc_Heap_init v_pm_Heap_init v_cd_Heap_init v_ct_Heap_init v_oc_Heap_of v_kV_Heap_of v_dc_Heap_of v_pm_Heap_of v_cd_Heap_of v_ct_Heap_of v_oc_Heap_contains v_kV_Heap_contains v_dc_Heap_contains v_pm_Heap_contains v_cd_Heap_contains v_ct_Heap_contains v_oc_NoBox_init v_kV_NoBox_init v_dc_NoBox_init v_pm_NoBox_init v_cd_NoBox_init v_ct_NoBox_init v_oc_Heap_need_box v_kV_Heap_need_box v_dc_Heap_need_box v_pm_Heap_need_box v_cd_Heap_need_box v_ct_Heap_need_box v_oc_Heap_look v_kV_Heap_look v_dc_Heap_look v_pm_Heap_look v_cd_Heap_look v_ct_Heap_look v_oc_is_box v_kV_is_box v_dc_is_box v_pm_is_box v_cd_is_box v_ct_is_box v_oc_item_at v_kV_item_at v_dc_item_at v_pm_item_at v_cd_item_at v_ct_item_at v_oc_law_at v_kV_law_at v_dc_law_at v_pm_law_at v_cd_law_at v_ct_law_at v_oc_law_bag v_kV_law_bag v_dc_law_bag v_pm_law_bag v_cd_law_bag v_ct_law_bag v_oc_law_take v_kV_law_take v_dc_law_take v_pm_law_take v_cd_law_take v_ct_law_take v_oc_law_leaf v_kV_law_leaf v_dc_law_leaf v_pm_law_leaf v_cd_law_leaf v_ct_law_leaf v_oc_law_contents v_kV_law_contents v_dc_law_contents v_pm_law_contents v_cd_law_contents v_ct_law_contents v_oc_law_path v_kV_law_path v_dc_law_path v_pm_law_path v_cd_law_path v_ct_law_path v_oc_law_why v_kV_law_why v_dc_law_why v_pm_law_why v_cd_law_why v_ct_law_why v_oc_law v_kV_law v_dc_law v_pm_law v_cd_law v_ct_law : Value}
    {o_od_BadItem_init o_an_BadItem_init o_od_Full_init o_an_Full_init o_od_Heap_len o_an_Heap_len o_od_Heap_need_room o_an_Heap_need_room o_od_is_integer o_an_is_integer o_od_is_word o_an_is_word o_od_is_leaf o_an_is_leaf o_od_is_within o_an_is_within o_od_is_reference o_an_is_reference o_od_is_item o_an_is_item o_od_Heap_init o_an_Heap_init o_od_Heap_of o_an_Heap_of o_od_Heap_contains o_an_Heap_contains o_od_NoBox_init o_an_NoBox_init o_od_Heap_need_box o_an_Heap_need_box o_od_Heap_look o_an_Heap_look o_od_is_box o_an_is_box o_od_item_at o_an_item_at o_od_law_at o_an_law_at o_od_law_bag o_an_law_bag o_od_law_take o_an_law_take o_od_law_leaf o_an_law_leaf o_od_law_contents o_an_law_contents o_od_law_path o_an_law_path o_od_law_why o_an_law_why o_od_law o_an_law : Option Addr}
    {s_sl_BadItem_init s_sl_Full_init s_sl_Heap_len s_sl_Heap_need_room s_sl_is_integer s_sl_is_word s_sl_is_leaf s_sl_is_within s_sl_is_reference s_sl_is_item s_sl_Heap_init s_sl_Heap_of s_sl_Heap_contains s_sl_NoBox_init s_sl_Heap_need_box s_sl_Heap_look s_sl_is_box s_sl_item_at s_sl_law_at s_sl_law_bag s_sl_law_take s_sl_law_leaf s_sl_law_contents s_sl_law_path s_sl_law_why s_sl_law : Array (Option Value)}
    {w_Heap_of : List Value}
    (hg_BadItem : PySem.W.nsIn K mainGlobals "BadItem" = some (some (.ref a_BadItem)))
    (hg_Full : PySem.W.nsIn K mainGlobals "Full" = some (some (.ref a_Full)))
    (hg_Heap : PySem.W.nsIn K mainGlobals "Heap" = some (some (.ref a_Heap)))
    (hg_NoBox : PySem.W.nsIn K mainGlobals "NoBox" = some (some (.ref a_NoBox)))
    (hg_RingError : PySem.W.nsIn K mainGlobals "RingError" = some (some (.ref a_RingError)))
    (hc_Heap_pg : PySem.W.plainGet K a_Heap Str.empty = true)
    (hc_Heap_hd : PySem.W.hasDictIn K a_Heap = true)
    (hc_Heap_po : PySem.W.plainOver K a_Heap = true)
    (hc_Heap_sa : PySem.W.findIn K (.ref a_Heap) "__setattr__" = some (some (.builtin "object.__setattr__")))
    (hr_Heap_rd : PySem.W.readsIn K a_Heap (.type "type") = true)
    (hr_Heap_ga : PySem.W.specialIn K (.ref a_Heap) "__getattribute__" = some (some (.builtin "type.__getattribute__")))
    (hg_BOX : PySem.W.nsIn K mainGlobals "BOX" = some (some (.str "box" t_BOX)))
    (hg_LETTERS : PySem.W.nsIn K mainGlobals "LETTERS" = some (some (.str "abcdefghijklmnopqrstuvwxyz" t_LETTERS)))
    (hg_MOST_LETTERS : PySem.W.nsIn K mainGlobals "MOST_LETTERS" = some (some (.int 8 t_MOST_LETTERS)))
    (hn_LookupError : PySem.W.nsIn K mainGlobals "LookupError" = some none)
    (hn_OverflowError : PySem.W.nsIn K mainGlobals "OverflowError" = some none)
    (hn_abs : PySem.W.nsIn K mainGlobals "abs" = some none)
    (hn_all : PySem.W.nsIn K mainGlobals "all" = some none)
    (hn_bool : PySem.W.nsIn K mainGlobals "bool" = some none)
    (hn_int : PySem.W.nsIn K mainGlobals "int" = some none)
    (hn_isinstance : PySem.W.nsIn K mainGlobals "isinstance" = some none)
    (hn_len : PySem.W.nsIn K mainGlobals "len" = some none)
    (hn_list : PySem.W.nsIn K mainGlobals "list" = some none)
    (hn_max : PySem.W.nsIn K mainGlobals "max" = some none)
    (hn_min : PySem.W.nsIn K mainGlobals "min" = some none)
    (hn_range : PySem.W.nsIn K mainGlobals "range" = some none)
    (hn_repr : PySem.W.nsIn K mainGlobals "repr" = some none)
    (hn_str : PySem.W.nsIn K mainGlobals "str" = some none)
    (hn_tuple : PySem.W.nsIn K mainGlobals "tuple" = some none)
    (hq_RingError_rd : PySem.W.readsIn K a_RingError (.type "type") = true)
    (hq_RingError_ga : PySem.W.specialIn K (.ref a_RingError) "__getattribute__" = some (some (.builtin "type.__getattribute__")))
    (ha_BadItem_init : PySem.W.findIn K (.ref a_BadItem) "__init__" = some (some (.ref f_BadItem_init)))
    (hi_BadItem_init : PySem.W.typeIn K (.ref f_BadItem_init) = some (.type "function"))
    (hl_BadItem_init : K.lookup f_BadItem_init = some ⟨v_oc_BadItem_init, o_od_BadItem_init, .func (PySem.W.fnOf "__init__" "BadItem.__init__" (defArgs s_BadItem_init) (defBody s_BadItem_init) (defScope s_BadItem_init) .none v_kV_BadItem_init v_dc_BadItem_init v_pm_BadItem_init o_an_BadItem_init v_cd_BadItem_init v_ct_BadItem_init), s_sl_BadItem_init⟩)
    (hk_BadItem_init : PySem.W.codeIn K v_cd_BadItem_init "BadItem.__init__" = true)
    (hp_BadItem_init : PySem.W.keepIn K (.ref f_BadItem_init) = true)
    (ha_Full_init : PySem.W.findIn K (.ref a_Full) "__init__" = some (some (.ref f_Full_init)))
    (hi_Full_init : PySem.W.typeIn K (.ref f_Full_init) = some (.type "function"))
    (hl_Full_init : K.lookup f_Full_init = some ⟨v_oc_Full_init, o_od_Full_init, .func (PySem.W.fnOf "__init__" "Full.__init__" (defArgs s_Full_init) (defBody s_Full_init) (defScope s_Full_init) .none v_kV_Full_init v_dc_Full_init v_pm_Full_init o_an_Full_init v_cd_Full_init v_ct_Full_init), s_sl_Full_init⟩)
    (hk_Full_init : PySem.W.codeIn K v_cd_Full_init "Full.__init__" = true)
    (hp_Full_init : PySem.W.keepIn K (.ref f_Full_init) = true)
    (ha_Heap_len : PySem.W.findIn K (.ref a_Heap) "__len__" = some (some (.ref f_Heap_len)))
    (hi_Heap_len : PySem.W.isFn K (.ref f_Heap_len) = true)
    (hl_Heap_len : K.lookup f_Heap_len = some ⟨v_oc_Heap_len, o_od_Heap_len, .func (PySem.W.fnOf "__len__" "Heap.__len__" (defArgs s_Heap_len) (defBody s_Heap_len) (defScope s_Heap_len) .none v_kV_Heap_len v_dc_Heap_len v_pm_Heap_len o_an_Heap_len v_cd_Heap_len v_ct_Heap_len), s_sl_Heap_len⟩)
    (hk_Heap_len : PySem.W.codeIn K v_cd_Heap_len "Heap.__len__" = true)
    (hp_Heap_len : PySem.W.keepIn K (.ref f_Heap_len) = true)
    (ha_Heap_need_room : PySem.W.findIn K (.ref a_Heap) "need_room" = some (some (.ref f_Heap_need_room)))
    (hi_Heap_need_room : PySem.W.isFn K (.ref f_Heap_need_room) = true)
    (hl_Heap_need_room : K.lookup f_Heap_need_room = some ⟨v_oc_Heap_need_room, o_od_Heap_need_room, .func (PySem.W.fnOf "need_room" "Heap.need_room" (defArgs s_Heap_need_room) (defBody s_Heap_need_room) (defScope s_Heap_need_room) .none v_kV_Heap_need_room v_dc_Heap_need_room v_pm_Heap_need_room o_an_Heap_need_room v_cd_Heap_need_room v_ct_Heap_need_room), s_sl_Heap_need_room⟩)
    (hk_Heap_need_room : PySem.W.codeIn K v_cd_Heap_need_room "Heap.need_room" = true)
    (hp_Heap_need_room : PySem.W.keepIn K (.ref f_Heap_need_room) = true)
    (ha_is_integer : PySem.W.nsIn K mainGlobals "is_integer" = some (some (.ref f_is_integer)))
    (hl_is_integer : K.lookup f_is_integer = some ⟨v_oc_is_integer, o_od_is_integer, .func (PySem.W.fnOf "is_integer" "is_integer" (defArgs s_is_integer) (defBody s_is_integer) (defScope s_is_integer) .none v_kV_is_integer v_dc_is_integer v_pm_is_integer o_an_is_integer v_cd_is_integer v_ct_is_integer), s_sl_is_integer⟩)
    (hk_is_integer : PySem.W.codeIn K v_cd_is_integer "is_integer" = true)
    (hp_is_integer : PySem.W.keepIn K (.ref f_is_integer) = true)
    (ha_is_word : PySem.W.nsIn K mainGlobals "is_word" = some (some (.ref f_is_word)))
    (hl_is_word : K.lookup f_is_word = some ⟨v_oc_is_word, o_od_is_word, .func (PySem.W.fnOf "is_word" "is_word" (defArgs s_is_word) (defBody s_is_word) (defScope s_is_word) .none v_kV_is_word v_dc_is_word v_pm_is_word o_an_is_word v_cd_is_word v_ct_is_word), s_sl_is_word⟩)
    (hk_is_word : PySem.W.codeIn K v_cd_is_word "is_word" = true)
    (hp_is_word : PySem.W.keepIn K (.ref f_is_word) = true)
    (ha_is_leaf : PySem.W.nsIn K mainGlobals "is_leaf" = some (some (.ref f_is_leaf)))
    (hl_is_leaf : K.lookup f_is_leaf = some ⟨v_oc_is_leaf, o_od_is_leaf, .func (PySem.W.fnOf "is_leaf" "is_leaf" (defArgs s_is_leaf) (defBody s_is_leaf) (defScope s_is_leaf) .none v_kV_is_leaf v_dc_is_leaf v_pm_is_leaf o_an_is_leaf v_cd_is_leaf v_ct_is_leaf), s_sl_is_leaf⟩)
    (hk_is_leaf : PySem.W.codeIn K v_cd_is_leaf "is_leaf" = true)
    (hp_is_leaf : PySem.W.keepIn K (.ref f_is_leaf) = true)
    (ha_is_within : PySem.W.nsIn K mainGlobals "is_within" = some (some (.ref f_is_within)))
    (hl_is_within : K.lookup f_is_within = some ⟨v_oc_is_within, o_od_is_within, .func (PySem.W.fnOf "is_within" "is_within" (defArgs s_is_within) (defBody s_is_within) (defScope s_is_within) .none v_kV_is_within v_dc_is_within v_pm_is_within o_an_is_within v_cd_is_within v_ct_is_within), s_sl_is_within⟩)
    (hk_is_within : PySem.W.codeIn K v_cd_is_within "is_within" = true)
    (hp_is_within : PySem.W.keepIn K (.ref f_is_within) = true)
    (ha_is_reference : PySem.W.nsIn K mainGlobals "is_reference" = some (some (.ref f_is_reference)))
    (hl_is_reference : K.lookup f_is_reference = some ⟨v_oc_is_reference, o_od_is_reference, .func (PySem.W.fnOf "is_reference" "is_reference" (defArgs s_is_reference) (defBody s_is_reference) (defScope s_is_reference) .none v_kV_is_reference v_dc_is_reference v_pm_is_reference o_an_is_reference v_cd_is_reference v_ct_is_reference), s_sl_is_reference⟩)
    (hk_is_reference : PySem.W.codeIn K v_cd_is_reference "is_reference" = true)
    (hp_is_reference : PySem.W.keepIn K (.ref f_is_reference) = true)
    (ha_is_item : PySem.W.nsIn K mainGlobals "is_item" = some (some (.ref f_is_item)))
    (hl_is_item : K.lookup f_is_item = some ⟨v_oc_is_item, o_od_is_item, .func (PySem.W.fnOf "is_item" "is_item" (defArgs s_is_item) (defBody s_is_item) (defScope s_is_item) .none v_kV_is_item v_dc_is_item v_pm_is_item o_an_is_item v_cd_is_item v_ct_is_item), s_sl_is_item⟩)
    (hk_is_item : PySem.W.codeIn K v_cd_is_item "is_item" = true)
    (hp_is_item : PySem.W.keepIn K (.ref f_is_item) = true)
    (ha_Heap_init : PySem.W.findIn K (.ref a_Heap) "__init__" = some (some (.ref f_Heap_init)))
    (hi_Heap_init : PySem.W.isFn K (.ref f_Heap_init) = true)
    (hl_Heap_init : K.lookup f_Heap_init = some ⟨v_oc_Heap_init, o_od_Heap_init, .func (PySem.W.fnOf "__init__" "Heap.__init__" (defArgs s_Heap_init) (defBody s_Heap_init) (defScope s_Heap_init) .none v_kV_Heap_init v_dc_Heap_init v_pm_Heap_init o_an_Heap_init v_cd_Heap_init v_ct_Heap_init), s_sl_Heap_init⟩)
    (hk_Heap_init : PySem.W.codeIn K v_cd_Heap_init "Heap.__init__" = true)
    (hp_Heap_init : PySem.W.keepIn K (.ref f_Heap_init) = true)
    (hm_Heap : PySem.W.makesIn K a_Heap = true)
    (hmk_Heap : PySem.W.keepIn K (.ref a_Heap) = true)
    (ha_Heap_of : PySem.W.findCls K (.ref a_Heap) (.type "type") "of" = some (.get (.builtin "classmethod.__get__") (.ref p_Heap_of) .none (.ref a_Heap)))
    (hr_Heap_of : PySem.W.recIn K p_Heap_of "classmethod" = some (.ref f_Heap_of :: w_Heap_of))
    (hi_Heap_of : PySem.W.fnIn K f_Heap_of = true)
    (hl_Heap_of : K.lookup f_Heap_of = some ⟨v_oc_Heap_of, o_od_Heap_of, .func (PySem.W.fnOf "of" "Heap.of" (defArgs s_Heap_of) (defBody s_Heap_of) (defScope s_Heap_of) .none v_kV_Heap_of v_dc_Heap_of v_pm_Heap_of o_an_Heap_of v_cd_Heap_of v_ct_Heap_of), s_sl_Heap_of⟩)
    (hk_Heap_of : PySem.W.codeIn K v_cd_Heap_of "Heap.of" = true)
    (hp_Heap_of : PySem.W.keepIn K (.ref f_Heap_of) = true)
    (ha_Heap_contains : PySem.W.findIn K (.ref a_Heap) "__contains__" = some (some (.ref f_Heap_contains)))
    (hi_Heap_contains : PySem.W.isFn K (.ref f_Heap_contains) = true)
    (hl_Heap_contains : K.lookup f_Heap_contains = some ⟨v_oc_Heap_contains, o_od_Heap_contains, .func (PySem.W.fnOf "__contains__" "Heap.__contains__" (defArgs s_Heap_contains) (defBody s_Heap_contains) (defScope s_Heap_contains) .none v_kV_Heap_contains v_dc_Heap_contains v_pm_Heap_contains o_an_Heap_contains v_cd_Heap_contains v_ct_Heap_contains), s_sl_Heap_contains⟩)
    (hk_Heap_contains : PySem.W.codeIn K v_cd_Heap_contains "Heap.__contains__" = true)
    (hp_Heap_contains : PySem.W.keepIn K (.ref f_Heap_contains) = true)
    (ha_NoBox_init : PySem.W.findIn K (.ref a_NoBox) "__init__" = some (some (.ref f_NoBox_init)))
    (hi_NoBox_init : PySem.W.typeIn K (.ref f_NoBox_init) = some (.type "function"))
    (hl_NoBox_init : K.lookup f_NoBox_init = some ⟨v_oc_NoBox_init, o_od_NoBox_init, .func (PySem.W.fnOf "__init__" "NoBox.__init__" (defArgs s_NoBox_init) (defBody s_NoBox_init) (defScope s_NoBox_init) .none v_kV_NoBox_init v_dc_NoBox_init v_pm_NoBox_init o_an_NoBox_init v_cd_NoBox_init v_ct_NoBox_init), s_sl_NoBox_init⟩)
    (hk_NoBox_init : PySem.W.codeIn K v_cd_NoBox_init "NoBox.__init__" = true)
    (hp_NoBox_init : PySem.W.keepIn K (.ref f_NoBox_init) = true)
    (ha_Heap_need_box : PySem.W.findIn K (.ref a_Heap) "need_box" = some (some (.ref f_Heap_need_box)))
    (hi_Heap_need_box : PySem.W.isFn K (.ref f_Heap_need_box) = true)
    (hl_Heap_need_box : K.lookup f_Heap_need_box = some ⟨v_oc_Heap_need_box, o_od_Heap_need_box, .func (PySem.W.fnOf "need_box" "Heap.need_box" (defArgs s_Heap_need_box) (defBody s_Heap_need_box) (defScope s_Heap_need_box) .none v_kV_Heap_need_box v_dc_Heap_need_box v_pm_Heap_need_box o_an_Heap_need_box v_cd_Heap_need_box v_ct_Heap_need_box), s_sl_Heap_need_box⟩)
    (hk_Heap_need_box : PySem.W.codeIn K v_cd_Heap_need_box "Heap.need_box" = true)
    (hp_Heap_need_box : PySem.W.keepIn K (.ref f_Heap_need_box) = true)
    (ha_Heap_look : PySem.W.findIn K (.ref a_Heap) "look" = some (some (.ref f_Heap_look)))
    (hi_Heap_look : PySem.W.isFn K (.ref f_Heap_look) = true)
    (hl_Heap_look : K.lookup f_Heap_look = some ⟨v_oc_Heap_look, o_od_Heap_look, .func (PySem.W.fnOf "look" "Heap.look" (defArgs s_Heap_look) (defBody s_Heap_look) (defScope s_Heap_look) .none v_kV_Heap_look v_dc_Heap_look v_pm_Heap_look o_an_Heap_look v_cd_Heap_look v_ct_Heap_look), s_sl_Heap_look⟩)
    (hk_Heap_look : PySem.W.codeIn K v_cd_Heap_look "Heap.look" = true)
    (hp_Heap_look : PySem.W.keepIn K (.ref f_Heap_look) = true)
    (ha_is_box : PySem.W.nsIn K mainGlobals "is_box" = some (some (.ref f_is_box)))
    (hl_is_box : K.lookup f_is_box = some ⟨v_oc_is_box, o_od_is_box, .func (PySem.W.fnOf "is_box" "is_box" (defArgs s_is_box) (defBody s_is_box) (defScope s_is_box) .none v_kV_is_box v_dc_is_box v_pm_is_box o_an_is_box v_cd_is_box v_ct_is_box), s_sl_is_box⟩)
    (hk_is_box : PySem.W.codeIn K v_cd_is_box "is_box" = true)
    (hp_is_box : PySem.W.keepIn K (.ref f_is_box) = true)
    (ha_item_at : PySem.W.nsIn K mainGlobals "item_at" = some (some (.ref f_item_at)))
    (hl_item_at : K.lookup f_item_at = some ⟨v_oc_item_at, o_od_item_at, .func (PySem.W.fnOf "item_at" "item_at" (defArgs s_item_at) (defBody s_item_at) (defScope s_item_at) .none v_kV_item_at v_dc_item_at v_pm_item_at o_an_item_at v_cd_item_at v_ct_item_at), s_sl_item_at⟩)
    (hk_item_at : PySem.W.codeIn K v_cd_item_at "item_at" = true)
    (hp_item_at : PySem.W.keepIn K (.ref f_item_at) = true)
    (ha_law_at : PySem.W.nsIn K mainGlobals "_law_at" = some (some (.ref f_law_at)))
    (hl_law_at : K.lookup f_law_at = some ⟨v_oc_law_at, o_od_law_at, .func (PySem.W.fnOf "_law_at" "_law_at" (defArgs s_law_at) (defBody s_law_at) (defScope s_law_at) .none v_kV_law_at v_dc_law_at v_pm_law_at o_an_law_at v_cd_law_at v_ct_law_at), s_sl_law_at⟩)
    (hk_law_at : PySem.W.codeIn K v_cd_law_at "_law_at" = true)
    (hp_law_at : PySem.W.keepIn K (.ref f_law_at) = true)
    (ha_law_bag : PySem.W.nsIn K mainGlobals "_law_bag" = some (some (.ref f_law_bag)))
    (hl_law_bag : K.lookup f_law_bag = some ⟨v_oc_law_bag, o_od_law_bag, .func (PySem.W.fnOf "_law_bag" "_law_bag" (defArgs s_law_bag) (defBody s_law_bag) (defScope s_law_bag) .none v_kV_law_bag v_dc_law_bag v_pm_law_bag o_an_law_bag v_cd_law_bag v_ct_law_bag), s_sl_law_bag⟩)
    (hk_law_bag : PySem.W.codeIn K v_cd_law_bag "_law_bag" = true)
    (hp_law_bag : PySem.W.keepIn K (.ref f_law_bag) = true)
    (ha_law_take : PySem.W.nsIn K mainGlobals "_law_take" = some (some (.ref f_law_take)))
    (hl_law_take : K.lookup f_law_take = some ⟨v_oc_law_take, o_od_law_take, .func (PySem.W.fnOf "_law_take" "_law_take" (defArgs s_law_take) (defBody s_law_take) (defScope s_law_take) .none v_kV_law_take v_dc_law_take v_pm_law_take o_an_law_take v_cd_law_take v_ct_law_take), s_sl_law_take⟩)
    (hk_law_take : PySem.W.codeIn K v_cd_law_take "_law_take" = true)
    (hp_law_take : PySem.W.keepIn K (.ref f_law_take) = true)
    (ha_law_leaf : PySem.W.nsIn K mainGlobals "_law_leaf" = some (some (.ref f_law_leaf)))
    (hl_law_leaf : K.lookup f_law_leaf = some ⟨v_oc_law_leaf, o_od_law_leaf, .func (PySem.W.fnOf "_law_leaf" "_law_leaf" (defArgs s_law_leaf) (defBody s_law_leaf) (defScope s_law_leaf) .none v_kV_law_leaf v_dc_law_leaf v_pm_law_leaf o_an_law_leaf v_cd_law_leaf v_ct_law_leaf), s_sl_law_leaf⟩)
    (hk_law_leaf : PySem.W.codeIn K v_cd_law_leaf "_law_leaf" = true)
    (hp_law_leaf : PySem.W.keepIn K (.ref f_law_leaf) = true)
    (ha_law_contents : PySem.W.nsIn K mainGlobals "_law_contents" = some (some (.ref f_law_contents)))
    (hl_law_contents : K.lookup f_law_contents = some ⟨v_oc_law_contents, o_od_law_contents, .func (PySem.W.fnOf "_law_contents" "_law_contents" (defArgs s_law_contents) (defBody s_law_contents) (defScope s_law_contents) .none v_kV_law_contents v_dc_law_contents v_pm_law_contents o_an_law_contents v_cd_law_contents v_ct_law_contents), s_sl_law_contents⟩)
    (hk_law_contents : PySem.W.codeIn K v_cd_law_contents "_law_contents" = true)
    (hp_law_contents : PySem.W.keepIn K (.ref f_law_contents) = true)
    (ha_law_path : PySem.W.nsIn K mainGlobals "_law_path" = some (some (.ref f_law_path)))
    (hl_law_path : K.lookup f_law_path = some ⟨v_oc_law_path, o_od_law_path, .func (PySem.W.fnOf "_law_path" "_law_path" (defArgs s_law_path) (defBody s_law_path) (defScope s_law_path) .none v_kV_law_path v_dc_law_path v_pm_law_path o_an_law_path v_cd_law_path v_ct_law_path), s_sl_law_path⟩)
    (hk_law_path : PySem.W.codeIn K v_cd_law_path "_law_path" = true)
    (hp_law_path : PySem.W.keepIn K (.ref f_law_path) = true)
    (ha_law_why : PySem.W.nsIn K mainGlobals "_law_why" = some (some (.ref f_law_why)))
    (hl_law_why : K.lookup f_law_why = some ⟨v_oc_law_why, o_od_law_why, .func (PySem.W.fnOf "_law_why" "_law_why" (defArgs s_law_why) (defBody s_law_why) (defScope s_law_why) .none v_kV_law_why v_dc_law_why v_pm_law_why o_an_law_why v_cd_law_why v_ct_law_why), s_sl_law_why⟩)
    (hk_law_why : PySem.W.codeIn K v_cd_law_why "_law_why" = true)
    (hp_law_why : PySem.W.keepIn K (.ref f_law_why) = true)
    (ha_law : PySem.W.nsIn K mainGlobals "law" = some (some (.ref f_law)))
    (hl_law : K.lookup f_law = some ⟨v_oc_law, o_od_law, .func (PySem.W.fnOf "law" "law" (defArgs s_law) (defBody s_law) (defScope s_law) .none v_kV_law v_dc_law v_pm_law o_an_law v_cd_law v_ct_law), s_sl_law⟩)
    (hk_law : PySem.W.codeIn K v_cd_law "law" = true)
    (hp_law : PySem.W.keepIn K (.ref f_law) = true)
    (he_BadItem_ini : PySem.W.excInitIn K a_BadItem [.type "ValueError", .type "Exception", .type "BaseException", .type "object"] "ValueError.__new__" = true)
    (he_BadItem_ov : PySem.W.excOver K a_BadItem [.type "ValueError", .type "Exception", .type "BaseException", .type "object"] = true)
    (he_BadItem_sa : PySem.W.findIn K (.ref a_BadItem) "__setattr__" = some (some (.builtin "object.__setattr__")))
    (he_BadItem_hd : PySem.W.hasDictIn K a_BadItem = true)
    (he_BadItem_exC : PySem.W.subIn K (.ref a_BadItem) (.type "BaseException") = some true)
    (he_BadItem_tyC : PySem.W.typeIn K (.ref a_BadItem) = some (.type "type"))
    (he_BadItem_kC : PySem.W.keepIn K (.ref a_BadItem) = true)
    (hno_BadItem : PySem.W.findIn K (.ref a_BadItem) "item" = some none)
    (hvv_BadItem : PySem.W.findCls K (.ref a_RingError) (.type "type") "__init__" = some (.val (.builtin "ValueError.__init__")))
    (hhh_BadItem : PySem.W.handedIn (.builtin "ValueError.__init__") = true)
    (he_Full_ini : PySem.W.excInitIn K a_Full [.type "OverflowError", .type "ArithmeticError", .type "Exception", .type "BaseException", .type "object"] "OverflowError.__new__" = true)
    (he_Full_ov : PySem.W.excOver K a_Full [.type "OverflowError", .type "ArithmeticError", .type "Exception", .type "BaseException", .type "object"] = true)
    (he_Full_sa : PySem.W.findIn K (.ref a_Full) "__setattr__" = some (some (.builtin "object.__setattr__")))
    (he_Full_hd : PySem.W.hasDictIn K a_Full = true)
    (he_Full_exC : PySem.W.subIn K (.ref a_Full) (.type "BaseException") = some true)
    (he_Full_tyC : PySem.W.typeIn K (.ref a_Full) = some (.type "type"))
    (he_Full_kC : PySem.W.keepIn K (.ref a_Full) = true)
    (hno_Full : PySem.W.findIn K (.ref a_Full) "most" = some none)
    (hvv_Full : PySem.W.findCls K (.type "OverflowError") (.type "type") "__init__" = some (.val (.builtin "OverflowError.__init__")))
    (hhh_Full : PySem.W.handedIn (.builtin "OverflowError.__init__") = true)
    (he_NoBox_ini : PySem.W.excInitIn K a_NoBox [.type "LookupError", .type "Exception", .type "BaseException", .type "object"] "LookupError.__new__" = true)
    (he_NoBox_ov : PySem.W.excOver K a_NoBox [.type "LookupError", .type "Exception", .type "BaseException", .type "object"] = true)
    (he_NoBox_sa : PySem.W.findIn K (.ref a_NoBox) "__setattr__" = some (some (.builtin "object.__setattr__")))
    (he_NoBox_hd : PySem.W.hasDictIn K a_NoBox = true)
    (he_NoBox_exC : PySem.W.subIn K (.ref a_NoBox) (.type "BaseException") = some true)
    (he_NoBox_tyC : PySem.W.typeIn K (.ref a_NoBox) = some (.type "type"))
    (he_NoBox_kC : PySem.W.keepIn K (.ref a_NoBox) = true)
    (hno_NoBox : PySem.W.findIn K (.ref a_NoBox) "number" = some none)
    (hvv_NoBox : PySem.W.findCls K (.type "LookupError") (.type "type") "__init__" = some (.val (.builtin "LookupError.__init__")))
    (hhh_NoBox : PySem.W.handedIn (.builtin "LookupError.__init__") = true)
    (hx_NoBox_ga : PySem.W.findIn K (.ref a_NoBox) "__getattribute__" = some (some (.builtin "BaseException.__getattribute__")))
    (hx_NoBox_gg : PySem.W.findIn K (.ref a_NoBox) "__getattr__" = some none)
    (hx_NoBox_exC : PySem.W.subIn K (.ref a_NoBox) (.type "BaseException") = some true)
    (hx_NoBox_hdC : PySem.W.hasDictIn K a_NoBox = true)
    (hb_KHeap_pg : PySem.W.plainGet K a_Heap Str.empty = true)
    (hb_KHeap_hd : PySem.W.hasDictIn K a_Heap = true)
    (hb_KHeap_po : PySem.W.plainOver K a_Heap = true)
    (hb_KHeap_sa : PySem.W.findIn K (.ref a_Heap) "__setattr__" = some (some (.builtin "object.__setattr__")))
    (hb_KHeap_na : PySem.W.findIn K (.ref a_Heap) "lists" = some none)
    (hb_KMost_rd : PySem.W.readsIn K a_Heap (.type "type") = true)
    (hb_KMost_ga : PySem.W.specialIn K (.ref a_Heap) "__getattribute__" = some (some (.builtin "type.__getattribute__")))
    (hb_KMost_mb : PySem.W.findCls K (.ref a_Heap) (.type "type") "MOST_BOXES" = some (.val (.int 60 t_KMost_mb)))
    (hb_KMost_mi : PySem.W.findCls K (.ref a_Heap) (.type "type") "MOST_ITEMS" = some (.val (.int 300 t_KMost_mi)))
    (hb_KWhy_e1 : PySem.W.exmOne K (.ref a_NoBox) (.ref a_NoBox) = some true)
    (hb_KWhy_i1 : PySem.W.kitOne K (.ref a_NoBox) (.type "LookupError") = some true)
    (hb_KWhy_i2 : PySem.W.kitOne K (.ref a_NoBox) (.ref a_RingError) = some false)
    (hb_KWhy_bg : PySem.W.findIn K (.ref a_NoBox) "__getattribute__" = some (some (.builtin "BaseException.__getattribute__")))
    (hb_KWhy_bk : PySem.W.findIn K (.ref a_NoBox) "__getattr__" = some none)
    (hb_KWhy_bs : PySem.W.subIn K (.ref a_NoBox) (.type "BaseException") = some true)
    (hb_KWhy_bd : PySem.W.hasDictIn K a_NoBox = true)
    (hb_KWhy_ba : PySem.W.findIn K (.ref a_NoBox) "__class__" = some (some (.builtin "object.__class__")))
    (hb_KWhy_bm : PySem.W.mroIn K a_NoBox (.type "object") = some true)
    (hb_KWhy_hn : PySem.W.specialIn K (.builtin "object.__class__") "__get__" = some (some (.builtin "getset_descriptor.__get__")))
    (hb_KWhy_ht : PySem.W.takesIn K (.builtin "object.__class__") = some true)
    : ∃ fd : FuncData, (∀ (s : Shared) (u : Value), BindsTo s fd ⟨[u], []⟩ [("_law_script", u)]) ∧ ∀ base : Heap, K.In base → base.Ns mainGlobals mg → FnG l.prog w K mg base CX0 8 fa fd ["_law_script"] (spLaw K) := by
  have e := hfa.symm.trans (PySem.W.mg_of X G ha_law)
  cases e
  let c : Ads := { RingError := a_RingError, BadItem := a_BadItem, BadLimit := 0, BadSign := 0, NoOrder := 0, NotThere := 0, BadText := 0, BadChoices := 0, BadRow := 0, NoBox := a_NoBox, NoPlace := 0, Full := a_Full, TooMany := 0, TooDeep := 0, Endless := 0, NothingDone := 0, Heap := a_Heap, Verdicts := 0, Outcome := 0, Writer := 0, Parser := 0, Pairing := 0, Values := 0, Walk := 0, Desk := 0, SIGNS := 0, FORMS := 0, CHECKS := 0, SHAPE_CHECKS := 0 }
  let T : Txt K mg c := { f_BadItem_init := f_BadItem_init, d_BadItem_init := _, f_Full_init := f_Full_init, d_Full_init := _, f_Heap_len := f_Heap_len, d_Heap_len := _, f_Heap_need_room := f_Heap_need_room, d_Heap_need_room := _, f_is_integer := f_is_integer, d_is_integer := _, f_is_word := f_is_word, d_is_word := _, f_is_leaf := f_is_leaf, d_is_leaf := _, f_is_within := f_is_within, d_is_within := _, f_is_reference := f_is_reference, d_is_reference := _, f_is_item := f_is_item, d_is_item := _, f_Heap_init := f_Heap_init, d_Heap_init := _, f_Heap_of := f_Heap_of, d_Heap_of := _, p_Heap_of := p_Heap_of, f_Heap_contains := f_Heap_contains, d_Heap_contains := _, f_NoBox_init := f_NoBox_init, d_NoBox_init := _, f_Heap_need_box := f_Heap_need_box, d_Heap_need_box := _, f_Heap_look := f_Heap_look, d_Heap_look := _, f_is_box := f_is_box, d_is_box := _, f_item_at := f_item_at, d_item_at := _, f_law_at := f_law_at, d_law_at := _, f_law_bag := f_law_bag, d_law_bag := _, f_law_take := f_law_take, d_law_take := _, f_law_leaf := f_law_leaf, d_law_leaf := _, f_law_contents := f_law_contents, d_law_contents := _, f_law_path := f_law_path, d_law_path := _, f_law_why := f_law_why, d_law_why := _, f_law := fa, d_law := _, g_BadItem := PySem.W.mg_of X G hg_BadItem, g_Full := PySem.W.mg_of X G hg_Full, g_Heap := PySem.W.mg_of X G hg_Heap, g_NoBox := PySem.W.mg_of X G hg_NoBox, g_RingError := PySem.W.mg_of X G hg_RingError, cl_Heap := ⟨hc_Heap_pg, hc_Heap_hd, hc_Heap_po, hc_Heap_sa⟩, cr_Heap := ⟨hr_Heap_rd, hr_Heap_ga⟩, g_BOX := ⟨_, PySem.W.mg_of X G hg_BOX⟩, g_LETTERS := ⟨_, PySem.W.mg_of X G hg_LETTERS⟩, g_MOST_LETTERS := ⟨_, PySem.W.mg_of X G hg_MOST_LETTERS⟩, n_LookupError := PySem.W.mg_none_of X G hn_LookupError, n_OverflowError := PySem.W.mg_none_of X G hn_OverflowError, n_abs := PySem.W.mg_none_of X G hn_abs, n_all := PySem.W.mg_none_of X G hn_all, n_bool := PySem.W.mg_none_of X G hn_bool, n_int := PySem.W.mg_none_of X G hn_int, n_isinstance := PySem.W.mg_none_of X G hn_isinstance, n_len := PySem.W.mg_none_of X G hn_len, n_list := PySem.W.mg_none_of X G hn_list, n_max := PySem.W.mg_none_of X G hn_max, n_min := PySem.W.mg_none_of X G hn_min, n_range := PySem.W.mg_none_of X G hn_range, n_repr := PySem.W.mg_none_of X G hn_repr, n_str := PySem.W.mg_none_of X G hn_str, n_tuple := PySem.W.mg_none_of X G hn_tuple, rr_RingError := ⟨hq_RingError_rd, hq_RingError_ga⟩, F_BadItem_init := fun_mk hl_BadItem_init hk_BadItem_init hp_BadItem_init, ic_BadItem := ha_BadItem_init, ti_BadItem := hi_BadItem_init, F_Full_init := fun_mk hl_Full_init hk_Full_init hp_Full_init, ic_Full := ha_Full_init, ti_Full := hi_Full_init, F_Heap_len := fun_mk hl_Heap_len hk_Heap_len hp_Heap_len, m_Heap_len := ⟨ha_Heap_len, hi_Heap_len, hp_Heap_len⟩, F_Heap_need_room := fun_mk hl_Heap_need_room hk_Heap_need_room hp_Heap_need_room, m_Heap_need_room := ⟨ha_Heap_need_room, hi_Heap_need_room, hp_Heap_need_room⟩, F_is_integer := fun_mk hl_is_integer hk_is_integer hp_is_integer, g_is_integer := PySem.W.mg_of X G ha_is_integer, k_is_integer := hp_is_integer, F_is_word := fun_mk hl_is_word hk_is_word hp_is_word, g_is_word := PySem.W.mg_of X G ha_is_word, k_is_word := hp_is_word, F_is_leaf := fun_mk hl_is_leaf hk_is_leaf hp_is_leaf, g_is_leaf := PySem.W.mg_of X G ha_is_leaf, k_is_leaf := hp_is_leaf, F_is_within := fun_mk hl_is_within hk_is_within hp_is_within, g_is_within := PySem.W.mg_of X G ha_is_within, k_is_within := hp_is_within, F_is_reference := fun_mk hl_is_reference hk_is_reference hp_is_reference, g_is_reference := PySem.W.mg_of X G ha_is_reference, k_is_reference := hp_is_reference, F_is_item := fun_mk hl_is_item hk_is_item hp_is_item, g_is_item := PySem.W.mg_of X G ha_is_item, k_is_item := hp_is_item, F_Heap_init := fun_mk hl_Heap_init hk_Heap_init hp_Heap_init, mk_Heap := ⟨hm_Heap, ha_Heap_init, hi_Heap_init, hmk_Heap⟩, F_Heap_of := fun_mk hl_Heap_of hk_Heap_of hp_Heap_of, cm_Heap_of := ⟨ha_Heap_of, ⟨_, hr_Heap_of⟩, hi_Heap_of⟩, F_Heap_contains := fun_mk hl_Heap_contains hk_Heap_contains hp_Heap_contains, m_Heap_contains := ⟨ha_Heap_contains, hi_Heap_contains, hp_Heap_contains⟩, F_NoBox_init := fun_mk hl_NoBox_init hk_NoBox_init hp_NoBox_init, ic_NoBox := ha_NoBox_init, ti_NoBox := hi_NoBox_init, F_Heap_need_box := fun_mk hl_Heap_need_box hk_Heap_need_box hp_Heap_need_box, m_Heap_need_box := ⟨ha_Heap_need_box, hi_Heap_need_box, hp_Heap_need_box⟩, F_Heap_look := fun_mk hl_Heap_look hk_Heap_look hp_Heap_look, m_Heap_look := ⟨ha_Heap_look, hi_Heap_look, hp_Heap_look⟩, F_is_box := fun_mk hl_is_box hk_is_box hp_is_box, g_is_box := PySem.W.mg_of X G ha_is_box, k_is_box := hp_is_box, F_item_at := fun_mk hl_item_at hk_item_at hp_item_at, g_item_at := PySem.W.mg_of X G ha_item_at, k_item_at := hp_item_at, F_law_at := fun_mk hl_law_at hk_law_at hp_law_at, g_law_at := PySem.W.mg_of X G ha_law_at, k_law_at := hp_law_at, F_law_bag := fun_mk hl_law_bag hk_law_bag hp_law_bag, g_law_bag := PySem.W.mg_of X G ha_law_bag, k_law_bag := hp_law_bag, F_law_take := fun_mk hl_law_take hk_law_take hp_law_take, g_law_take := PySem.W.mg_of X G ha_law_take, k_law_take := hp_law_take, F_law_leaf := fun_mk hl_law_leaf hk_law_leaf hp_law_leaf, g_law_leaf := PySem.W.mg_of X G ha_law_leaf, k_law_leaf := hp_law_leaf, F_law_contents := fun_mk hl_law_contents hk_law_contents hp_law_contents, g_law_contents := PySem.W.mg_of X G ha_law_contents, k_law_contents := hp_law_contents, F_law_path := fun_mk hl_law_path hk_law_path hp_law_path, g_law_path := PySem.W.mg_of X G ha_law_path, k_law_path := hp_law_path, F_law_why := fun_mk hl_law_why hk_law_why hp_law_why, g_law_why := PySem.W.mg_of X G ha_law_why, k_law_why := hp_law_why, F_law := fun_mk hl_law hk_law hp_law, g_law := PySem.W.mg_of X G ha_law, k_law := hp_law, ek_BadItem := ⟨PySem.F.excBase_ValueError, PySem.F.store_ValueError, he_BadItem_ini, he_BadItem_ov, he_BadItem_sa, he_BadItem_hd, he_BadItem_exC, he_BadItem_tyC, he_BadItem_kC⟩, no_BadItem := hno_BadItem, vv_BadItem := hvv_BadItem, hh_BadItem := hhh_BadItem, ek_Full := ⟨PySem.F.excBase_OverflowError, PySem.F.store_OverflowError, he_Full_ini, he_Full_ov, he_Full_sa, he_Full_hd, he_Full_exC, he_Full_tyC, he_Full_kC⟩, no_Full := hno_Full, vv_Full := hvv_Full, hh_Full := hhh_Full, ek_NoBox := ⟨PySem.F.excBase_LookupError, PySem.F.store_LookupError, he_NoBox_ini, he_NoBox_ov, he_NoBox_sa, he_NoBox_hd, he_NoBox_exC, he_NoBox_tyC, he_NoBox_kC⟩, no_NoBox := hno_NoBox, vv_NoBox := hvv_NoBox, hh_NoBox := hhh_NoBox, xf_NoBox := ⟨hx_NoBox_ga, hx_NoBox_gg, hx_NoBox_exC, hx_NoBox_hdC⟩, fKHeap := ⟨hb_KHeap_pg, hb_KHeap_hd, hb_KHeap_po, hb_KHeap_sa, hb_KHeap_na⟩, fKMost := ⟨hb_KMost_rd, hb_KMost_ga, ⟨_, hb_KMost_mb⟩, ⟨_, hb_KMost_mi⟩⟩, fKWhy := ⟨hb_KWhy_e1, hb_KWhy_i1, hb_KWhy_i2, hb_KWhy_bg, hb_KWhy_bk, hb_KWhy_bs, hb_KWhy_bd, hb_KWhy_ba, hb_KWhy_bm, hb_KWhy_hn, hb_KWhy_ht⟩ }
  exact ⟨T.d_law, fun s v => .of_eq rfl, fun base _ _ => ok_law T⟩
end RB
open PySem PySem.W PyProof.Rows
set_option maxRecDepth 100000 in
set_option maxHeartbeats 0 in
theorem PySem.Challenge.cw_ringlists_k51_paths_holds : PySem.Challenge.rw_ringlists_k51_paths.Holds := by
  w_on; o_law; k_head; (case hw => w_witness2)
  k_fill
  refine RB.walk_ofG (n := 63) (k := 8) (x := "_law_script") (sp := RB.spLaw) rfl (by decide) rfl ⟨rfl, by decide, by decide⟩ (fun w h Y => PySem.W.kIn_of Y) ?F (fun K H a ns hl hO hS => ⟨a, ns, rfl, hS, hl, fun _ => rfl⟩)
  case F =>
    intro w mg fa h KX G hmg
    refine' RB.all_mk (l := PySem.Challenge.rw_ringlists_k51_paths) KX G hmg ?hg_BadItem ?hg_Full ?hg_Heap ?hg_NoBox ?hg_RingError ?hc_Heap_pg ?hc_Heap_hd ?hc_Heap_po ?hc_Heap_sa ?hr_Heap_rd ?hr_Heap_ga ?hg_BOX ?hg_LETTERS ?hg_MOST_LETTERS ?hn_LookupError ?hn_OverflowError ?hn_abs ?hn_all ?hn_bool ?hn_int ?hn_isinstance ?hn_len ?hn_list ?hn_max ?hn_min ?hn_range ?hn_repr ?hn_str ?hn_tuple ?hq_RingError_rd ?hq_RingError_ga ?ha_BadItem_init ?hi_BadItem_init ?hl_BadItem_init ?hk_BadItem_init ?hp_BadItem_init ?ha_Full_init ?hi_Full_init ?hl_Full_init ?hk_Full_init ?hp_Full_init ?ha_Heap_len ?hi_Heap_len ?hl_Heap_len ?hk_Heap_len ?hp_Heap_len ?ha_Heap_need_room ?hi_Heap_need_room ?hl_Heap_need_room ?hk_Heap_need_room ?hp_Heap_need_room ?ha_is_integer ?hl_is_integer ?hk_is_integer ?hp_is_integer ?ha_is_word ?hl_is_word ?hk_is_word ?hp_is_word ?ha_is_leaf ?hl_is_leaf ?hk_is_leaf ?hp_is_leaf ?ha_is_within ?hl_is_within ?hk_is_within ?hp_is_within ?ha_is_reference ?hl_is_reference ?hk_is_reference ?hp_is_reference ?ha_is_item ?hl_is_item ?hk_is_item ?hp_is_item ?ha_Heap_init ?hi_Heap_init ?hl_Heap_init ?hk_Heap_init ?hp_Heap_init ?hm_Heap ?hmk_Heap ?ha_Heap_of ?hr_Heap_of ?hi_Heap_of ?hl_Heap_of ?hk_Heap_of ?hp_Heap_of ?ha_Heap_contains ?hi_Heap_contains ?hl_Heap_contains ?hk_Heap_contains ?hp_Heap_contains ?ha_NoBox_init ?hi_NoBox_init ?hl_NoBox_init ?hk_NoBox_init ?hp_NoBox_init ?ha_Heap_need_box ?hi_Heap_need_box ?hl_Heap_need_box ?hk_Heap_need_box ?hp_Heap_need_box ?ha_Heap_look ?hi_Heap_look ?hl_Heap_look ?hk_Heap_look ?hp_Heap_look ?ha_is_box ?hl_is_box ?hk_is_box ?hp_is_box ?ha_item_at ?hl_item_at ?hk_item_at ?hp_item_at ?ha_law_at ?hl_law_at ?hk_law_at ?hp_law_at ?ha_law_bag ?hl_law_bag ?hk_law_bag ?hp_law_bag ?ha_law_take ?hl_law_take ?hk_law_take ?hp_law_take ?ha_law_leaf ?hl_law_leaf ?hk_law_leaf ?hp_law_leaf ?ha_law_contents ?hl_law_contents ?hk_law_contents ?hp_law_contents ?ha_law_path ?hl_law_path ?hk_law_path ?hp_law_path ?ha_law_why ?hl_law_why ?hk_law_why ?hp_law_why ?ha_law ?hl_law ?hk_law ?hp_law ?he_BadItem_ini ?he_BadItem_ov ?he_BadItem_sa ?he_BadItem_hd ?he_BadItem_exC ?he_BadItem_tyC ?he_BadItem_kC ?hno_BadItem ?hvv_BadItem ?hhh_BadItem ?he_Full_ini ?he_Full_ov ?he_Full_sa ?he_Full_hd ?he_Full_exC ?he_Full_tyC ?he_Full_kC ?hno_Full ?hvv_Full ?hhh_Full ?he_NoBox_ini ?he_NoBox_ov ?he_NoBox_sa ?he_NoBox_hd ?he_NoBox_exC ?he_NoBox_tyC ?he_NoBox_kC ?hno_NoBox ?hvv_NoBox ?hhh_NoBox ?hx_NoBox_ga ?hx_NoBox_gg ?hx_NoBox_exC ?hx_NoBox_hdC ?hb_KHeap_pg ?hb_KHeap_hd ?hb_KHeap_po ?hb_KHeap_sa ?hb_KHeap_na ?hb_KMost_rd ?hb_KMost_ga ?hb_KMost_mb ?hb_KMost_mi ?hb_KWhy_e1 ?hb_KWhy_i1 ?hb_KWhy_i2 ?hb_KWhy_bg ?hb_KWhy_bk ?hb_KWhy_bs ?hb_KWhy_bd ?hb_KWhy_ba ?hb_KWhy_bm ?hb_KWhy_hn ?hb_KWhy_ht
    (case hg_BadItem => first | k_is | rfl)
    (case hg_Full => first | k_is | rfl)
    (case hg_Heap => first | k_is | rfl)
    (case hg_NoBox => first | k_is | rfl)
    (case hg_RingError => first | k_is | rfl)
    (case hc_Heap_pg => first | k_is | rfl)
    (case hc_Heap_hd => first | k_is | rfl)
    (case hc_Heap_po => first | k_is | rfl)
    (case hc_Heap_sa => first | k_is | rfl)
    (case hr_Heap_rd => first | k_is | rfl)
    (case hr_Heap_ga => first | k_is | rfl)
    (case hg_BOX => first | k_is | rfl)
    (case hg_LETTERS => first | k_is | rfl)
    (case hg_MOST_LETTERS => first | k_is | rfl)
    (case hn_LookupError => first | k_is | rfl)
    (case hn_OverflowError => first | k_is | rfl)
    (case hn_abs => first | k_is | rfl)
    (case hn_all => first | k_is | rfl)
    (case hn_bool => first | k_is | rfl)
    (case hn_int => first | k_is | rfl)
    (case hn_isinstance => first | k_is | rfl)
    (case hn_len => first | k_is | rfl)
    (case hn_list => first | k_is | rfl)
    (case hn_max => first | k_is | rfl)
    (case hn_min => first | k_is | rfl)
    (case hn_range => first | k_is | rfl)
    (case hn_repr => first | k_is | rfl)
    (case hn_str => first | k_is | rfl)
    (case hn_tuple => first | k_is | rfl)
    (case hq_RingError_rd => first | k_is | rfl)
    (case hq_RingError_ga => first | k_is | rfl)
    (case ha_BadItem_init => first | k_is | rfl)
    (case hi_BadItem_init => first | k_is | rfl)
    (case hl_BadItem_init => first | k_is | rfl)
    (case hk_BadItem_init => first | k_is | rfl)
    (case hp_BadItem_init => first | k_is | rfl)
    (case ha_Full_init => first | k_is | rfl)
    (case hi_Full_init => first | k_is | rfl)
    (case hl_Full_init => first | k_is | rfl)
    (case hk_Full_init => first | k_is | rfl)
    (case hp_Full_init => first | k_is | rfl)
    (case ha_Heap_len => first | k_is | rfl)
    (case hi_Heap_len => first | k_is | rfl)
    (case hl_Heap_len => first | k_is | rfl)
    (case hk_Heap_len => first | k_is | rfl)
    (case hp_Heap_len => first | k_is | rfl)
    (case ha_Heap_need_room => first | k_is | rfl)
    (case hi_Heap_need_room => first | k_is | rfl)
    (case hl_Heap_need_room => first | k_is | rfl)
    (case hk_Heap_need_room => first | k_is | rfl)
    (case hp_Heap_need_room => first | k_is | rfl)
    (case ha_is_integer => first | k_is | rfl)
    (case hl_is_integer => first | k_is | rfl)
    (case hk_is_integer => first | k_is | rfl)
    (case hp_is_integer => first | k_is | rfl)
    (case ha_is_word => first | k_is | rfl)
    (case hl_is_word => first | k_is | rfl)
    (case hk_is_word => first | k_is | rfl)
    (case hp_is_word => first | k_is | rfl)
    (case ha_is_leaf => first | k_is | rfl)
    (case hl_is_leaf => first | k_is | rfl)
    (case hk_is_leaf => first | k_is | rfl)
    (case hp_is_leaf => first | k_is | rfl)
    (case ha_is_within => first | k_is | rfl)
    (case hl_is_within => first | k_is | rfl)
    (case hk_is_within => first | k_is | rfl)
    (case hp_is_within => first | k_is | rfl)
    (case ha_is_reference => first | k_is | rfl)
    (case hl_is_reference => first | k_is | rfl)
    (case hk_is_reference => first | k_is | rfl)
    (case hp_is_reference => first | k_is | rfl)
    (case ha_is_item => first | k_is | rfl)
    (case hl_is_item => first | k_is | rfl)
    (case hk_is_item => first | k_is | rfl)
    (case hp_is_item => first | k_is | rfl)
    (case ha_Heap_init => first | k_is | rfl)
    (case hi_Heap_init => first | k_is | rfl)
    (case hl_Heap_init => first | k_is | rfl)
    (case hk_Heap_init => first | k_is | rfl)
    (case hp_Heap_init => first | k_is | rfl)
    (case hm_Heap => first | k_is | rfl)
    (case hmk_Heap => first | k_is | rfl)
    (case ha_Heap_of => first | k_is | rfl)
    (case hr_Heap_of => first | k_is | rfl)
    (case hi_Heap_of => first | k_is | rfl)
    (case hl_Heap_of => first | k_is | rfl)
    (case hk_Heap_of => first | k_is | rfl)
    (case hp_Heap_of => first | k_is | rfl)
    (case ha_Heap_contains => first | k_is | rfl)
    (case hi_Heap_contains => first | k_is | rfl)
    (case hl_Heap_contains => first | k_is | rfl)
    (case hk_Heap_contains => first | k_is | rfl)
    (case hp_Heap_contains => first | k_is | rfl)
    (case ha_NoBox_init => first | k_is | rfl)
    (case hi_NoBox_init => first | k_is | rfl)
    (case hl_NoBox_init => first | k_is | rfl)
    (case hk_NoBox_init => first | k_is | rfl)
    (case hp_NoBox_init => first | k_is | rfl)
    (case ha_Heap_need_box => first | k_is | rfl)
    (case hi_Heap_need_box => first | k_is | rfl)
    (case hl_Heap_need_box => first | k_is | rfl)
    (case hk_Heap_need_box => first | k_is | rfl)
    (case hp_Heap_need_box => first | k_is | rfl)
    (case ha_Heap_look => first | k_is | rfl)
    (case hi_Heap_look => first | k_is | rfl)
    (case hl_Heap_look => first | k_is | rfl)
    (case hk_Heap_look => first | k_is | rfl)
    (case hp_Heap_look => first | k_is | rfl)
    (case ha_is_box => first | k_is | rfl)
    (case hl_is_box => first | k_is | rfl)
    (case hk_is_box => first | k_is | rfl)
    (case hp_is_box => first | k_is | rfl)
    (case ha_item_at => first | k_is | rfl)
    (case hl_item_at => first | k_is | rfl)
    (case hk_item_at => first | k_is | rfl)
    (case hp_item_at => first | k_is | rfl)
    (case ha_law_at => first | k_is | rfl)
    (case hl_law_at => first | k_is | rfl)
    (case hk_law_at => first | k_is | rfl)
    (case hp_law_at => first | k_is | rfl)
    (case ha_law_bag => first | k_is | rfl)
    (case hl_law_bag => first | k_is | rfl)
    (case hk_law_bag => first | k_is | rfl)
    (case hp_law_bag => first | k_is | rfl)
    (case ha_law_take => first | k_is | rfl)
    (case hl_law_take => first | k_is | rfl)
    (case hk_law_take => first | k_is | rfl)
    (case hp_law_take => first | k_is | rfl)
    (case ha_law_leaf => first | k_is | rfl)
    (case hl_law_leaf => first | k_is | rfl)
    (case hk_law_leaf => first | k_is | rfl)
    (case hp_law_leaf => first | k_is | rfl)
    (case ha_law_contents => first | k_is | rfl)
    (case hl_law_contents => first | k_is | rfl)
    (case hk_law_contents => first | k_is | rfl)
    (case hp_law_contents => first | k_is | rfl)
    (case ha_law_path => first | k_is | rfl)
    (case hl_law_path => first | k_is | rfl)
    (case hk_law_path => first | k_is | rfl)
    (case hp_law_path => first | k_is | rfl)
    (case ha_law_why => first | k_is | rfl)
    (case hl_law_why => first | k_is | rfl)
    (case hk_law_why => first | k_is | rfl)
    (case hp_law_why => first | k_is | rfl)
    (case ha_law => first | k_is | rfl)
    (case hl_law => first | k_is | rfl)
    (case hk_law => first | k_is | rfl)
    (case hp_law => first | k_is | rfl)
    (case he_BadItem_ini => first | k_is | rfl)
    (case he_BadItem_ov => first | k_is | rfl)
    (case he_BadItem_sa => first | k_is | rfl)
    (case he_BadItem_hd => first | k_is | rfl)
    (case he_BadItem_exC => first | k_is | rfl)
    (case he_BadItem_tyC => first | k_is | rfl)
    (case he_BadItem_kC => first | k_is | rfl)
    (case hno_BadItem => first | k_is | rfl)
    (case hvv_BadItem => first | k_is | rfl)
    (case hhh_BadItem => first | k_is | rfl)
    (case he_Full_ini => first | k_is | rfl)
    (case he_Full_ov => first | k_is | rfl)
    (case he_Full_sa => first | k_is | rfl)
    (case he_Full_hd => first | k_is | rfl)
    (case he_Full_exC => first | k_is | rfl)
    (case he_Full_tyC => first | k_is | rfl)
    (case he_Full_kC => first | k_is | rfl)
    (case hno_Full => first | k_is | rfl)
    (case hvv_Full => first | k_is | rfl)
    (case hhh_Full => first | k_is | rfl)
    (case he_NoBox_ini => first | k_is | rfl)
    (case he_NoBox_ov => first | k_is | rfl)
    (case he_NoBox_sa => first | k_is | rfl)
    (case he_NoBox_hd => first | k_is | rfl)
    (case he_NoBox_exC => first | k_is | rfl)
    (case he_NoBox_tyC => first | k_is | rfl)
    (case he_NoBox_kC => first | k_is | rfl)
    (case hno_NoBox => first | k_is | rfl)
    (case hvv_NoBox => first | k_is | rfl)
    (case hhh_NoBox => first | k_is | rfl)
    (case hx_NoBox_ga => first | k_is | rfl)
    (case hx_NoBox_gg => first | k_is | rfl)
    (case hx_NoBox_exC => first | k_is | rfl)
    (case hx_NoBox_hdC => first | k_is | rfl)
    (case hb_KHeap_pg => first | k_is | rfl)
    (case hb_KHeap_hd => first | k_is | rfl)
    (case hb_KHeap_po => first | k_is | rfl)
    (case hb_KHeap_sa => first | k_is | rfl)
    (case hb_KHeap_na => first | k_is | rfl)
    (case hb_KMost_rd => first | k_is | rfl)
    (case hb_KMost_ga => first | k_is | rfl)
    (case hb_KMost_mb => first | k_is | rfl)
    (case hb_KMost_mi => first | k_is | rfl)
    (case hb_KWhy_e1 => first | k_is | rfl)
    (case hb_KWhy_i1 => first | k_is | rfl)
    (case hb_KWhy_i2 => first | k_is | rfl)
    (case hb_KWhy_bg => first | k_is | rfl)
    (case hb_KWhy_bk => first | k_is | rfl)
    (case hb_KWhy_bs => first | k_is | rfl)
    (case hb_KWhy_bd => first | k_is | rfl)
    (case hb_KWhy_ba => first | k_is | rfl)
    (case hb_KWhy_bm => first | k_is | rfl)
    (case hb_KWhy_hn => first | k_is | rfl)
    (case hb_KWhy_ht => first | k_is | rfl)
#print axioms PySem.Challenge.cw_ringlists_k51_paths_holds
