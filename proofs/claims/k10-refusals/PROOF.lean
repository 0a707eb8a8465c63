import PyProof.Rows.All
import Wide.All
import OpenK.AllK
import Wide.FinOn
import HandS.DeepEq
import HandS.DictComp
import HandS.ForExc
import HandS.ForMost
import HandS.Deep
import HandS.Defaults
import HandS.Wide
import HandS.IsInst
import HandS.TupAny
import HandS.TryMany
import HandS.CallSlots
import HandS.ExcInit
import HandS.TryElse
import HandS.Codes
import HandS.ListItems
import HandS.SortInts
import HandS.Conv
import HandS.WrittenGet
import PyProof.DictRoads
import HandS.List
import PyProof.WalkInts
import HandS.ExcField
import HandS.ExcIs
import KE.KExcIs
import HandS.More
import PySem.Challenge.RW_sealhouse_k10_refusals
set_option Elab.async false
set_option linter.all false
set_option maxRecDepth 100000
set_option maxHeartbeats 4000000
namespace Mp
open PySem L2

def exT (a C : Addr) (od : Option Addr) : HO := .ext fun h => ∃ (oe : Obj) (vs : Array Value), h.get? a = some oe ∧ oe.cls = .ref C ∧ oe.dict = od ∧ oe.data = .fields vs
section
open PySem.W PySem.Calls PyProof.Rows PyProof.V PySem.Spec
variable {prog : Program} {w : World} {K : Type} [DecidableEq K] {knd : HeapKind prog w K} {A : Around} {E : Value → Shared → Prop} {s : Shared}
inductive HitsF {K : Type} (A : Around) (s : Shared) (look : K → Option Value) : List (K × Value) → Bool → Prop
  | nil : HitsF A s look [] true
  | miss {k : K} {v : Value} {r : List (K × Value)} : look k = none → HitsF A s look ((k, v) :: r) false
  | hit {k : K} {v y : Value} {r : List (K × Value)} {e b : Bool} : look k = some y → SeqAt.EqAt A s v y e → HitsF A s look r b → HitsF A s look ((k, v) :: r) (e && b)
theorem HitsF.inv {look : K → Option Value} {k : K} {v : Value} {r : List (K × Value)} {b : Bool} (h : HitsF A s look ((k, v) :: r) b) :
    (look k = none ∧ b = false) ∨ ∃ y e b', look k = some y ∧ SeqAt.EqAt A s v y e ∧ HitsF A s look r b' ∧ b = (e && b') := by
  cases h with
  | miss hn => exact .inl ⟨hn, rfl⟩
  | hit hy he hr => exact .inr ⟨_, _, _, hy, he, hr, rfl⟩
theorem samePairsH {nm : String} {a b : Addr} {ka kb : List (K × Addr × Value)} {r : Bool} {Q : Bool → Shared → Prop} (hu : knd.room A) (ha : (a == sysModules) = false) (hb : (b == sysModules) = false)
    (da : s.heap.DictOfH knd a ka) (db : s.heap.DictOfH knd b kb) (hits : ka.length = kb.length → HitsF A s (fun k => (atKey kb k).map (·.2)) (ka.map fun x => (x.1, x.2.2)) r) (h : Q (ka.length == kb.length && r) s) :
    wpAny (model prog w) A (Builtin.Dict.samePairs nm a b) Q E s := by
  obtain ⟨oa, es, ep, hoa, _, hda, hea, hia, hna⟩ := da
  obtain ⟨ob, es', ep', hob, _, hdb, heb, hib, hnb⟩ := db
  have hla : ka.length = es.size := (size_of_entries hea).symm
  have hlb : kb.length = es'.size := (size_of_entries heb).symm
  rw [hla, hlb] at h
  unfold Builtin.Dict.samePairs Builtin.Dict.showsAll
  rw [if_neg (show ¬ (a == sysModules) = true by rw [ha]; exact Bool.false_ne_true), if_neg (show ¬ (b == sysModules) = true by rw [hb]; exact Bool.false_ne_true)]
  refine wpAny_bind (wpAny_pure (wpAny_bind (wpAny_pure ?_)))
  refine wpAny_bind (wpAny_dictEntries hoa hda ?_)
  dsimp only
  refine wpAny_bind (wpAny_dictEntries hob hdb ?_)
  by_cases hsz : es.size = es'.size
  case neg =>
    rw [if_pos (by simpa using hsz)]
    have hbf : (es.size == es'.size) = false := by simpa using hsz
    rw [hbf, Bool.false_and] at h
    exact wpAny_bind (wpAny_rule (wpAny_pure h))
  case pos =>
    have h' : Q r s := by simpa [hsz] using h
    have hits' := hits (by rw [hla, hlb]; exact hsz)
    rw [if_neg (by rw [hsz]; simp)]
    refine wpAny_bind (wpAny_dictEpoch hoa hda ?_)
    refine wpAny_bind ?_
    rw [Std.Legacy.Range.forIn_eq_forIn_range']
    simp only [Std.Legacy.Range.size, Nat.sub_zero, Nat.add_sub_cancel, Nat.div_one]
    refine wpAny_forIn_list _
      (fun rest q s' => s' = s ∧ q = (none, ()) ∧ ∃ i, rest = List.range' i (es.size - i) ∧ i ≤ es.size ∧ HitsF A s (fun k => (atKey kb k).map (·.2)) ((ka.map fun x => (x.1, x.2.2)).drop i) r)
      _ ?_ ?_ _ _ ⟨rfl, rfl, 0, by simp, Nat.zero_le _, hits'⟩
    · rintro x rest q s' ⟨rfl, rfl, i, hr, hi, hpre⟩
      have hlt : i < es.size := by
        rcases Nat.lt_or_ge i es.size with h | h
        · exact h
        · rw [Nat.sub_eq_zero_of_le h] at hr; simp at hr
      obtain ⟨rfl, hrest⟩ : x = i ∧ rest = List.range' (i + 1) (es.size - (i + 1)) := by
        have e : es.size - i = (es.size - (i + 1)) + 1 := by omega
        rw [e, List.range'_succ] at hr
        injection hr with h1 h2
        exact ⟨h1, h2⟩
      refine wpAny_bind (wpAny_dictEntries hoa hda ?_)
      rw [Array.getElem?_eq_getElem hlt]
      have hlt' : x < ka.length := by rw [hla]; exact hlt
      obtain ⟨k, ad, v, hkv⟩ : ∃ k ad v, ka[x] = (k, ad, v) := ⟨_, _, _, rfl⟩
      have hdrop : (ka.map fun x => (x.1, x.2.2)).drop x = (k, v) :: (ka.map fun x => (x.1, x.2.2)).drop (x + 1) := by
        rw [List.drop_eq_getElem_cons (by rw [List.length_map]; exact hlt'), List.getElem_map, hkv]
      have hex : es[x] = entryOfKey knd (k, ad, v) := by
        have q := entry_at hea x
        rw [Array.getElem?_eq_getElem hlt, List.getElem?_eq_getElem hlt', hkv] at q
        exact Option.some.inj q
      have hkey : knd.is s'.heap k ad := hia (k, ad, v) (by rw [← hkv]; exact List.getElem_mem hlt')
      rw [hdrop] at hpre
      show wpAny _ _ (holding [es[x].key, es[x].val] _ >>= _) _ _ _
      rw [hex]
      refine wpAny_bind (wpAny_holding (wpAny_bind (wpAny_dictFind_heap hu hkey hob hdb heb hib hnb (fun hno => ?_) (fun j p hj => ?_))))
      · have hn := atKey_none_of_get hno
        rcases hpre.inv with ⟨_, er⟩ | ⟨y, _, _, hy, _⟩
        · rw [er] at h'
          refine wpAny_pure ?_
          show wpAny _ _ (if (!false) = true then _ else _) _ _ _
          rw [if_pos (by decide)]
          exact wpAny_pure (wpAny_pure h')
        · simp only [hn] at hy; exact nomatch hy
      · have hv' := atKey_of_get hnb hj
        refine wpAny_bind (wpAny_dictEntries hob hdb ?_)
        have hex' : es'[j]? = some (entryOfKey knd (k, p)) := by rw [entry_at heb j, hj]; rfl
        rw [hex']
        rcases hpre.inv with ⟨hn, _⟩ | ⟨y, e, b', hy, he, hrr, er⟩
        · simp only [hv', Option.map_some] at hn; exact nomatch hn
        · have ey : p.2 = y := by simp only [hv', Option.map_some] at hy; exact Option.some.inj hy
          rw [← ey] at he
          refine wpAny_holding (he prog w _ _ ?_)
          cases e with
          | false =>
            rw [er, Bool.false_and] at h'
            show wpAny _ _ (if (!false) = true then _ else _) _ _ _
            rw [if_pos (by decide)]
            exact wpAny_pure (wpAny_pure h')
          | true =>
            rw [Bool.true_and] at er
            rw [← er] at hrr
            show wpAny _ _ (if (!true) = true then _ else _) _ _ _
            rw [if_neg (by decide)]
            refine wpAny_bind (wpAny_dictEpoch hoa hda ?_)
            rw [if_neg (by simp)]
            exact wpAny_pure ⟨rfl, rfl, x + 1, hrest, hlt, hrr⟩
    · rintro q s' ⟨rfl, rfl, i, hr, hi, hpre⟩
      have hin : i = es.size := by
        rcases Nat.lt_or_ge i es.size with h | h
        · have e : es.size - i = (es.size - (i + 1)) + 1 := by omega
          rw [e, List.range'_succ] at hr; exact nomatch hr
        · exact Nat.le_antisymm hi h
      refine wpAny_pure ?_
      rw [hin, ← hla, List.drop_eq_nil_of_le (by rw [List.length_map]; exact Nat.le_refl _)] at hpre
      cases hpre
      exact h'
theorem keqH_eq {a b : Addr} {ka kb : List (K × Addr × Value)} {r : Bool} {Q : Value → Shared → Prop} (ha : (a == sysModules) = false) (hb : (b == sysModules) = false) (hro : knd.room A.in1)
    (da : s.heap.DictOfH knd a ka) (db : s.heap.DictOfH knd b kb) (hu : A.units < cLine) (hits : ka.length = kb.length → HitsF A.in1 s (fun k => (atKey kb k).map (·.2)) (ka.map fun x => (x.1, x.2.2)) r) (h : Q (.bool (ka.length == kb.length && r)) s) :
    wpAny (model prog w) A (compareOp .Eq (.ref a) (.ref b)) Q E s := by
  refine wpAny_richCompare_same_room (op := .Eq) da.typeIs db.typeIs PySem.F.slot_dict_eq (wpAny_call_entry PySem.F.slot_dict_eq da.typeIs PySem.F.entry_dict_eq ?_ (PySem.F.args_dict_eq_2 _ _)) hu
  show wpAny _ _ (Builtin.Dict.dictSlotArgs "__eq__" ⟨[.ref a, .ref b], []⟩ >>= _) _ _ s
  refine wpAny_bind ?_
  unfold Builtin.Dict.dictSlotArgs
  refine wpAny_bind (wpAny_notOrdered_dict da.typeIs ?_)
  show wpAny _ _ (pure (Value.ref a, Value.ref b)) _ _ s
  refine wpAny_pure ?_
  refine wpAny_bind (wpAny_isInstance (T := "dict") db.typeIs PySem.F.sub_dict_dict ?_)
  simp only [Bool.not_true, Bool.false_eq_true, if_false]
  refine wpAny_bind (wpAny_pure (wpAny_bind (wpAny_pure ?_)))
  refine wpAny_bind (samePairsH hro ha hb da db hits ?_)
  refine wpAny_pure ⟨_, rfl, ?_, ?_⟩
  · exact fun x => nomatch x
  · simpa using h
theorem keqH_ne {a b : Addr} {ka kb : List (K × Addr × Value)} {r : Bool} {Q : Value → Shared → Prop} (ha : (a == sysModules) = false) (hb : (b == sysModules) = false) (hro : knd.room A.in1)
    (da : s.heap.DictOfH knd a ka) (db : s.heap.DictOfH knd b kb) (hu : A.units < cLine) (hits : ka.length = kb.length → HitsF A.in1 s (fun k => (atKey kb k).map (·.2)) (ka.map fun x => (x.1, x.2.2)) r) (h : Q (.bool (!(ka.length == kb.length && r))) s) :
    wpAny (model prog w) A (compareOp .NotEq (.ref a) (.ref b)) Q E s := by
  refine wpAny_richCompare_same_room (op := .NotEq) da.typeIs db.typeIs PySem.F.slot_dict_ne (wpAny_call_entry PySem.F.slot_dict_ne da.typeIs PySem.F.entry_dict_ne ?_ (PySem.F.args_dict_ne_2 _ _)) hu
  show wpAny _ _ (Builtin.Dict.dictSlotArgs "__ne__" ⟨[.ref a, .ref b], []⟩ >>= _) _ _ s
  refine wpAny_bind ?_
  unfold Builtin.Dict.dictSlotArgs
  refine wpAny_bind (wpAny_notOrdered_dict da.typeIs ?_)
  show wpAny _ _ (pure (Value.ref a, Value.ref b)) _ _ s
  refine wpAny_pure ?_
  refine wpAny_bind (wpAny_isInstance (T := "dict") db.typeIs PySem.F.sub_dict_dict ?_)
  simp only [Bool.not_true, Bool.false_eq_true, if_false]
  refine wpAny_bind (wpAny_pure (wpAny_bind (wpAny_pure ?_)))
  refine wpAny_bind (samePairsH hro ha hb da db hits ?_)
  refine wpAny_pure ⟨_, rfl, ?_, ?_⟩
  · exact fun x => nomatch x
  · simpa using h
end
inductive VHit (K : PySem.W.Frag) (H : Hp) {κ : Type} [DecidableEq κ] (ls : List (κ × V)) : List (κ × V) → Bool → Prop
  | nil : VHit K H ls [] true
  | miss {k : κ} {v : V} {r : List (κ × V)} : valV ls k = none → VHit K H ls ((k, v) :: r) false
  | hit {k : κ} {v u : V} {d e : PyData} {r : List (κ × V)} {b : Bool} : valV ls k = some u → Dp K H v d → Dp K H u e → d.canLay0 = true → e.canLay0 = true → min d.depth e.depth ≤ 150 → VHit K H ls r b → VHit K H ls ((k, v) :: r) (PyData.eqv d e && b)
section
variable {X : Cx} {pins : List (Addr × Obj)} {σ : L2.St} {H : Hp} {s : Shared}
theorem vhit_eq (I : Inv X pins σ H s) {A : Around} (hu : A.units + 190 < cLine) {v u : V} {x y : Value} {d e : PyData} (hd : Dp X.K H v d) (he : Dp X.K H u e) (c1 : d.canLay0 = true) (c2 : e.canLay0 = true) (hm : min d.depth e.depth ≤ 150) (rx : RelV v x) (ry : RelV u y) : SeqAt.EqAt A s x y (PyData.eqv d e) := by
  obtain ⟨as, r1⟩ := Dp.reads I d v x hd rx
  obtain ⟨bs, r2⟩ := Dp.reads I e u y he ry
  exact SeqAt.eqAt_reads d e A s x y as bs r1 r2 c1 c2 (by omega)
theorem vhit_K (I : Inv X pins σ H s) {A : Around} (hu : A.units + 190 < cLine) {ls : List (Key × V)} {vb : List (Key × Value)} (rb : KV ls vb) {ks : List (Key × V)} {r : Bool} (h : VHit X.K H ls ks r) : ∀ {va : List (Key × Value)}, KV ks va → PySem.W.KeqHits A s vb va r := by
  induction h with
  | nil =>
    intro va ra
    unfold KV at ra
    cases ra
    exact .nil
  | @miss k v r hn =>
    intro va ra
    unfold KV at ra
    cases ra with
    | @cons p q ps qs h t =>
      obtain ⟨h1, h2⟩ := h
      obtain ⟨key, y⟩ := q
      have h1' : k = key := h1
      subst h1'
      have rr : RelO none (PySem.valueAt vb k) := by rw [← hn]; exact rb.val k
      cases e : PySem.valueAt vb k with
      | none => exact .miss e
      | some z => rw [e] at rr; exact rr.elim
  | @hit k v u d e r b hy hd he c1 c2 hm _ ih =>
    intro va ra
    unfold KV at ra
    cases ra with
    | @cons p q ps qs h t =>
      obtain ⟨h1, h2⟩ := h
      obtain ⟨key, y⟩ := q
      have h1' : k = key := h1
      subst h1'
      have rr : RelO (some u) (PySem.valueAt vb k) := by rw [← hy]; exact rb.val k
      obtain ⟨z, hz, rz⟩ := rr.some_of
      exact .hit hz (vhit_eq I hu hd he c1 c2 hm h2 rz) (ih t)
theorem vhit_T (I : Inv X pins σ H s) {A : Around} (hu : A.units + 190 < cLine) {ls : List (List Key × V)} {xb : List (List Key × Addr × Value)} (rb : KT H ls xb) {ks : List (List Key × V)} {r : Bool} (h : VHit X.K H ls ks r) : ∀ {xa : List (List Key × Addr × Value)}, KT H ks xa → HitsF A s (fun k => (atKey xb k).map (·.2)) (xa.map fun x => (x.1, x.2.2)) r := by
  induction h with
  | nil =>
    intro va ra
    unfold KT at ra
    cases ra
    exact .nil
  | @miss k v r hn =>
    intro va ra
    unfold KT at ra
    cases ra with
    | @cons p q ps qs h t =>
      obtain ⟨h1, h2, h3⟩ := h
      obtain ⟨key, ad, y⟩ := q
      have h1' : k = key := h1
      subst h1'
      have rr : RelO none ((atKey xb k).map (·.2)) := by rw [← hn]; exact rb.val k
      rw [List.map_cons]
      cases e : (atKey xb k).map (·.2) with
      | none => exact .miss e
      | some z => rw [e] at rr; exact rr.elim
  | @hit k v u d e r b hy hd he c1 c2 hm _ ih =>
    intro va ra
    unfold KT at ra
    cases ra with
    | @cons p q ps qs h t =>
      obtain ⟨h1, h2, h3⟩ := h
      obtain ⟨key, ad, y⟩ := q
      have h1' : k = key := h1
      subst h1'
      have rr : RelO (some u) ((atKey xb k).map (·.2)) := by rw [← hy]; exact rb.val k
      obtain ⟨z, hz, rz⟩ := rr.some_of
      rw [List.map_cons]
      exact .hit hz (vhit_eq I hu hd he c1 c2 hm h3 rz) (ih t)
end
section
variable {X : Cx}
def rDct (K : PySem.W.Frag) (n : Bool) : R2 := fun x y H Q =>
  (∃ (a b : Addr) (ks ls : List (Key × V)) (r : Bool), x = .ref a ∧ y = .ref b ∧ Rd H a (.dK ks) ∧ Rd H b (.dK ls) ∧ VHit K H ls ks r ∧ Q (.bl (if n then !(ks.length == ls.length && r) else (ks.length == ls.length && r))) H) ∨
    ∃ (a b : Addr) (ks ls : List (List Key × V)) (r : Bool), x = .ref a ∧ y = .ref b ∧ Rd H a (.dT ks) ∧ Rd H b (.dT ls) ∧ VHit K H ls ks r ∧ Q (.bl (if n then !(ks.length == ls.length && r) else (ks.length == ls.length && r))) H
theorem op_eqDct (hu : X.A.units + 200 < cLine) : OpR X (compareOp .Eq) (rDct X.K false) := by
  intro pins s σ H x y v u Q I rx ry h
  rcases h with ⟨a, b, ks, ls, r, rfl, rfl, ha, hb, hv, q⟩ | ⟨a, b, ks, ls, r, rfl, rfl, ha, hb, hv, q⟩
  · obtain rfl : v = Value.ref a := rx
    obtain rfl : u = Value.ref b := ry
    obtain ⟨_, ya, va, ra, da⟩ := dk_rd I.hok ha
    obtain ⟨_, yb, vb, rb, db⟩ := dk_rd I.hok hb
    refine PySem.W.keq_eq (knd := mixKind X.prog X.w) (r := r) ya yb da db (by omega) (fun _ => vhit_K I (by show X.A.units + 1 + 190 < cLine; omega) rb hv ra) ⟨.bl _, H, I, rfl, ?_⟩
    rw [← ra.length, ← rb.length]
    exact q
  · obtain rfl : v = Value.ref a := rx
    obtain rfl : u = Value.ref b := ry
    obtain ⟨_, ya, va, ra, da⟩ := dt_rd I.hok ha
    obtain ⟨_, yb, vb, rb, db⟩ := dt_rd I.hok hb
    refine keqH_eq (r := r) ya yb (tupleKind_room_in1 (by omega)) da db (by omega) (fun _ => vhit_T I (by show X.A.units + 1 + 190 < cLine; omega) rb hv ra) ⟨.bl _, H, I, rfl, ?_⟩
    rw [← ra.length, ← rb.length]
    exact q
theorem op_neDct (hu : X.A.units + 200 < cLine) : OpR X (compareOp .NotEq) (rDct X.K true) := by
  intro pins s σ H x y v u Q I rx ry h
  rcases h with ⟨a, b, ks, ls, r, rfl, rfl, ha, hb, hv, q⟩ | ⟨a, b, ks, ls, r, rfl, rfl, ha, hb, hv, q⟩
  · obtain rfl : v = Value.ref a := rx
    obtain rfl : u = Value.ref b := ry
    obtain ⟨_, ya, va, ra, da⟩ := dk_rd I.hok ha
    obtain ⟨_, yb, vb, rb, db⟩ := dk_rd I.hok hb
    refine PySem.W.keq_ne (knd := mixKind X.prog X.w) (r := r) ya yb da db (by omega) (fun _ => vhit_K I (by show X.A.units + 1 + 190 < cLine; omega) rb hv ra) ⟨.bl _, H, I, rfl, ?_⟩
    rw [← ra.length, ← rb.length]
    exact q
  · obtain rfl : v = Value.ref a := rx
    obtain rfl : u = Value.ref b := ry
    obtain ⟨_, ya, va, ra, da⟩ := dt_rd I.hok ha
    obtain ⟨_, yb, vb, rb, db⟩ := dt_rd I.hok hb
    refine keqH_ne (r := r) ya yb (tupleKind_room_in1 (by omega)) da db (by omega) (fun _ => vhit_T I (by show X.A.units + 1 + 190 < cLine; omega) rb hv ra) ⟨.bl _, H, I, rfl, ?_⟩
    rw [← ra.length, ← rb.length]
    exact q
end
end Mp

namespace Mp
open PySem L2

inductive D where
  | non | bl (b : Bool) | int (i : Int) | str (x : Str)
  | tup (ds : List D) | lst (ds : List D)
  | dct (tk : Bool) (ks vs : List D)
  | obj (C : Addr) (ns : List Str) (ds : List D)
  | exo (k : Nat) (C : Addr) (ns : List Str) (ds : List D)
  deriving Inhabited

def isSc : D → Bool
  | .non | .bl _ | .int _ | .str _ | .exo _ _ _ _ => true
  | _ => false

def strOk (x : Str) : Bool := PyData.strOk x

def kD : Key → D
  | .inl i => .int i
  | .inr x => .str x
def ksD (k : List Key) : D := .tup (k.map kD)

mutual
/-- v stands for the frozen data d: its objects are tracked and none of P -/
def Rp (H : Hp) (P : Addr → Prop) : V → D → Prop
  | v, .non => v = .non
  | v, .bl b => v = .bl b
  | v, .int i => v = .int i
  | v, .str x => v = .str x ∧ strOk x = true
  | v, .tup ds => ∃ a vs, v = .ref a ∧ ¬ P a ∧ H a = some (.tup vs) ∧ Rps H P vs ds
  | v, .lst ds => ∃ a vs, v = .ref a ∧ ¬ P a ∧ H a = some (.lst vs) ∧ Rps H P vs ds
  | v, .dct false ks ds => ∃ a kvs, v = .ref a ∧ ¬ P a ∧ Rd H a (.dK kvs) ∧ ks = kvs.map (fun p => kD p.1) ∧ (∀ p ∈ kvs, ∀ x, p.1 = .inr x → strOk x = true) ∧ Rps H P (kvs.map (·.2)) ds
  | v, .dct true ks ds => ∃ a kvs, v = .ref a ∧ ¬ P a ∧ Rd H a (.dT kvs) ∧ ks = kvs.map (fun p => ksD p.1) ∧ (∀ p ∈ kvs, ∀ x, Sum.inr x ∈ p.1 → strOk x = true) ∧ Rps H P (kvs.map (·.2)) ds
  | v, .obj C ns ds => ∃ a dx fvs, v = .ref a ∧ ¬ P a ∧ H a = some (.ins C dx fvs) ∧ fvs.map (·.1) = ns ∧ Rps H P (fvs.map (·.2)) ds
  | v, .exo _ C ns ds => ∃ a od, v = .ref a ∧ ¬ P a ∧ H a = some (exT a C od) ∧ ((od = none ∧ ns = [] ∧ ds = []) ∨ ∃ dd fs, od = some dd ∧ ¬ P dd ∧ H dd = some (.xd fs) ∧ fs.map (·.1) = ns ∧ Rps H P (fs.map (·.2)) ds)
def Rps (H : Hp) (P : Addr → Prop) : List V → List D → Prop
  | [], [] => True
  | v :: vs, d :: ds => Rp H P v d ∧ Rps H P vs ds
  | _, _ => False
end

def Fr (P : Addr → Prop) (H H' : Hp) : Prop := ∀ a o, ¬ P a → H a = some o → H' a = some o
abbrev Ex (H H' : Hp) : Prop := ∀ a o, H a = some o → H' a = some o
theorem Ex.refl (H : Hp) : Ex H H := fun _ _ h => h
theorem Ex.trans {H H1 H2 : Hp} (a : Ex H H1) (b : Ex H1 H2) : Ex H H2 := fun x o h => b x o (a x o h)
theorem Ex.new {H : Hp} {p : Addr} {o : HO} (h : H p = none) : Ex H (upd H p o) := fun a u e => by
  rw [upd_ne (ne_of_none e h)]; exact e
theorem Ex.none {H H' : Hp} (e : Ex H H') {a : Addr} (h : H' a = none) : H a = none := by
  cases q : H a with
  | none => rfl
  | some o => rw [e a o q] at h; cases h
theorem ex_rd {H H' : Hp} (e : Ex H H') {a : Addr} {u : HO} (h : Rd H a u) : Rd H' a u := by
  rcases h with h | ⟨o, h⟩
  · exact .inl (e _ _ h)
  · exact .inr ⟨o, e _ _ h⟩
theorem rd_some {H : Hp} {a : Addr} {u : HO} (h : Rd H a u) : ∃ o, H a = some o := by
  rcases h with h | ⟨o, h⟩
  · exact ⟨_, h⟩
  · exact ⟨_, h⟩

mutual
/-- the representation goes over to another heap: tracked objects that are none of P stay; P' holds none of the old ones but those of P -/
theorem Rp.move {H H' : Hp} {P P' : Addr → Prop} (k : ∀ a o, ¬ P a → H a = some o → H' a = some o) (n : ∀ a o, ¬ P a → H a = some o → ¬ P' a) : ∀ {d : D} {v : V}, Rp H P v d → Rp H' P' v d
  | .non, _, h => by simpa [Rp] using h
  | .bl _, _, h => by simpa [Rp] using h
  | .int _, _, h => by simpa [Rp] using h
  | .str _, _, h => by simpa [Rp] using h
  | .tup ds, v, h => by
    simp only [Rp] at h ⊢
    obtain ⟨a, vs, e, p, t, r⟩ := h
    exact ⟨a, vs, e, n a _ p t, k a _ p t, Rps.move k n r⟩
  | .lst ds, v, h => by
    simp only [Rp] at h ⊢
    obtain ⟨a, vs, e, p, t, r⟩ := h
    exact ⟨a, vs, e, n a _ p t, k a _ p t, Rps.move k n r⟩
  | .dct false ks ds, v, h => by
    simp only [Rp] at h ⊢
    obtain ⟨a, vs, e, p, t, r1, r2, r⟩ := h
    refine ⟨a, vs, e, ?_, ?_, r1, r2, Rps.move k n r⟩
    · rcases t with t | ⟨o, t⟩ <;> exact n a _ p t
    · rcases t with t | ⟨o, t⟩
      · exact .inl (k a _ p t)
      · exact .inr ⟨o, k a _ p t⟩
  | .dct true ks ds, v, h => by
    simp only [Rp] at h ⊢
    obtain ⟨a, vs, e, p, t, r1, r2, r⟩ := h
    refine ⟨a, vs, e, ?_, ?_, r1, r2, Rps.move k n r⟩
    · rcases t with t | ⟨o, t⟩ <;> exact n a _ p t
    · rcases t with t | ⟨o, t⟩
      · exact .inl (k a _ p t)
      · exact .inr ⟨o, k a _ p t⟩
  | .obj C ns ds, v, h => by
    simp only [Rp] at h ⊢
    obtain ⟨a, dx, fvs, e, p, t, r1, r⟩ := h
    exact ⟨a, dx, fvs, e, n a _ p t, k a _ p t, r1, Rps.move k n r⟩
  | .exo _ C ns ds, v, h => by
    simp only [Rp] at h ⊢
    obtain ⟨a, od, e, p, t, r⟩ := h
    refine ⟨a, od, e, n a _ p t, k a _ p t, r.imp id fun ⟨dd, fs, e1, p1, t1, r1, r⟩ => ⟨dd, fs, e1, n dd _ p1 t1, k dd _ p1 t1, r1, Rps.move k n r⟩⟩
theorem Rps.move {H H' : Hp} {P P' : Addr → Prop} (k : ∀ a o, ¬ P a → H a = some o → H' a = some o) (n : ∀ a o, ¬ P a → H a = some o → ¬ P' a) : ∀ {ds : List D} {vs : List V}, Rps H P vs ds → Rps H' P' vs ds
  | [], [], h => by simp [Rps]
  | [], _ :: _, h => by simp [Rps] at h
  | _ :: _, [], h => by simp [Rps] at h
  | d :: ds, v :: vs, h => by
    simp only [Rps] at h ⊢
    exact ⟨Rp.move k n h.1, Rps.move k n h.2⟩
end
theorem Rp.ex {H H' : Hp} {P : Addr → Prop} (e : Ex H H') {d : D} {v : V} (h : Rp H P v d) : Rp H' P v d := h.move (fun a o _ q => e a o q) fun _ _ p _ => p
theorem Rps.ex {H H' : Hp} {P : Addr → Prop} (e : Ex H H') {ds : List D} {vs : List V} (h : Rps H P vs ds) : Rps H' P vs ds := h.move (fun a o _ q => e a o q) fun _ _ p _ => p
theorem Rp.less {H : Hp} {P P' : Addr → Prop} (n : ∀ a, P' a → P a) {d : D} {v : V} (h : Rp H P v d) : Rp H P' v d := h.move (fun a o _ q => q) fun a _ p _ q => p (n a q)
theorem Rps.less {H : Hp} {P P' : Addr → Prop} (n : ∀ a, P' a → P a) {ds : List D} {vs : List V} (h : Rps H P vs ds) : Rps H P' vs ds := h.move (fun a o _ q => q) fun a _ p _ q => p (n a q)
theorem Rps.length {H : Hp} {P : Addr → Prop} : ∀ {vs : List V} {ds : List D}, Rps H P vs ds → vs.length = ds.length
  | [], [], _ => rfl
  | [], _ :: _, h => by simp [Rps] at h
  | _ :: _, [], h => by simp [Rps] at h
  | v :: vs, d :: ds, h => by
    simp only [Rps] at h
    simp [Rps.length h.2]
theorem Rps.get {H : Hp} {P : Addr → Prop} : ∀ {vs : List V} {ds : List D} {i : Nat} {d : D}, Rps H P vs ds → ds[i]? = some d → ∃ v, vs[i]? = some v ∧ Rp H P v d
  | [], [], _, _, _, e => by simp at e
  | [], _ :: _, _, _, h, _ => by simp [Rps] at h
  | _ :: _, [], _, _, h, _ => by simp [Rps] at h
  | v :: vs, d :: ds, 0, d', h, e => by
    simp only [Rps] at h
    simp at e
    subst e
    exact ⟨v, by simp, h.1⟩
  | v :: vs, d :: ds, i + 1, d', h, e => by
    simp only [Rps] at h
    obtain ⟨w, h1, h2⟩ := Rps.get (i := i) (d := d') h.2 (by simpa using e)
    exact ⟨w, by simpa using h1, h2⟩
theorem Rps.get' {H : Hp} {P : Addr → Prop} {vs : List V} {ds : List D} {i : Nat} {v : V} (h : Rps H P vs ds) (e : vs[i]? = some v) : ∃ d, ds[i]? = some d ∧ Rp H P v d := by
  have hl := h.length
  obtain ⟨hi, _⟩ := List.getElem?_eq_some_iff.mp e
  obtain ⟨w, h1, h2⟩ := h.get (i := i) (d := ds[i]'(by omega)) (List.getElem?_eq_getElem (by omega))
  rw [e] at h1
  cases h1
  exact ⟨_, List.getElem?_eq_getElem (by omega), h2⟩
theorem Rps.append {H : Hp} {P : Addr → Prop} : ∀ {vs ws : List V} {ds es : List D}, Rps H P vs ds → Rps H P ws es → Rps H P (vs ++ ws) (ds ++ es)
  | [], _, [], _, _, h => h
  | [], _, _ :: _, _, h, _ => by simp [Rps] at h
  | _ :: _, _, [], _, h, _ => by simp [Rps] at h
  | v :: vs, ws, d :: ds, es, h, h2 => by
    simp only [Rps] at h
    show Rp H P v d ∧ Rps H P (vs ++ ws) (ds ++ es)
    exact ⟨h.1, Rps.append h.2 h2⟩
theorem Rps.one {H : Hp} {P : Addr → Prop} {v : V} {d : D} (h : Rp H P v d) : Rps H P [v] [d] := ⟨h, trivial⟩
theorem Rps.take {H : Hp} {P : Addr → Prop} : ∀ (n : Nat) {vs : List V} {ds : List D}, Rps H P vs ds → Rps H P (vs.take n) (ds.take n)
  | 0, _, _, _ => by simp [Rps]
  | _ + 1, [], [], h => by simp [Rps]
  | _ + 1, [], _ :: _, h => by simp [Rps] at h
  | _ + 1, _ :: _, [], h => by simp [Rps] at h
  | n + 1, v :: vs, d :: ds, h => by
    simp only [Rps] at h
    exact ⟨h.1, Rps.take n h.2⟩
theorem Rps.drop {H : Hp} {P : Addr → Prop} : ∀ (n : Nat) {vs : List V} {ds : List D}, Rps H P vs ds → Rps H P (vs.drop n) (ds.drop n)
  | 0, _, _, h => by simpa using h
  | _ + 1, [], [], h => by simp [Rps]
  | _ + 1, [], _ :: _, h => by simp [Rps] at h
  | _ + 1, _ :: _, [], h => by simp [Rps] at h
  | n + 1, v :: vs, d :: ds, h => by
    simp only [Rps] at h
    simpa using Rps.drop n h.2
theorem Rps.dropLast {H : Hp} {P : Addr → Prop} {vs : List V} {ds : List D} (h : Rps H P vs ds) : Rps H P vs.dropLast ds.dropLast := by
  rw [List.dropLast_eq_take, List.dropLast_eq_take, h.length]
  exact h.take _
theorem Rps.set {H : Hp} {P : Addr → Prop} {v : V} {d : D} (r : Rp H P v d) : ∀ (n : Nat) {vs : List V} {ds : List D}, Rps H P vs ds → Rps H P (vs.set n v) (ds.set n d)
  | _, [], [], h => by simp [Rps]
  | _, [], _ :: _, h => by simp [Rps] at h
  | _, _ :: _, [], h => by simp [Rps] at h
  | 0, _ :: vs, _ :: ds, h => by
    simp only [Rps] at h
    exact ⟨r, h.2⟩
  | n + 1, w :: vs, e :: ds, h => by
    simp only [Rps] at h
    exact ⟨h.1, Rps.set r n h.2⟩
theorem Rps.reverse {H : Hp} {P : Addr → Prop} : ∀ {vs : List V} {ds : List D}, Rps H P vs ds → Rps H P vs.reverse ds.reverse
  | [], [], h => by simp [Rps]
  | [], _ :: _, h => by simp [Rps] at h
  | _ :: _, [], h => by simp [Rps] at h
  | v :: vs, d :: ds, h => by
    simp only [Rps] at h
    rw [List.reverse_cons, List.reverse_cons]
    exact (Rps.reverse h.2).append (Rps.one h.1)
theorem Rps.ints {H : Hp} {P : Addr → Prop} : ∀ (ns : List Int), Rps H P (ns.map V.int) (ns.map D.int)
  | [] => by simp [Rps]
  | n :: ns => by simp [Rps, Rp, Rps.ints ns]

theorem Rp.fresh {H : Hp} {P : Addr → Prop} {d : D} {v : V} (h : Rp H P v d) {p : Addr} (hp : H p = none) : Rp H (fun a => P a ∨ a = p) v d :=
  h.move (fun _ _ _ q => q) fun a o n q z => z.elim n fun e => by subst e; rw [hp] at q; cases q
theorem Rps.fresh {H : Hp} {P : Addr → Prop} {ds : List D} {vs : List V} (h : Rps H P vs ds) {p : Addr} (hp : H p = none) : Rps H (fun a => P a ∨ a = p) vs ds :=
  h.move (fun _ _ _ q => q) fun a o n q z => z.elim n fun e => by subst e; rw [hp] at q; cases q
end Mp

namespace Mp
open PySem L2

inductive R where
  | val (d : D) | own (d : D) | bor (d : D)
  deriving Inhabited
@[simp] def R.d : R → D
  | .val d | .own d | .bor d => d
inductive Res (α : Type) where
  | ok (a : α) | exc (c : Nat) (pl : List (Str × D)) | stuck
def Res.bind {α β : Type} (x : Res α) (f : α → Res β) : Res β := match x with
  | .ok a => f a
  | .exc c pl => .exc c pl
  | .stuck => .stuck
@[simp] theorem Res.bind_ok {α β : Type} (a : α) (f : α → Res β) : (Res.ok a).bind f = f a := rfl
@[simp] theorem Res.bind_exc {α β : Type} (c : Nat) (pl : List (Str × D)) (f : α → Res β) : (Res.exc c pl : Res α).bind f = .exc c pl := rfl
@[simp] theorem Res.bind_stuck {α β : Type} (f : α → Res β) : (Res.stuck : Res α).bind f = .stuck := rfl
abbrev Env := List (Option R)

def Cell (H : Hp) (P : Addr → Prop) (a : Addr) : D → Prop
  | .lst ds => ∃ vs, H a = some (.lst vs) ∧ Rps H P vs ds
  | .dct false ks ds => ∃ kvs, H a = some (.dK kvs) ∧ ks = kvs.map (fun p => kD p.1) ∧ (∀ p ∈ kvs, ∀ x, p.1 = .inr x → strOk x = true) ∧ Rps H P (kvs.map (·.2)) ds
  | .dct true ks ds => ∃ kvs, H a = some (.dT kvs) ∧ ks = kvs.map (fun p => ksD p.1) ∧ (∀ p ∈ kvs, ∀ x, Sum.inr x ∈ p.1 → strOk x = true) ∧ Rps H P (kvs.map (·.2)) ds
  | .obj C ns ds => ∃ dx fvs, H a = some (.ins C dx fvs) ∧ fvs.map (·.1) = ns ∧ Rps H P (fvs.map (·.2)) ds
  | _ => False
theorem Cell.there {H : Hp} {P : Addr → Prop} {a : Addr} {d : D} (h : Cell H P a d) : ∃ o, H a = some o := by
  cases d with
  | lst ds => obtain ⟨vs, h, _⟩ := h; exact ⟨_, h⟩
  | dct tk ks ds => cases tk <;> (obtain ⟨vs, h, _⟩ := h; exact ⟨_, h⟩)
  | obj C ns ds => obtain ⟨_, _, h, _⟩ := h; exact ⟨_, h⟩
  | _ => exact False.elim h
theorem Cell.move {H H' : Hp} {P P' : Addr → Prop} (k : ∀ a o, ¬ P a → H a = some o → H' a = some o) (n : ∀ a o, ¬ P a → H a = some o → ¬ P' a) {a : Addr} (ha : H' a = H a) {d : D} (h : Cell H P a d) : Cell H' P' a d := by
  cases d with
  | lst ds => obtain ⟨vs, h, r⟩ := h; exact ⟨vs, ha.trans h, r.move k n⟩
  | dct tk ks ds =>
    cases tk with
    | false => obtain ⟨vs, h, r1, r2, r⟩ := h; exact ⟨vs, ha.trans h, r1, r2, r.move k n⟩
    | true => obtain ⟨vs, h, r1, r2, r⟩ := h; exact ⟨vs, ha.trans h, r1, r2, r.move k n⟩
  | obj C ns ds => obtain ⟨dx, fvs, h, r1, r⟩ := h; exact ⟨dx, fvs, ha.trans h, r1, r.move k n⟩
  | _ => exact False.elim h
theorem Cell.ex {H H' : Hp} {P : Addr → Prop} (e : Ex H H') {a : Addr} {d : D} (h : Cell H P a d) : Cell H' P a d := by
  obtain ⟨o, q⟩ := h.there
  exact h.move (fun a o _ q => e a o q) (fun _ _ p _ => p) ((e a o q).trans q.symm)
theorem Cell.less {H : Hp} {P P' : Addr → Prop} (n : ∀ a, P' a → P a) {a : Addr} {d : D} (h : Cell H P a d) : Cell H P' a d := h.move (fun _ _ _ q => q) (fun a _ p _ q => p (n a q)) rfl
theorem Cell.rp {H : Hp} {P P' : Addr → Prop} (n : ∀ a, P' a → P a) {a : Addr} {d : D} (h : Cell H P a d) (hp : ¬ P' a) : Rp H P' (.ref a) d := by
  cases d with
  | lst ds => obtain ⟨vs, h, r⟩ := h; simp only [Rp]; exact ⟨a, vs, rfl, hp, h, r.less n⟩
  | dct tk ks ds =>
    cases tk with
    | false => obtain ⟨vs, h, r1, r2, r⟩ := h; simp only [Rp]; exact ⟨a, vs, rfl, hp, .inl h, r1, r2, r.less n⟩
    | true => obtain ⟨vs, h, r1, r2, r⟩ := h; simp only [Rp]; exact ⟨a, vs, rfl, hp, .inl h, r1, r2, r.less n⟩
  | obj C ns ds => obtain ⟨dx, fvs, h, r1, r⟩ := h; simp only [Rp]; exact ⟨a, dx, fvs, rfl, hp, h, r1, r.less n⟩
  | _ => exact False.elim h

def Lent (K : PySem.W.Frag) (H : Hp) (P : Addr → Prop) (v : V) : D → Prop
  | .lst ds => ∃ a vs, v = .ref a ∧ SqL K H a vs ∧ Rps H P vs ds
  | .tup ds => ∃ a vs, v = .ref a ∧ SqT K H a vs ∧ Rps H P vs ds
  | .dct false ks ds => ∃ a kvs, v = .ref a ∧ Rd H a (.dK kvs) ∧ ks = kvs.map (fun p => kD p.1) ∧ (∀ p ∈ kvs, ∀ x, p.1 = .inr x → strOk x = true) ∧ Rps H P (kvs.map (·.2)) ds
  | .dct true ks ds => ∃ a kvs, v = .ref a ∧ Rd H a (.dT kvs) ∧ ks = kvs.map (fun p => ksD p.1) ∧ (∀ p ∈ kvs, ∀ x, Sum.inr x ∈ p.1 → strOk x = true) ∧ Rps H P (kvs.map (·.2)) ds
  | .obj C ns ds => ∃ a dx fvs, v = .ref a ∧ H a = some (.ins C dx fvs) ∧ fvs.map (·.1) = ns ∧ Rps H P (fvs.map (·.2)) ds
  | _ => False
theorem sql_ex {K : PySem.W.Frag} {H H' : Hp} (e : Ex H H') {a : Addr} {xs : List V} (h : SqL K H a xs) : SqL K H' a xs := h.imp (ex_rd e) id
theorem sqt_ex {K : PySem.W.Frag} {H H' : Hp} (e : Ex H H') {a : Addr} {xs : List V} (h : SqT K H a xs) : SqT K H' a xs := h.imp (ex_rd e) id
theorem Lent.ex {K : PySem.W.Frag} {H H' : Hp} {P : Addr → Prop} (e : Ex H H') {v : V} {d : D} (h : Lent K H P v d) : Lent K H' P v d := by
  cases d with
  | lst ds => obtain ⟨a, vs, h1, h2, r⟩ := h; exact ⟨a, vs, h1, sql_ex e h2, r.ex e⟩
  | tup ds => obtain ⟨a, vs, h1, h2, r⟩ := h; exact ⟨a, vs, h1, sqt_ex e h2, r.ex e⟩
  | dct tk ks ds =>
    cases tk with
    | false => obtain ⟨a, vs, h1, h2, h3, h4, r⟩ := h; exact ⟨a, vs, h1, ex_rd e h2, h3, h4, r.ex e⟩
    | true => obtain ⟨a, vs, h1, h2, h3, h4, r⟩ := h; exact ⟨a, vs, h1, ex_rd e h2, h3, h4, r.ex e⟩
  | obj C ns ds => obtain ⟨a, dx, fvs, h1, h2, h3, r⟩ := h; exact ⟨a, dx, fvs, h1, e _ _ h2, h3, r.ex e⟩
  | _ => exact False.elim h
theorem Lent.less {K : PySem.W.Frag} {H : Hp} {P P' : Addr → Prop} (n : ∀ a, P' a → P a) {v : V} {d : D} (h : Lent K H P v d) : Lent K H P' v d := by
  cases d with
  | lst ds => obtain ⟨a, vs, h1, h2, r⟩ := h; exact ⟨a, vs, h1, h2, r.less n⟩
  | tup ds => obtain ⟨a, vs, h1, h2, r⟩ := h; exact ⟨a, vs, h1, h2, r.less n⟩
  | dct tk ks ds =>
    cases tk with
    | false => obtain ⟨a, vs, h1, h2, h3, h4, r⟩ := h; exact ⟨a, vs, h1, h2, h3, h4, r.less n⟩
    | true => obtain ⟨a, vs, h1, h2, h3, h4, r⟩ := h; exact ⟨a, vs, h1, h2, h3, h4, r.less n⟩
  | obj C ns ds => obtain ⟨a, dx, fvs, h1, h2, h3, r⟩ := h; exact ⟨a, dx, fvs, h1, h2, h3, r.less n⟩
  | _ => exact False.elim h
theorem Rp.lent {K : PySem.W.Frag} {H : Hp} {P : Addr → Prop} {v : V} {d : D} (h : Rp H P v d) (s : isSc d = false) : Lent K H P v d := by
  cases d with
  | lst ds => simp only [Rp] at h; obtain ⟨a, vs, h1, _, h2, r⟩ := h; exact ⟨a, vs, h1, SqL.of h2, r⟩
  | tup ds => simp only [Rp] at h; obtain ⟨a, vs, h1, _, h2, r⟩ := h; exact ⟨a, vs, h1, SqT.of h2, r⟩
  | dct tk ks ds =>
    cases tk with
    | false => simp only [Rp] at h; obtain ⟨a, vs, h1, _, h2, h3, h4, r⟩ := h; exact ⟨a, vs, h1, h2, h3, h4, r⟩
    | true => simp only [Rp] at h; obtain ⟨a, vs, h1, _, h2, h3, h4, r⟩ := h; exact ⟨a, vs, h1, h2, h3, h4, r⟩
  | obj C ns ds => simp only [Rp] at h; obtain ⟨a, dx, fvs, h1, _, h2, h3, r⟩ := h; exact ⟨a, dx, fvs, h1, h2, h3, r⟩
  | _ => simp [isSc] at s
theorem Cell.lent {K : PySem.W.Frag} {H : Hp} {P : Addr → Prop} {a : Addr} {d : D} (h : Cell H P a d) : Lent K H P (.ref a) d := by
  cases d with
  | lst ds => obtain ⟨vs, h, r⟩ := h; exact ⟨a, vs, rfl, SqL.of h, r⟩
  | dct tk ks ds =>
    cases tk with
    | false => obtain ⟨vs, h, r1, r2, r⟩ := h; exact ⟨a, vs, rfl, .inl h, r1, r2, r⟩
    | true => obtain ⟨vs, h, r1, r2, r⟩ := h; exact ⟨a, vs, rfl, .inl h, r1, r2, r⟩
  | obj C ns ds => obtain ⟨dx, fvs, h, r1, r⟩ := h; exact ⟨a, dx, fvs, rfl, h, r1, r⟩
  | _ => exact False.elim h

def RR (K : PySem.W.Frag) (H0 H : Hp) (P : Addr → Prop) (v : V) : R → Prop
  | .val d => Rp H P v d
  | .own d => ∃ a, v = .ref a ∧ H0 a = none ∧ ¬ P a ∧ Cell H (fun b => P b ∨ b = a) a d
  | .bor d => Lent K H P v d
theorem RR.mono {K : PySem.W.Frag} {H0 H0' H H' : Hp} {P : Addr → Prop} {v : V} {r : R} (h : RR K H0 H P v r) (e0 : Ex H0' H0) (e : Ex H H') : RR K H0' H' P v r := by
  cases r with
  | val d => exact Rp.ex e h
  | own d => obtain ⟨a, h1, h2, h3, h4⟩ := h; exact ⟨a, h1, e0.none h2, h3, h4.ex e⟩
  | bor d => exact Lent.ex e h
theorem RR.less {K : PySem.W.Frag} {H0 H : Hp} {P P' : Addr → Prop} (n : ∀ a, P' a → P a) {v : V} {r : R} (h : RR K H0 H P v r) : RR K H0 H P' v r := by
  cases r with
  | val d => exact Rp.less n h
  | own d => obtain ⟨a, h1, h2, h3, h4⟩ := h; exact ⟨a, h1, h2, fun z => h3 (n a z), h4.less fun b z => z.imp (n b) id⟩
  | bor d => exact Lent.less n h
def R.froz : R → Option D
  | .val d | .own d => some d
  | .bor _ => none
theorem RR.froz {K : PySem.W.Frag} {H0 H : Hp} {P : Addr → Prop} {v : V} {r : R} {d : D} (h : RR K H0 H P v r) (e : r.froz = some d) : Rp H P v d := by
  cases r with
  | val d' => cases e; exact h
  | own d' => cases e; obtain ⟨a, h1, h2, h3, h4⟩ := h; subst h1; exact h4.rp (fun _ z => .inl z) h3
  | bor d' => cases e
theorem RR.lent {K : PySem.W.Frag} {H0 H : Hp} {P : Addr → Prop} {v : V} {r : R} (h : RR K H0 H P v r) (s : isSc r.d = false) : Lent K H P v r.d := by
  cases r with
  | val d => exact Rp.lent h s
  | own d => obtain ⟨a, h1, h2, h3, h4⟩ := h; subst h1; exact h4.lent.less fun _ z => .inl z
  | bor d => exact h
theorem RR.sc {K : PySem.W.Frag} {H0 H : Hp} {P : Addr → Prop} {v : V} {r : R} (h : RR K H0 H P v r) (s : isSc r.d = true) : Rp H P v r.d := by
  cases r with
  | val d => exact h
  | own d => obtain ⟨a, h1, h2, h3, h4⟩ := h; cases d <;> first | exact False.elim h4 | simp [isSc] at s
  | bor d => cases d <;> first | exact False.elim h | simp [isSc] at s
theorem RR.int {K : PySem.W.Frag} {H0 H : Hp} {P : Addr → Prop} {v : V} {r : R} {i : Int} (h : RR K H0 H P v r) (e : r.d = .int i) : v = .int i := by
  have q := h.sc (by rw [e]; rfl)
  rw [e] at q
  simpa [Rp] using q
theorem RR.bl {K : PySem.W.Frag} {H0 H : Hp} {P : Addr → Prop} {v : V} {r : R} {b : Bool} (h : RR K H0 H P v r) (e : r.d = .bl b) : v = .bl b := by
  have q := h.sc (by rw [e]; rfl)
  rw [e] at q
  simpa [Rp] using q
theorem RR.str {K : PySem.W.Frag} {H0 H : Hp} {P : Addr → Prop} {v : V} {r : R} {x : Str} (h : RR K H0 H P v r) (e : r.d = .str x) : v = .str x ∧ strOk x = true := by
  have q := h.sc (by rw [e]; rfl)
  rw [e] at q
  simpa [Rp] using q
theorem RR.non {K : PySem.W.Frag} {H0 H : Hp} {P : Addr → Prop} {v : V} {r : R} (h : RR K H0 H P v r) (e : r.d = .non) : v = .non := by
  have q := h.sc (by rw [e]; rfl)
  rw [e] at q
  simpa [Rp] using q
theorem RR.lst {K : PySem.W.Frag} {H0 H : Hp} {P : Addr → Prop} {v : V} {r : R} {ds : List D} (h : RR K H0 H P v r) (e : r.d = .lst ds) : ∃ a vs, v = .ref a ∧ SqL K H a vs ∧ Rps H P vs ds := by
  have q := h.lent (by rw [e]; rfl)
  rw [e] at q
  exact q
theorem RR.tup {K : PySem.W.Frag} {H0 H : Hp} {P : Addr → Prop} {v : V} {r : R} {ds : List D} (h : RR K H0 H P v r) (e : r.d = .tup ds) : ∃ a vs, v = .ref a ∧ SqT K H a vs ∧ Rps H P vs ds := by
  have q := h.lent (by rw [e]; rfl)
  rw [e] at q
  exact q

def LentB (K : PySem.W.Frag) (H : Hp) (B P : Addr → Prop) (v : V) : D → Prop
  | .lst ds => ∃ a vs, v = .ref a ∧ ((¬ B a ∧ Rd H a (.lst vs)) ∨ ∀ H', SqL K H' a vs) ∧ Rps H P vs ds
  | .tup ds => ∃ a vs, v = .ref a ∧ ((¬ B a ∧ Rd H a (.tup vs)) ∨ ∀ H', SqT K H' a vs) ∧ Rps H P vs ds
  | .dct false ks ds => ∃ a kvs, v = .ref a ∧ ¬ B a ∧ Rd H a (.dK kvs) ∧ ks = kvs.map (fun p => kD p.1) ∧ (∀ p ∈ kvs, ∀ x, p.1 = .inr x → strOk x = true) ∧ Rps H P (kvs.map (·.2)) ds
  | .dct true ks ds => ∃ a kvs, v = .ref a ∧ ¬ B a ∧ Rd H a (.dT kvs) ∧ ks = kvs.map (fun p => ksD p.1) ∧ (∀ p ∈ kvs, ∀ x, Sum.inr x ∈ p.1 → strOk x = true) ∧ Rps H P (kvs.map (·.2)) ds
  | .obj C ns ds => ∃ a dx fvs, v = .ref a ∧ ¬ B a ∧ H a = some (.ins C dx fvs) ∧ fvs.map (·.1) = ns ∧ Rps H P (fvs.map (·.2)) ds
  | _ => False
theorem LentB.lent {K : PySem.W.Frag} {H : Hp} {B P : Addr → Prop} {v : V} {d : D} (h : LentB K H B P v d) : Lent K H P v d := by
  cases d with
  | lst ds => obtain ⟨a, vs, h1, h2, r⟩ := h; exact ⟨a, vs, h1, h2.elim (fun z => .inl z.2) (fun z => z H), r⟩
  | tup ds => obtain ⟨a, vs, h1, h2, r⟩ := h; exact ⟨a, vs, h1, h2.elim (fun z => .inl z.2) (fun z => z H), r⟩
  | dct tk ks ds =>
    cases tk with
    | false => obtain ⟨a, vs, h1, _, h2, h3, h4, r⟩ := h; exact ⟨a, vs, h1, h2, h3, h4, r⟩
    | true => obtain ⟨a, vs, h1, _, h2, h3, h4, r⟩ := h; exact ⟨a, vs, h1, h2, h3, h4, r⟩
  | obj C ns ds => obtain ⟨a, dx, fvs, h1, _, h2, h3, r⟩ := h; exact ⟨a, dx, fvs, h1, h2, h3, r⟩
  | _ => exact False.elim h
theorem LentB.move {K : PySem.W.Frag} {H H' : Hp} {B B' P P' : Addr → Prop} (kB : ∀ a o, ¬ B a → H a = some o → H' a = some o) (nB : ∀ a o, ¬ B a → H a = some o → ¬ B' a) (k : ∀ a o, ¬ P a → H a = some o → H' a = some o)
    (n : ∀ a o, ¬ P a → H a = some o → ¬ P' a) {v : V} {d : D} (h : LentB K H B P v d) : LentB K H' B' P' v d := by
  have rd : ∀ {a u}, ¬ B a → Rd H a u → ¬ B' a ∧ Rd H' a u := fun {a u} nb z => z.elim (fun z => ⟨nB _ _ nb z, .inl (kB _ _ nb z)⟩) (fun ⟨o, z⟩ => ⟨nB _ _ nb z, .inr ⟨o, kB _ _ nb z⟩⟩)
  cases d with
  | lst ds => obtain ⟨a, vs, h1, h2, r⟩ := h; exact ⟨a, vs, h1, h2.imp (fun z => rd z.1 z.2) id, r.move k n⟩
  | tup ds => obtain ⟨a, vs, h1, h2, r⟩ := h; exact ⟨a, vs, h1, h2.imp (fun z => rd z.1 z.2) id, r.move k n⟩
  | dct tk ks ds =>
    cases tk with
    | false => obtain ⟨a, vs, h1, h0, h2, h3, h4, r⟩ := h; exact ⟨a, vs, h1, (rd h0 h2).1, (rd h0 h2).2, h3, h4, r.move k n⟩
    | true => obtain ⟨a, vs, h1, h0, h2, h3, h4, r⟩ := h; exact ⟨a, vs, h1, (rd h0 h2).1, (rd h0 h2).2, h3, h4, r.move k n⟩
  | obj C ns ds => obtain ⟨a, dx, fvs, h1, h0, h2, h3, r⟩ := h; exact ⟨a, dx, fvs, h1, nB _ _ h0 h2, kB _ _ h0 h2, h3, r.move k n⟩
  | _ => exact False.elim h
theorem LentB.ex {K : PySem.W.Frag} {H H' : Hp} {B P : Addr → Prop} (e : Ex H H') {v : V} {d : D} (h : LentB K H B P v d) : LentB K H' B P v d :=
  h.move (fun a o _ q => e a o q) (fun _ _ p _ => p) (fun a o _ q => e a o q) (fun _ _ p _ => p)
def Cel (c : Nat → List Addr) (a : Addr) : Prop := ∃ i, a ∈ c i
def Own (c : Nat → List Addr) (S : Addr → Prop) (a : Addr) : Prop := (∃ i, a ∈ c i) ∨ S a
def RS (K : PySem.W.Frag) (H : Hp) (B P : Addr → Prop) (cell : List Addr) (v : V) : R → Prop
  | .val d => cell = [] ∧ Rp H P v d
  | .own d => ∃ a, v = .ref a ∧ cell = [a] ∧ Cell H P a d
  | .bor d => cell = [] ∧ LentB K H B P v d
structure SR (K : PySem.W.Frag) (σ : St) (H : Hp) (ρ : Env) (c : Nat → List Addr) (S : Addr → Prop) : Prop where
  len : ρ.length = σ.length
  rep : ∀ i r, ρ[i]? = some (some r) → ∃ v, σ[i]? = some (some v) ∧ RS K H (Cel c) (Own c S) (c i) v r
  off : ∀ i, (∀ r, ρ[i]? ≠ some (some r)) → c i = []
  dis : ∀ i j a, a ∈ c i → a ∈ c j → i = j
  sep : ∀ i a, a ∈ c i → ¬ S a
  trk : ∀ a, Own c S a → ∃ o, H a = some o
theorem RS.ex {K : PySem.W.Frag} {H H' : Hp} {B P : Addr → Prop} (e : Ex H H') {cell : List Addr} {v : V} {r : R} (h : RS K H B P cell v r) : RS K H' B P cell v r := by
  cases r with
  | val d => exact ⟨h.1, h.2.ex e⟩
  | own d => obtain ⟨a, h1, h2, h3⟩ := h; exact ⟨a, h1, h2, h3.ex e⟩
  | bor d => exact ⟨h.1, h.2.ex e⟩
theorem SR.ex {K : PySem.W.Frag} {σ : St} {H H' : Hp} {ρ : Env} {c : Nat → List Addr} {S : Addr → Prop} (h : SR K σ H ρ c S) (e : Ex H H') : SR K σ H' ρ c S :=
  ⟨h.len, fun i r q => let ⟨v, h1, h2⟩ := h.rep i r q; ⟨v, h1, h2.ex e⟩, h.off, h.dis, h.sep, fun a q => let ⟨o, z⟩ := h.trk a q; ⟨o, e a o z⟩⟩

def XP (H : Hp) (P : Addr → Prop) (d : Option Addr) (pl : List (Str × D)) : Prop :=
  (pl = [] ∧ d = none) ∨ ∃ dd fs, d = some dd ∧ ¬ P dd ∧ H dd = some (.xd fs) ∧ fs.map (·.1) = pl.map (·.1) ∧ Rps H P (fs.map (·.2)) (pl.map (·.2))
structure Cn where
  K : PySem.W.Frag
  ca : Nat → Addr
def RW (C : Cn) (W : WX) (P : Addr → Prop) (σ : St) (H : Hp) (res : Res R) (Q : VK) : Prop := match res with
  | .ok r => ∀ v H', Ex H H' → RR C.K H H' P v r → Q v H'
  | .exc c pl => ∀ H' d, Ex H H' → XP H' P d pl → W (.ref (C.ca c)) d σ H'
  | .stuck => False
section
variable {C : Cn} {W : WX} {P : Addr → Prop} {σ : St} {H H1 : Hp} {res : Res R} {Q Q' : VK}
theorem RW.mono (e : Ex H H1) (h : RW C W P σ H res Q) : RW C W P σ H1 res Q := by
  cases res with
  | ok r => exact fun v H' e1 q => h v H' (e.trans e1) (q.mono e fun _ _ z => z)
  | exc c pl => exact fun H' d e1 q => h H' d (e.trans e1) q
  | stuck => exact h
theorem RW.imp (h : RW C W P σ H res Q) (k : ∀ v H', Q v H' → Q' v H') : RW C W P σ H res Q' := by
  cases res with
  | ok r => exact fun v H' e q => k _ _ (h v H' e q)
  | exc c pl => exact h
  | stuck => exact h
theorem RW.bind {f : R → Res R} (h : RW C W P σ H (res.bind f) Q) : RW C W P σ H res (fun v H' => ∃ r, Ex H H' ∧ RR C.K H H' P v r ∧ RW C W P σ H' (f r) Q) := by
  cases res with
  | ok r => exact fun v H' e q => ⟨r, e, q, RW.mono e h⟩
  | exc c pl => exact h
  | stuck => exact h
end
def RWs (C : Cn) (W : WX) (P : Addr → Prop) (σ : St) (H : Hp) (res : Res (List R)) (Q : List V → Hp → Prop) : Prop := match res with
  | .ok rs => ∀ vs H', Ex H H' → Paired (RR C.K H H' P) vs rs → Q vs H'
  | .exc c pl => ∀ H' d, Ex H H' → XP H' P d pl → W (.ref (C.ca c)) d σ H'
  | .stuck => False
theorem Pd.mono {K : PySem.W.Frag} {H0 H0' H H' : Hp} {P : Addr → Prop} (e0 : Ex H0' H0) (e : Ex H H') {vs : List V} {rs : List R} (h : Paired (RR K H0 H P) vs rs) : Paired (RR K H0' H' P) vs rs := by
  induction h with
  | nil => exact .nil
  | cons r _ ih => exact .cons (r.mono e0 e) ih
section
variable {C : Cn} {W : WX} {P : Addr → Prop} {σ : St} {H H1 : Hp} {res : Res (List R)} {Q Q' : List V → Hp → Prop}
theorem RWs.mono (e : Ex H H1) (h : RWs C W P σ H res Q) : RWs C W P σ H1 res Q := by
  cases res with
  | ok r => exact fun v H' e1 q => h v H' (e.trans e1) (Pd.mono e (fun _ _ z => z) q)
  | exc c pl => exact fun H' d e1 q => h H' d (e.trans e1) q
  | stuck => exact h
theorem RWs.bind {f : List R → Res R} {Q : VK} (h : RW C W P σ H (res.bind f) Q) : RWs C W P σ H res (fun vs H' => ∃ rs, Ex H H' ∧ Paired (RR C.K H H' P) vs rs ∧ RW C W P σ H' (f rs) Q) := by
  cases res with
  | ok r => exact fun v H' e q => ⟨r, e, q, RW.mono e h⟩
  | exc c pl => exact h
  | stuck => exact h
theorem RWs.imp (h : RWs C W P σ H res Q) (k : ∀ v H', Q v H' → Q' v H') : RWs C W P σ H res Q' := by
  cases res with
  | ok r => exact fun v H' e q => k _ _ (h v H' e q)
  | exc c pl => exact h
  | stuck => exact h
end
def tM (C : Cn) (W : WX) (m : Env → Res R) : TE := fun σ H Q => ∃ ρ c S, SR C.K σ H ρ c S ∧ RW C W (Own c S) σ H (m ρ) Q
def tMs (C : Cn) (W : WX) (m : Env → Res (List R)) : TA := fun σ H Q => ∃ ρ c S, SR C.K σ H ρ c S ∧ RWs C W (Own c S) σ H (m ρ) Q
def tMt (C : Cn) (W : WX) (m : Env → Res R) : TT := fun σ H Q => ∃ ρ c S, SR C.K σ H ρ c S ∧ RW C W (Own c S) σ H (m ρ) fun v H' => ∃ b, v = .bl b ∧ Q b H'

section
variable {X : Cx} {e : Expr} {t t' : TE} {tt tt' : TT} {ta ta' : TA} {es : List Expr}
theorem PE.weak (h : PE X e t) (k : ∀ σ H Q, t' σ H Q → t σ H Q) : PE X e t' := ⟨fun pins s σ H Q I q => h.run pins s σ H Q I (k σ H Q q)⟩
theorem PT.weak (h : PT X e tt) (k : ∀ σ H Q, tt' σ H Q → tt σ H Q) : PT X e tt' := ⟨fun pins s σ H Q I q => h.run pins s σ H Q I (k σ H Q q)⟩
theorem PW.weak (h : PW X e tt) (k : ∀ σ H Q, tt' σ H Q → tt σ H Q) : PW X e tt' := ⟨fun wh pins s σ H Q I q => h.run wh pins s σ H Q I (k σ H Q q)⟩
theorem PA.weak (h : PA X es ta) (k : ∀ σ H Q, ta' σ H Q → ta σ H Q) : PA X es ta' := ⟨fun pos pins s σ H Q I q => h.run pos pins s σ H Q I (k σ H Q q)⟩
theorem PS.weak {st : Stmt} {t t' : TS} (h : PS X st t) (k : ∀ D σ H, t' D σ H → t D σ H) : PS X st t' := ⟨fun pins s σ H D I q => h.run pins s σ H D I (k D σ H q)⟩
theorem PSs.weak {st : List Stmt} {t t' : TS} (h : PSs X st t) (k : ∀ D σ H, t' D σ H → t D σ H) : PSs X st t' := ⟨fun pins s σ H D I q => h.run pins s σ H D I (k D σ H q)⟩
end
end Mp

namespace Mp
open PySem L2

def LIM : Nat := 1000000
theorem lim_ok {n : Nat} (h : n ≤ LIM) : n ≤ sizeLine := Nat.le_trans h (by decide)
theorem lim_lt {n : Nat} (h : n < LIM) : n < sizeLine := Nat.lt_of_lt_of_le h (by decide)
def R.exact : R → Bool
  | .val _ | .own _ => true
  | .bor _ => false
theorem RR.lstX {K : PySem.W.Frag} {H0 H : Hp} {P : Addr → Prop} {v : V} {r : R} {ds : List D} (h : RR K H0 H P v r) (e : r.d = .lst ds) (x : r.exact = true) : ∃ a vs, v = .ref a ∧ H a = some (.lst vs) ∧ Rps H P vs ds := by
  cases r with
  | val d => cases e; have h' : Rp H P v (.lst ds) := h; simp only [Rp] at h'; obtain ⟨a, vs, h1, _, h2, r⟩ := h'; exact ⟨a, vs, h1, h2, r⟩
  | own d => cases e; obtain ⟨a, h1, h2, h3, vs, h4, h5⟩ := h; exact ⟨a, vs, h1, h4, h5.less fun _ z => .inl z⟩
  | bor d => cases x
def strRep (z : Str) (k : Int) : Str := ⟨(List.replicate k.toNat z.cps.toList).flatten.toArray⟩
def mulOk (i j : Int) : Bool := decide (i.natAbs < 18446744073709551616) || decide (j.natAbs < 18446744073709551616) || decide (i.natAbs.log2 + j.natAbs.log2 < 1000000)
def opAdd (x y : R) : Res R := match x.d, y.d with
  | .int i, .int j => .ok (.val (.int (i + j)))
  | .str a, .str b => if a.length + b.length ≤ LIM then .ok (.val (.str (a ++ b))) else .stuck
  | .lst as, .lst bs => if x.exact && y.exact && decide (as.length + bs.length ≤ LIM) then .ok (.own (.lst (as ++ bs))) else .stuck
  | .tup as, .tup bs => if x.exact && !as.isEmpty && decide (as.length + bs.length ≤ LIM) then .ok (.val (.tup (as ++ bs))) else .stuck
  | _, _ => .stuck
def opSub (x y : R) : Res R := match x.d, y.d with
  | .int i, .int j => .ok (.val (.int (i - j)))
  | _, _ => .stuck
def opMul (x y : R) : Res R := match x.d, y.d with
  | .int i, .int j => if mulOk i j then .ok (.val (.int (i * j))) else .stuck
  | .str a, .int k => if decide (0 ≤ k) && decide (k ≤ 1000) && decide (a.length ≤ 1000) then .ok (.val (.str (strRep a k))) else .stuck
  | .lst as, .int k => if x.exact && decide (0 ≤ k) && decide (k ≤ 1000) && decide (as.length ≤ 1000) then .ok (.own (.lst (List.replicate k.toNat as).flatten)) else .stuck
  | _, _ => .stuck
def opDiv (x y : R) : Res R := match x.d, y.d with
  | .int i, .int j => if decide (0 < j) && decide (j.natAbs.log2 < 9000) then .ok (.val (.int (i / j))) else .stuck
  | _, _ => .stuck
def opMod (x y : R) : Res R := match x.d, y.d with
  | .int i, .int j => if decide (0 < j) then .ok (.val (.int (i % j))) else .stuck
  | _, _ => .stuck
def opPow (x y : R) : Res R := match x.d, y.d with
  | .int i, .int j => if decide (0 ≤ j) && decide (j ≤ 1000000) && decide (i.natAbs < 18446744073709551616) then .ok (.val (.int (i ^ j.toNat))) else .stuck
  | _, _ => .stuck
def opBin : Operator → R → R → Res R
  | .Add => opAdd | .Sub => opSub | .Mult => opMul | .FloorDiv => opDiv | .Mod => opMod | .Pow => opPow
  | _ => fun _ _ => .stuck

theorem strOk_append {a b : Str} (ha : strOk a = true) (hb : strOk b = true) : strOk (a ++ b) = true := by
  show (a.cps ++ b.cps).all _ = true
  rw [Array.all_append]
  simp only [Bool.and_eq_true]
  exact ⟨ha, hb⟩
theorem strOk_list {a : Str} : strOk a = true ↔ ∀ c ∈ a.cps.toList, c < 0x110000 := by
  unfold strOk PyData.strOk
  rw [← Array.all_toList, List.all_eq_true]
  simp
theorem strOk_mk {l : List Nat} : strOk ⟨l.toArray⟩ = true ↔ ∀ c ∈ l, c < 0x110000 := by rw [strOk_list]
theorem strOk_rep {z : Str} (h : strOk z = true) (k : Int) : strOk (strRep z k) = true := by
  rw [strOk_list] at h
  rw [strRep, strOk_mk]
  intro c hc
  obtain ⟨l, hl, hc⟩ := List.mem_flatten.mp hc
  rw [List.mem_replicate] at hl
  rw [hl.2] at hc
  exact h c hc
theorem strOk_cut {z : Str} (h : strOk z = true) (lo hi : Option Int) : strOk (cutS z lo hi) = true := by
  rw [strOk_list] at h
  rw [cutS, strOk_mk]
  exact fun c hc => h c (List.mem_of_mem_drop (List.mem_of_mem_take hc))
theorem strOk_sign {z : Str} (h : strOk z = true) {c : Nat} (hc : c ∈ z.cps.toList) : strOk ⟨#[c]⟩ = true := by
  rw [strOk_list] at h
  exact strOk_mk.mpr (fun d hd => by rw [List.mem_singleton.mp hd]; exact h c hc)

section
variable {X : Cx}
def rMulS : R2 := fun x y H Q => ∃ z k, x = .str z ∧ y = .int k ∧ 0 ≤ k ∧ k ≤ 1000 ∧ z.length ≤ 1000 ∧ Q (.str (strRep z k)) H
theorem foldl_arr (z : Array Nat) : ∀ (n : Nat) (acc : Array Nat), (List.replicate n z).foldl (· ++ ·) acc = (acc.toList ++ (List.replicate n z.toList).flatten).toArray
  | 0, acc => by simp
  | n + 1, acc => by
    rw [List.replicate_succ, List.foldl_cons, foldl_arr z n, List.replicate_succ, List.flatten_cons, Array.toList_append, List.append_assoc]
theorem op_mulS : OpR X (binaryOp .Mult) rMulS := by
  intro pins s σ H x y v u Q I rx ry h
  obtain ⟨z, k, rfl, rfl, h0, h1, hz, q⟩ := h
  obtain ⟨t, rfl⟩ := rx
  obtain ⟨t', rfl⟩ := ry
  have hk : k.toNat ≤ 1000 := by omega
  have hm : z.length * k.toNat ≤ 1000000 := Nat.le_trans (Nat.mul_le_mul hz hk) (by decide)
  refine PySem.P.mul_str ?_ (fun _ _ => ?_) (fun _ _ => ?_) ?_
  · rw [decide_eq_false (by omega), decide_eq_false (by omega)]; rfl
  · intro hc
    have hk1 : 0 < k := by omega
    have h3 : (2 ^ 63 - 1 : Int) / 1000 ≤ (2 ^ 63 - 1) / k := by
      apply Int.le_ediv_of_mul_le hk1
      have : (2 ^ 63 - 1 : Int) / 1000 * k ≤ (2 ^ 63 - 1 : Int) / 1000 * 1000 := Int.mul_le_mul_of_nonneg_left h1 (by decide)
      have h4 : (2 ^ 63 - 1 : Int) / 1000 * 1000 ≤ 2 ^ 63 - 1 := by decide
      omega
    have h5 : (1000 : Int) ≤ (2 ^ 63 - 1) / 1000 := by decide
    omega
  · show decide _ = false
    exact decide_eq_false (by have : sizeLine = 16777216 := sizeLine_eq; omega)
  · by_cases hk0 : k < 1
    · rw [if_pos hk0]
      have e : strRep z k = Str.empty := by
        unfold strRep
        rw [show k.toNat = 0 by omega]
        rfl
      rw [e] at q
      exact ⟨by decide, ⟨.str _, H, I.tok _, ⟨_, rfl⟩, q⟩⟩
    · rw [if_neg hk0]
      by_cases hk1 : (k == 1 || z.length == 0) = true
      · rw [if_pos hk1]
        have e : strRep z k = z := by
          unfold strRep
          rw [Bool.or_eq_true] at hk1
          rcases hk1 with hk1 | hk1
          · have : k = 1 := by simpa using hk1
            subst this
            simp
          · have hl : z.cps.toList = [] := by
              have : z.cps.size = 0 := by simpa [Str.length] using hk1
              exact List.eq_nil_of_length_eq_zero (by simpa using this)
            rw [hl]
            have : (List.replicate k.toNat ([] : List Nat)).flatten = [] := by simp
            rw [this]
            have z2 : z.cps = #[] := by rw [← Array.toArray_toList (xs := z.cps), hl]
            cases z
            simp at z2
            rw [z2]
        rw [e] at q
        exact ⟨.str _, H, I, ⟨_, rfl⟩, q⟩
      · rw [if_neg hk1]
        have e : (⟨(List.replicate k.toNat z.cps).foldl (· ++ ·) #[]⟩ : Str) = strRep z k := by
          unfold strRep
          rw [foldl_arr]
          simp
        rw [e]
        refine ⟨?_, ⟨.str _, H, I.tok _, ⟨_, rfl⟩, q⟩⟩
        have hl : (strRep z k).length = k.toNat * z.length := by
          unfold strRep Str.length
          simp
        have : sizeLine = 16777216 := sizeLine_eq
        rw [hl, Nat.mul_comm]
        omega

variable {C : Cn} {W : WX} {a b : Expr} {ma mb : Env → Res R} {pos : Pos}
theorem pe_bin {op : Operator} {r : R2} {f : R → R → Res R} (ho : OpR X (binaryOp op) r)
    (hr : ∀ (P : Addr → Prop) (σ : L2.St) (H0 H : Hp) (Q : VK) (v u : V) (x y : R), (∀ a, P a → ∃ o, H a = some o) → RR C.K H0 H P v x → RR C.K H0 H P u y → RW C W P σ H (f x y) Q → r v u H Q)
    (ha : PE X a (tM C W ma)) (hb : PE X b (tM C W mb)) : PE X (.BinOp a op b pos) (tM C W fun ρ => (ma ρ).bind fun x => (mb ρ).bind fun y => f x y) :=
  PE.weak (pe_op ho ha hb) fun σ H Q ⟨ρ, c, S, sr, h⟩ => ⟨ρ, c, S, sr, h.bind.imp fun v H1 ⟨x, e1, rx, h1⟩ => ⟨ρ, c, S, sr.ex e1, h1.bind.imp fun u H2 ⟨y, e2, ry, h2⟩ => hr _ σ H H2 Q v u x y (((sr.ex e1).ex e2).trk) (rx.mono (Ex.refl _) e2) (ry.mono e1 (Ex.refl _)) h2⟩⟩
theorem pe_cmpB {op : CmpOp} {r : R2} {f : R → R → Res R} (ho : OpR X (compareOp op) r)
    (hr : ∀ (P : Addr → Prop) (σ : L2.St) (H0 H : Hp) (Q : VK) (v u : V) (x y : R), (∀ a, P a → ∃ o, H a = some o) → RR C.K H0 H P v x → RR C.K H0 H P u y → RW C W P σ H (f x y) Q → r v u H Q)
    (ha : PE X a (tM C W ma)) (hb : PE X b (tM C W mb)) (hm : behindInMarks op b = false) : PE X (.Compare a [op] [b] pos) (tM C W fun ρ => (ma ρ).bind fun x => (mb ρ).bind fun y => f x y) :=
  PE.weak (pe_cmpR ho ha hb hm) fun σ H Q ⟨ρ, c, S, sr, h⟩ => ⟨ρ, c, S, sr, h.bind.imp fun v H1 ⟨x, e1, rx, h1⟩ => ⟨ρ, c, S, sr.ex e1, h1.bind.imp fun u H2 ⟨y, e2, ry, h2⟩ => hr _ σ H H2 Q v u x y (((sr.ex e1).ex e2).trk) (rx.mono (Ex.refl _) e2) (ry.mono e1 (Ex.refl _)) h2⟩⟩
theorem rw_new {P : Addr → Prop} {σ : L2.St} {H : Hp} {Q : VK} {ds : List D} {vs : List V} (h : RW C W P σ H (.ok (.own (.lst ds))) Q) (r : Rps H P vs ds) (hP : ∀ a, P a → ∃ o, H a = some o) : ∀ p, H p = none → Q (.ref p) (upd H p (.lst vs)) := by
  intro p hp
  refine h (.ref p) (upd H p (.lst vs)) (Ex.new hp) ⟨p, rfl, hp, fun z => ?_, vs, upd_same, (r.fresh hp).ex (Ex.new hp)⟩
  obtain ⟨o, q⟩ := hP p z
  rw [hp] at q
  cases q
end
end Mp

namespace Mp
open PySem L2

mutual
def D.py : D → PyData
  | .non => .none
  | .bl b => .bool b
  | .int i => .int i
  | .str x => .str x
  | .tup ds => .tuple (pys ds)
  | .lst ds => .list (pys ds)
  | .dct _ _ _ => .dict []
  | .obj _ _ _ => .dict []
  | .exo _ _ _ _ => .dict []
def pys : List D → List PyData
  | [] => []
  | d :: ds => d.py :: pys ds
end
mutual
/-- no dict in it -/
def noD : D → Bool
  | .tup ds | .lst ds => noDs ds
  | .dct _ _ _ => false
  | .obj _ _ _ => false
  | .exo _ _ _ _ => false
  | _ => true
def noDs : List D → Bool
  | [] => true
  | d :: ds => noD d && noDs ds
end
mutual
def dep : D → Nat
  | .tup ds | .lst ds => deps ds + 1
  | .dct _ _ ds => deps ds + 1
  | .obj _ _ ds => deps ds + 1
  | .exo _ _ _ ds => deps ds + 1
  | _ => 0
def deps : List D → Nat
  | [] => 0
  | d :: ds => max (dep d) (deps ds)
end
mutual
def deq : D → D → Bool
  | .non, .non => true
  | .bl a, .bl b => a == b
  | .bl a, .int j => (if a then 1 else 0) == j
  | .int i, .bl b => i == (if b then 1 else 0)
  | .int i, .int j => i == j
  | .str x, .str y => x == y
  | .tup as, .tup bs => deqs as bs
  | .lst as, .lst bs => deqs as bs
  | _, _ => false
def deqs : List D → List D → Bool
  | [], [] => true
  | a :: as, b :: bs => deq a b && deqs as bs
  | _, _ => false
end
mutual
theorem eqv_py : ∀ a b : D, PyData.eqv a.py b.py = deq a b
  | .non, b => by cases b <;> simp [D.py, PyData.eqv, deq]
  | .bl x, b => by cases b <;> simp [D.py, PyData.eqv, deq]
  | .int i, b => by cases b <;> simp [D.py, PyData.eqv, deq]
  | .str x, b => by cases b <;> simp [D.py, PyData.eqv, deq]
  | .tup as, .tup bs => by simp only [D.py, PyData.eqv, deq]; exact eqvs_py as bs
  | .lst as, .lst bs => by simp only [D.py, PyData.eqv, deq]; exact eqvs_py as bs
  | .tup as, .non | .tup as, .bl _ | .tup as, .int _ | .tup as, .str _ | .tup as, .lst _ | .tup as, .dct _ _ _ | .tup as, .obj _ _ _ | .tup as, .exo _ _ _ _ => by simp [D.py, PyData.eqv, deq]
  | .lst as, .non | .lst as, .bl _ | .lst as, .int _ | .lst as, .str _ | .lst as, .tup _ | .lst as, .dct _ _ _ | .lst as, .obj _ _ _ | .lst as, .exo _ _ _ _ => by simp [D.py, PyData.eqv, deq]
  | .dct _ _ _, b => by cases b <;> simp [D.py, PyData.eqv, deq]
  | .obj _ _ _, b => by cases b <;> simp [D.py, PyData.eqv, deq]
  | .exo _ _ _ _, b => by cases b <;> simp [D.py, PyData.eqv, deq]
theorem eqvs_py : ∀ as bs : List D, PyData.eqvAll (pys as) (pys bs) = deqs as bs
  | [], [] => by simp [pys, PyData.eqvAll, deqs]
  | [], _ :: _ => by simp [pys, PyData.eqvAll, deqs]
  | _ :: _, [] => by simp [pys, PyData.eqvAll, deqs]
  | a :: as, b :: bs => by simp only [pys, PyData.eqvAll, deqs, eqv_py a b, eqvs_py as bs]
end
theorem pys_map : ∀ ds : List D, pys ds = ds.map D.py
  | [] => rfl
  | d :: ds => by simp only [pys, List.map_cons, pys_map ds]
mutual
theorem dep_py : ∀ d : D, noD d = true → d.py.depth = dep d
  | .non, _ | .bl _, _ | .int _, _ | .str _, _ => by simp [D.py, PyData.depth, dep]
  | .tup ds, h => by simp only [noD] at h; simp only [D.py, PyData.depth, dep]; rw [deps_py ds h]
  | .lst ds, h => by simp only [noD] at h; simp only [D.py, PyData.depth, dep]; rw [deps_py ds h]
  | .dct _ _ _, h => by simp [noD] at h
  | .obj _ _ _, h => by simp [noD] at h
  | .exo _ _ _ _, h => by simp [noD] at h
theorem deps_py : ∀ ds : List D, noDs ds = true → PyData.depthAll (pys ds) = deps ds
  | [], _ => by simp [pys, PyData.depthAll, deps]
  | d :: ds, h => by
    simp only [noDs, Bool.and_eq_true] at h
    simp only [pys, PyData.depthAll, deps]
    rw [dep_py d h.1, deps_py ds h.2]
end
theorem rp_str {H : Hp} {P : Addr → Prop} {x : Str} (h : strOk x = true) : Rp H P (.str x) (.str x) := by simp only [Rp]; exact ⟨trivial, h⟩
mutual
theorem Rp.dp {K : PySem.W.Frag} {H : Hp} {P : Addr → Prop} : ∀ {d : D} {v : V}, Rp H P v d → noD d = true → Dp K H v d.py ∧ d.py.canLay0 = true
  | .non, v, h, _ => by simp only [Rp] at h; subst h; exact ⟨.non, by simp [D.py, PyData.canLay0]⟩
  | .bl b, v, h, _ => by simp only [Rp] at h; subst h; exact ⟨.bl b, by simp [D.py, PyData.canLay0]⟩
  | .int i, v, h, _ => by simp only [Rp] at h; subst h; exact ⟨.int i, by simp [D.py, PyData.canLay0]⟩
  | .str x, v, h, _ => by simp only [Rp] at h; obtain ⟨rfl, h⟩ := h; exact ⟨.str x, by simp only [D.py, PyData.canLay0]; exact h⟩
  | .tup ds, v, h, n => by
    simp only [Rp] at h
    simp only [noD] at n
    obtain ⟨a, vs, rfl, _, t, r⟩ := h
    obtain ⟨r1, r2⟩ := Rps.dp (K := K) r n
    exact ⟨.tup (SqT.of t) r1, by simp only [D.py, PyData.canLay0]; exact r2⟩
  | .lst ds, v, h, n => by
    simp only [Rp] at h
    simp only [noD] at n
    obtain ⟨a, vs, rfl, _, t, r⟩ := h
    obtain ⟨r1, r2⟩ := Rps.dp (K := K) r n
    exact ⟨.lst (SqL.of t) r1, by simp only [D.py, PyData.canLay0]; exact r2⟩
  | .dct _ _ _, v, h, n => by simp [noD] at n
  | .obj _ _ _, v, h, n => by simp [noD] at n
  | .exo _ _ _ _, v, h, n => by simp [noD] at n
theorem Rps.dp {K : PySem.W.Frag} {H : Hp} {P : Addr → Prop} : ∀ {ds : List D} {vs : List V}, Rps H P vs ds → noDs ds = true → DpAll K H vs (pys ds) ∧ PyData.canLayAll0 (pys ds) = true
  | [], [], _, _ => ⟨.nil, by simp [pys, PyData.canLayAll0]⟩
  | [], _ :: _, h, _ => by simp [Rps] at h
  | _ :: _, [], h, _ => by simp [Rps] at h
  | d :: ds, v :: vs, h, n => by
    simp only [Rps] at h
    simp only [noDs, Bool.and_eq_true] at n
    obtain ⟨r1, r2⟩ := Rp.dp (K := K) h.1 n.1
    obtain ⟨s1, s2⟩ := Rps.dp (K := K) h.2 n.2
    exact ⟨.cons r1 s1, by simp only [pys, PyData.canLayAll0, r2, s2, Bool.and_self]⟩
end
theorem RR.dp {K : PySem.W.Frag} {H0 H : Hp} {P : Addr → Prop} {v : V} {r : R} (h : RR K H0 H P v r) (n : noD r.d = true) : Dp K H v r.d.py ∧ r.d.py.canLay0 = true := by
  by_cases s : isSc r.d = true
  · exact (h.sc s).dp n
  · have q := h.lent (by simpa using s)
    cases e : r.d with
    | lst ds =>
      rw [e] at q n
      obtain ⟨a, vs, rfl, t, r⟩ := q
      simp only [noD] at n
      obtain ⟨r1, r2⟩ := Rps.dp (K := K) r n
      exact ⟨.lst t r1, by simp only [D.py, PyData.canLay0]; exact r2⟩
    | tup ds =>
      rw [e] at q n
      obtain ⟨a, vs, rfl, t, r⟩ := q
      simp only [noD] at n
      obtain ⟨r1, r2⟩ := Rps.dp (K := K) r n
      exact ⟨.tup t r1, by simp only [D.py, PyData.canLay0]; exact r2⟩
    | dct tk ks ds => rw [e] at n; simp [noD] at n
    | obj C ns ds => rw [e] at n; simp [noD] at n
    | _ => rw [e] at s; simp [isSc] at s

def b2r (b : Bool) : Res R := .ok (.val (.bl b))
def eqOk (a b : D) : Bool := noD a && noD b && (decide (dep a ≤ 150) || decide (dep b ≤ 150))
def keyD : D → Option Key
  | .int i => some (.inl i)
  | .str x => some (.inr x)
  | _ => none
def keysD : List D → Option (List Key)
  | [] => some []
  | d :: ds => match keyD d, keysD ds with
    | some k, some ks => some (k :: ks)
    | _, _ => none
def keq : D → D → Bool
  | .int i, .int j => i == j
  | .str x, .str y => x == y
  | .tup as, .tup bs => (keysD as).isSome && decide (keysD as = keysD bs)
  | _, _ => false
def dctGet : List D → List D → D → Option D
  | k :: ks, v :: vs, q => if keq k q then some v else dctGet ks vs q
  | _, _, _ => none
theorem keyD_kD (k : Key) : keyD (kD k) = some k := by cases k <;> rfl
theorem keyD_some {d : D} {k : Key} (h : keyD d = some k) : d = kD k := by
  cases d <;> simp [keyD] at h <;> (subst h; rfl)
theorem keysD_ksD : ∀ k : List Key, keysD (k.map kD) = some k
  | [] => rfl
  | a :: r => by simp [keysD, keyD_kD, keysD_ksD r]
theorem keysD_some : ∀ {ds : List D} {k : List Key}, keysD ds = some k → ds = k.map kD
  | [], k, h => by simp [keysD] at h; subst h; rfl
  | d :: ds, k, h => by
    unfold keysD at h
    split at h
    · next k' ks e1 e2 => cases h; rw [List.map_cons, keyD_some e1, keysD_some e2]
    · cases h
theorem keq_kD (a b : Key) : keq (kD a) (kD b) = decide (a = b) := by
  cases a <;> cases b <;> simp [kD, keq, Bool.beq_eq_decide_eq]
theorem keq_ksD (a b : List Key) : keq (ksD a) (ksD b) = decide (a = b) := by
  simp only [ksD, keq, keysD_ksD, Option.isSome_some, Bool.true_and]
  by_cases h : a = b
  · subst h; simp
  · rw [decide_eq_false h]
    exact decide_eq_false fun z => h (Option.some.inj z)
def RelD (H : Hp) (P : Addr → Prop) : Option V → Option D → Prop
  | some v, some d => Rp H P v d
  | none, none => True
  | _, _ => False
theorem val_rel {H : Hp} {P : Addr → Prop} {κ : Type} [DecidableEq κ] {f : κ → D} (hf : ∀ a b, keq (f a) (f b) = decide (a = b)) (k : κ) :
    ∀ {kvs : List (κ × V)} {ds : List D}, Rps H P (kvs.map (·.2)) ds → RelD H P (valV kvs k) (dctGet (kvs.map fun p => f p.1) ds (f k))
  | [], [], _ => by simp [valV, dctGet, RelD]
  | [], _ :: _, h => by simp [Rps] at h
  | _ :: _, [], h => by simp [Rps] at h
  | p :: kvs, d :: ds, h => by
    simp only [List.map_cons, Rps] at h
    simp only [List.map_cons, dctGet, hf]
    by_cases e : p.1 = k
    · rw [valV_pos e, if_pos (decide_eq_true e)]
      exact h.1
    · rw [valV_neg e, if_neg (by simp [e])]
      exact val_rel hf k h.2
def dctHit (ls us : List D) : List D → List D → Bool
  | k :: ks, v :: vs => (match dctGet ls us k with
    | some u => deq v u
    | none => false) && dctHit ls us ks vs
  | _, _ => true
def cpEqD (x y : D) : Option Bool := match x, y with
  | .dct tk ks vs, .dct tk' ls us => if (tk == tk') && (noDs vs && (noDs us && (decide (deps vs ≤ 150) || decide (deps us ≤ 150)))) then some (vs.length == us.length && dctHit ls us ks vs) else none
  | _, _ => none
def eqElse (n : Bool) (x y : D) : Res R := match cpEqD x y with
  | some b => b2r (if n then !b else b)
  | none => .stuck
def cpEq (x y : R) : Res R := if eqOk x.d y.d then b2r (deq x.d y.d) else eqElse false x.d y.d
def cpNe (x y : R) : Res R := if eqOk x.d y.d then b2r (!deq x.d y.d) else eqElse true x.d y.d
def strLt (a b : Str) : Bool := decide (a.cps.toList < b.cps.toList)
def cpLt (x y : R) : Res R := match x.d, y.d with
  | .int i, .int j => b2r (decide (i < j))
  | .str a, .str b => b2r (strLt a b)
  | _, _ => .stuck
def cpLe (x y : R) : Res R := match x.d, y.d with
  | .int i, .int j => b2r (decide (i ≤ j))
  | _, _ => .stuck
def cpGt (x y : R) : Res R := match x.d, y.d with
  | .int i, .int j => b2r (decide (j < i))
  | _, _ => .stuck
def cpGe (x y : R) : Res R := match x.d, y.d with
  | .int i, .int j => b2r (decide (j ≤ i))
  | _, _ => .stuck
def isNon : D → Bool
  | .non => true
  | _ => false
def cpIs (x y : R) : Res R := if isNon y.d then b2r (isNon x.d) else .stuck
def cpIsNot (x y : R) : Res R := if isNon y.d then b2r (!isNon x.d) else .stuck
def strIn (x z : Str) : Bool := !(Builtin.Str.occurrences z x 0 z.length 1).isEmpty
def inD (x : D) (ds : List D) : Bool := ds.any fun y => deq y x
def opIn (x y : R) : Res Bool := match x.d, y.d with
  | .str a, .str b => .ok (strIn a b)
  | d, .lst ds => if eqOk d (.lst ds) then .ok (inD d ds) else .stuck
  | d, .tup ds => if eqOk d (.tup ds) then .ok (inD d ds) else .stuck
  | _, _ => .stuck
def cpIn (x y : R) : Res R := match opIn x y with
  | .ok b => b2r b
  | _ => .stuck
def cpNin (x y : R) : Res R := match opIn x y with
  | .ok b => b2r (!b)
  | _ => .stuck
def opCmp : CmpOp → R → R → Res R
  | .Eq => cpEq | .NotEq => cpNe | .Lt => cpLt | .LtE => cpLe | .Gt => cpGt | .GtE => cpGe | .Is => cpIs | .IsNot => cpIsNot | .In => cpIn | .NotIn => cpNin
section
variable {X : Cx}
def rEqZ (K : PySem.W.Frag) : R2 := fun x y H Q => ∃ d e, Dp K H x d ∧ Dp K H y e ∧ d.canLay0 = true ∧ e.canLay0 = true ∧ min d.depth e.depth ≤ 150 ∧ Q (.bl (PyData.eqv d e)) H
def rNeZ (K : PySem.W.Frag) : R2 := fun x y H Q => ∃ d e, Dp K H x d ∧ Dp K H y e ∧ d.canLay0 = true ∧ e.canLay0 = true ∧ min d.depth e.depth ≤ 150 ∧ Q (.bl (!PyData.eqv d e)) H
theorem op_eqZ (hu : X.A.units + 200 < cLine) : OpR X (compareOp .Eq) (rEqZ X.K) := by
  intro pins s σ H x y v u Q I rx ry h
  obtain ⟨d, e, hd, he, sd, se, hm, q⟩ := h
  obtain ⟨as, r1⟩ := Dp.reads I d x v hd rx
  obtain ⟨bs, r2⟩ := Dp.reads I e y u he ry
  exact SeqAt.compareEq_reads r1 r2 sd se (by omega) ⟨.bl _, H, I, rfl, q⟩
theorem op_neZ (hu : X.A.units + 200 < cLine) : OpR X (compareOp .NotEq) (rNeZ X.K) := by
  intro pins s σ H x y v u Q I rx ry h
  obtain ⟨d, e, hd, he, sd, se, hm, q⟩ := h
  obtain ⟨as, r1⟩ := Dp.reads I d x v hd rx
  obtain ⟨bs, r2⟩ := Dp.reads I e y u he ry
  exact SeqAt.compareNe_reads r1 r2 sd se (by omega) ⟨.bl _, H, I, rfl, q⟩
def rEqX (K : PySem.W.Frag) : R2 := fun x y H Q => rEqZ K x y H Q ∨ rDct K false x y H Q
def rNeX (K : PySem.W.Frag) : R2 := fun x y H Q => rNeZ K x y H Q ∨ rDct K true x y H Q
theorem op_eqX (hu : X.A.units + 200 < cLine) : OpR X (compareOp .Eq) (rEqX X.K) := (op_eqZ hu).or (op_eqDct hu)
theorem op_neX (hu : X.A.units + 200 < cLine) : OpR X (compareOp .NotEq) (rNeX X.K) := (op_neZ hu).or (op_neDct hu)
theorem eqOk_dep {a b : D} (h : eqOk a b = true) : noD a = true ∧ noD b = true ∧ min a.py.depth b.py.depth ≤ 150 := by
  unfold eqOk at h
  rw [Bool.and_eq_true, Bool.and_eq_true, Bool.or_eq_true] at h
  obtain ⟨⟨h1, h2⟩, h3⟩ := h
  refine ⟨h1, h2, ?_⟩
  have e1 := dep_py a h1
  have e2 := dep_py b h2
  rw [e1, e2]
  rcases h3 with h3 | h3
  · have := of_decide_eq_true h3; omega
  · have := of_decide_eq_true h3; omega
def rInX (K : PySem.W.Frag) : R2 := fun x y H Q => (∃ d ds, Dp K H x d ∧ (Dp K H y (.list ds) ∨ Dp K H y (.tuple ds)) ∧ d.canLay0 = true ∧ PyData.canLayAll0 ds = true ∧ min (PyData.depthAll ds) d.depth ≤ 150 ∧ Q (.bl (ds.any fun z => PyData.eqv z d)) H)
theorem op_inX (hu : X.A.units + 200 < cLine) : OpR X (compareOp .In) (rInX X.K) := by
  intro pins s σ H x y v u Q I rx ry h
  obtain ⟨d, ds, hd, he, sd, se, hm, q⟩ := h
  obtain ⟨as, r1⟩ := Dp.reads I d x v hd rx
  rcases he with he | he
  · obtain ⟨bs, r2⟩ := Dp.reads I _ y u he ry
    exact SeqAt.in_list_reads r2 r1 se sd (by omega) ⟨.bl _, H, I, rfl, q⟩
  · obtain ⟨bs, r2⟩ := Dp.reads I _ y u he ry
    exact SeqAt.in_tuple_reads r2 r1 se sd (by omega) ⟨.bl _, H, I, rfl, q⟩
def rNinX (K : PySem.W.Frag) : R2 := fun x y H Q => (∃ d ds, Dp K H x d ∧ (Dp K H y (.list ds) ∨ Dp K H y (.tuple ds)) ∧ d.canLay0 = true ∧ PyData.canLayAll0 ds = true ∧ min (PyData.depthAll ds) d.depth ≤ 150 ∧ Q (.bl (!ds.any fun z => PyData.eqv z d)) H)
theorem op_ninX (hu : X.A.units + 200 < cLine) : OpR X (compareOp .NotIn) (rNinX X.K) := by
  intro pins s σ H x y v u Q I rx ry h
  obtain ⟨d, ds, hd, he, sd, se, hm, q⟩ := h
  obtain ⟨as, r1⟩ := Dp.reads I d x v hd rx
  rcases he with he | he
  · obtain ⟨bs, r2⟩ := Dp.reads I _ y u he ry
    exact SeqAt.notIn_list_reads r2 r1 se sd (by omega) ⟨.bl _, H, I, rfl, q⟩
  · obtain ⟨bs, r2⟩ := Dp.reads I _ y u he ry
    exact SeqAt.notIn_tuple_reads r2 r1 se sd (by omega) ⟨.bl _, H, I, rfl, q⟩
end
section
variable {X : Cx} {C : Cn} {W : WX} {a b : Expr} {ma mb : Env → Res R} {pos : Pos}
theorem rw_val {P : Addr → Prop} {σ : L2.St} {H : Hp} {Q : VK} {d : D} {v : V} (h : RW C W P σ H (.ok (.val d)) Q) (r : Rp H P v d) : Q v H := h v H (Ex.refl _) r
theorem rw_bl {P : Addr → Prop} {σ : L2.St} {H : Hp} {Q : VK} {b : Bool} (h : RW C W P σ H (b2r b) Q) : Q (.bl b) H := rw_val h (by simp [Rp])
theorem any_py (x : D) (ds : List D) : ((pys ds).any fun z => PyData.eqv z x.py) = inD x ds := by
  unfold inD
  rw [pys_map, List.any_map]
  congr 1
  funext y
  exact eqv_py y x
def CmpGives (C : Cn) (op : CmpOp) (r : R2) : Prop := ∀ (W : WX) (P : Addr → Prop) (σ : L2.St) (H0 H : Hp) (Q : VK) (v u : V) (x y : R), (∀ a, P a → ∃ o, H a = some o) → RR C.K H0 H P v x → RR C.K H0 H P u y → RW C W P σ H (opCmp op x y) Q → r v u H Q
theorem vhit_of {K : PySem.W.Frag} {H : Hp} {P : Addr → Prop} {κ : Type} [DecidableEq κ] {f : κ → D} (hf : ∀ a b, keq (f a) (f b) = decide (a = b)) {ls : List (κ × V)} {us : List D} (rl : Rps H P (ls.map (·.2)) us) (nu : noDs us = true) :
    ∀ {ks : List (κ × V)} {vs : List D}, Rps H P (ks.map (·.2)) vs → noDs vs = true → (deps vs ≤ 150 ∨ deps us ≤ 150) → VHit K H ls ks (dctHit (ls.map fun p => f p.1) us (ks.map fun p => f p.1) vs)
  | [], [], _, _, _ => .nil
  | [], _ :: _, h, _, _ => by simp [Rps] at h
  | _ :: _, [], h, _, _ => by simp [Rps] at h
  | (k, v) :: ks, d :: vs, h, nv, hm => by
    simp only [List.map_cons, Rps] at h
    simp only [noDs, Bool.and_eq_true] at nv
    have hm' : dep d ≤ 150 ∨ deps us ≤ 150 := by
      rcases hm with hm | hm
      · simp only [deps] at hm; exact .inl (by omega)
      · exact .inr hm
    have hm2 : deps vs ≤ 150 ∨ deps us ≤ 150 := by
      rcases hm with hm | hm
      · simp only [deps] at hm; exact .inl (by omega)
      · exact .inr hm
    have q := val_rel hf k rl
    have ih := vhit_of (K := K) hf rl nu h.2 nv.2 hm2
    simp only [List.map_cons, dctHit]
    cases e1 : valV ls k with
    | none =>
      rw [e1] at q
      cases e2 : dctGet (ls.map fun p => f p.1) us (f k) with
      | none => simp only [Bool.false_and]; exact .miss e1
      | some u => rw [e2] at q; exact q.elim
    | some y =>
      rw [e1] at q
      cases e2 : dctGet (ls.map fun p => f p.1) us (f k) with
      | none => rw [e2] at q; exact q.elim
      | some u =>
        rw [e2] at q
        have mem : ∀ {as bs : List D} {c x : D}, dctGet as bs c = some x → x ∈ bs := by
          intro as
          induction as with
          | nil => intro bs c x z; cases bs <;> simp [dctGet] at z
          | cons a as ih2 =>
            intro bs c x z
            cases bs with
            | nil => simp [dctGet] at z
            | cons b bs =>
              simp only [dctGet] at z
              split at z
              · cases z; exact List.mem_cons_self
              · exact List.mem_cons_of_mem _ (ih2 z)
        have inn : ∀ {bs : List D} {x : D}, noDs bs = true → x ∈ bs → noD x = true ∧ dep x ≤ deps bs := by
          intro bs
          induction bs with
          | nil => intro x _ z; simp at z
          | cons b bs ih2 =>
            intro x n z
            simp only [noDs, Bool.and_eq_true] at n
            simp only [deps]
            rcases List.mem_cons.mp z with rfl | z
            · exact ⟨n.1, by omega⟩
            · obtain ⟨a1, a2⟩ := ih2 n.2 z
              exact ⟨a1, by omega⟩
        obtain ⟨n2, n3⟩ := inn nu (mem e2)
        obtain ⟨d1, d2⟩ := Rp.dp (K := K) h.1 nv.1
        obtain ⟨d3, d4⟩ := Rp.dp (K := K) q n2
        have h0 := dep_py d nv.1
        have h1 := dep_py u n2
        simp only []
        rw [← eqv_py]
        exact .hit e1 d1 d3 d2 d4 (by omega) ih
theorem eqElse_ok {W : WX} {P : Addr → Prop} {σ : L2.St} {H0 H : Hp} {Q : VK} {v u : V} {x y : R} {n : Bool} (rx : RR C.K H0 H P v x) (ry : RR C.K H0 H P u y) (h : RW C W P σ H (eqElse n x.d y.d) Q) : rDct C.K n v u H Q := by
  unfold eqElse cpEqD at h
  split at h
  · next b e =>
    split at e
    · next tk ks vs tk' ls us e1 e2 =>
      split at e
      · next c =>
        cases e
        simp only [Bool.and_eq_true, Bool.or_eq_true, decide_eq_true_eq, beq_iff_eq] at c
        obtain ⟨rfl, n1, n2, hm⟩ := c
        have q1 := rx.lent (by rw [e1]; rfl)
        have q2 := ry.lent (by rw [e2]; rfl)
        rw [e1] at q1
        rw [e2] at q2
        cases tk with
        | false =>
          obtain ⟨a, kvs, rfl, a2, rfl, a4, a5⟩ := q1
          obtain ⟨b, lvs, rfl, b2, rfl, b4, b5⟩ := q2
          refine .inl ⟨a, b, kvs, lvs, _, rfl, rfl, a2, b2, vhit_of (f := kD) keq_kD b5 n2 a5 n1 hm, ?_⟩
          have l1 := a5.length
          have l2 := b5.length
          rw [List.length_map] at l1 l2
          rw [l1, l2]
          exact rw_bl h
        | true =>
          obtain ⟨a, kvs, rfl, a2, rfl, a4, a5⟩ := q1
          obtain ⟨b, lvs, rfl, b2, rfl, b4, b5⟩ := q2
          refine .inr ⟨a, b, kvs, lvs, _, rfl, rfl, a2, b2, vhit_of (f := ksD) keq_ksD b5 n2 a5 n1 hm, ?_⟩
          have l1 := a5.length
          have l2 := b5.length
          rw [List.length_map] at l1 l2
          rw [l1, l2]
          exact rw_bl h
      · cases e
    · cases e
  · exact h.elim
theorem gv_eq : CmpGives C .Eq (rEqX C.K) := by
  intro W P σ H0 H Q v u x y hP rx ry h
  simp only [opCmp, cpEq] at h
  split at h
  · next c =>
    obtain ⟨n1, n2, hm⟩ := eqOk_dep c
    obtain ⟨d1, d2⟩ := rx.dp n1
    obtain ⟨e1, e2⟩ := ry.dp n2
    exact .inl ⟨_, _, d1, e1, d2, e2, hm, by rw [eqv_py]; exact rw_bl h⟩
  · exact .inr (eqElse_ok rx ry h)
theorem gv_ne : CmpGives C .NotEq (rNeX C.K) := by
  intro W P σ H0 H Q v u x y hP rx ry h
  simp only [opCmp, cpNe] at h
  split at h
  · next c =>
    obtain ⟨n1, n2, hm⟩ := eqOk_dep c
    obtain ⟨d1, d2⟩ := rx.dp n1
    obtain ⟨e1, e2⟩ := ry.dp n2
    exact .inl ⟨_, _, d1, e1, d2, e2, hm, by rw [eqv_py]; exact rw_bl h⟩
  · exact .inr (eqElse_ok rx ry h)
def rLtX : R2 := fun x y H Q => (rI0 fun i j => .bl (decide (i < j))) x y H Q ∨ ∃ i j, x = .str i ∧ y = .str j ∧ Q (.bl (decide (i.cps.toList < j.cps.toList))) H
theorem gv_lt : CmpGives C .Lt rLtX := by
  intro W P σ H0 H Q v u x y hP rx ry h
  simp only [opCmp, cpLt] at h
  split at h
  · next i j e1 e2 => exact .inl ⟨i, j, rx.int e1, ry.int e2, rw_bl h⟩
  · next i j e1 e2 => exact .inr ⟨i, j, (rx.str e1).1, (ry.str e2).1, rw_bl h⟩
  · exact h.elim
theorem gv_le : CmpGives C .LtE (rI0 fun i j => .bl (decide (i ≤ j))) := by
  intro W P σ H0 H Q v u x y hP rx ry h
  simp only [opCmp, cpLe] at h
  split at h
  · next i j e1 e2 => exact ⟨i, j, rx.int e1, ry.int e2, rw_bl h⟩
  · exact h.elim
theorem gv_gt : CmpGives C .Gt (rI0 fun i j => .bl (decide (j < i))) := by
  intro W P σ H0 H Q v u x y hP rx ry h
  simp only [opCmp, cpGt] at h
  split at h
  · next i j e1 e2 => exact ⟨i, j, rx.int e1, ry.int e2, rw_bl h⟩
  · exact h.elim
theorem gv_ge : CmpGives C .GtE (rI0 fun i j => .bl (decide (j ≤ i))) := by
  intro W P σ H0 H Q v u x y hP rx ry h
  simp only [opCmp, cpGe] at h
  split at h
  · next i j e1 e2 => exact ⟨i, j, rx.int e1, ry.int e2, rw_bl h⟩
  · exact h.elim
theorem isNon_eq {d : D} (h : isNon d = true) : d = .non := by cases d <;> simp [isNon] at h <;> rfl
theorem RR.isN {K : PySem.W.Frag} {H0 H : Hp} {P : Addr → Prop} {v : V} {r : R} (h : RR K H0 H P v r) : decide (v = .non) = isNon r.d := by
  by_cases s : isSc r.d = true
  · have q := h.sc s
    cases e : r.d with
    | str x => rw [e] at q; simp only [Rp] at q; obtain ⟨rfl, _⟩ := q; simp [isNon]
    | non => rw [e] at q; simp only [Rp] at q; subst q; simp [isNon]
    | bl b => rw [e] at q; simp only [Rp] at q; subst q; simp [isNon]
    | int b => rw [e] at q; simp only [Rp] at q; subst q; simp [isNon]
    | exo k C ns ds => rw [e] at q; simp only [Rp] at q; obtain ⟨a, od, rfl, _⟩ := q; simp [isNon]
    | _ => rw [e] at s; simp [isSc] at s
  · have q := h.lent (by simpa using s)
    cases e : r.d with
    | lst ds => rw [e] at q; obtain ⟨a, vs, rfl, _⟩ := q; simp [isNon]
    | tup ds => rw [e] at q; obtain ⟨a, vs, rfl, _⟩ := q; simp [isNon]
    | dct tk ks ds => rw [e] at q; cases tk <;> (obtain ⟨a, vs, rfl, _⟩ := q; simp [isNon])
    | obj C ns ds => rw [e] at q; obtain ⟨a, vs, _, rfl, _⟩ := q; simp [isNon]
    | _ => rw [e] at s; simp [isSc] at s
theorem gv_is : CmpGives C .Is (fun x y H Q => y = .non ∧ Q (.bl (decide (x = .non))) H) := by
  intro W P σ H0 H Q v u x y hP rx ry h
  simp only [opCmp, cpIs] at h
  split at h
  · next c => exact ⟨ry.non (isNon_eq c), by rw [rx.isN]; exact rw_bl h⟩
  · exact h.elim
theorem gv_isnot : CmpGives C .IsNot (fun x y H Q => y = .non ∧ Q (.bl (!decide (x = .non))) H) := by
  intro W P σ H0 H Q v u x y hP rx ry h
  simp only [opCmp, cpIsNot] at h
  split at h
  · next c => exact ⟨ry.non (isNon_eq c), by rw [rx.isN]; exact rw_bl h⟩
  · exact h.elim
def rInA (K : PySem.W.Frag) : R2 := fun x y H Q => (∃ i j, x = .str i ∧ y = .str j ∧ Q (.bl (!(Builtin.Str.occurrences j i 0 j.length 1).isEmpty)) H) ∨ rInX K x y H Q
def rNinA (K : PySem.W.Frag) : R2 := fun x y H Q => (∃ i j, x = .str i ∧ y = .str j ∧ Q (.bl (!(!(Builtin.Str.occurrences j i 0 j.length 1).isEmpty))) H) ∨ rNinX K x y H Q
theorem in_gives {P : Addr → Prop} {H0 H : Hp} {v u : V} {x y : R} {b : Bool} (rx : RR C.K H0 H P v x) (ry : RR C.K H0 H P u y) (h : opIn x y = .ok b) :
    (∃ i j, v = .str i ∧ u = .str j ∧ b = !(Builtin.Str.occurrences j i 0 j.length 1).isEmpty) ∨ ∃ d ds, Dp C.K H v d ∧ (Dp C.K H u (.list ds) ∨ Dp C.K H u (.tuple ds)) ∧ d.canLay0 = true ∧ PyData.canLayAll0 ds = true ∧ min (PyData.depthAll ds) d.depth ≤ 150 ∧ b = ds.any fun z => PyData.eqv z d := by
  have mn : ∀ {d : D} {ds : List D}, min d.py.depth (PyData.depthAll (pys ds) + 1) ≤ 150 → min (PyData.depthAll (pys ds)) d.py.depth ≤ 150 := fun h => by omega
  unfold opIn at h
  split at h
  · next a b' e1 e2 =>
    cases h
    exact .inl ⟨a, b', (rx.str e1).1, (ry.str e2).1, rfl⟩
  · next ds e2 =>
    split at h
    · next c =>
      cases h
      obtain ⟨n1, n2, hm⟩ := eqOk_dep c
      obtain ⟨d1, d2⟩ := rx.dp n1
      obtain ⟨e1', e2'⟩ := ry.dp (by rw [e2]; exact n2)
      rw [e2] at e1' e2'
      simp only [D.py] at e1' e2'
      simp only [D.py, PyData.depth] at hm
      simp only [PyData.canLay0] at e2'
      exact .inr ⟨_, _, d1, .inl e1', d2, e2', mn hm, (any_py _ _).symm⟩
    · cases h
  · next ds e2 =>
    split at h
    · next c =>
      cases h
      obtain ⟨n1, n2, hm⟩ := eqOk_dep c
      obtain ⟨d1, d2⟩ := rx.dp n1
      obtain ⟨e1', e2'⟩ := ry.dp (by rw [e2]; exact n2)
      rw [e2] at e1' e2'
      simp only [D.py] at e1' e2'
      simp only [D.py, PyData.depth] at hm
      simp only [PyData.canLay0] at e2'
      exact .inr ⟨_, _, d1, .inr e1', d2, e2', mn hm, (any_py _ _).symm⟩
    · cases h
  · cases h
theorem gv_in : CmpGives C .In (rInA C.K) := by
  intro W P σ H0 H Q v u x y hP rx ry h
  simp only [opCmp, cpIn] at h
  split at h
  · next b e =>
    have q := rw_bl h
    rcases in_gives rx ry e with ⟨i, j, h1, h2, rfl⟩ | ⟨d, ds, h1, h2, h3, h4, h5, rfl⟩
    · exact .inl ⟨i, j, h1, h2, q⟩
    · exact .inr ⟨d, ds, h1, h2, h3, h4, h5, q⟩
  · exact h.elim
theorem gv_nin : CmpGives C .NotIn (rNinA C.K) := by
  intro W P σ H0 H Q v u x y hP rx ry h
  simp only [opCmp, cpNin] at h
  split at h
  · next b e =>
    have q := rw_bl h
    rcases in_gives rx ry e with ⟨i, j, h1, h2, rfl⟩ | ⟨d, ds, h1, h2, h3, h4, h5, rfl⟩
    · exact .inl ⟨i, j, h1, h2, q⟩
    · exact .inr ⟨d, ds, h1, h2, h3, h4, h5, q⟩
  · exact h.elim
def rCmp (K : PySem.W.Frag) : CmpOp → R2
  | .Eq => rEqX K | .NotEq => rNeX K | .Lt => rLtX | .LtE => rI0 fun i j => .bl (decide (i ≤ j)) | .Gt => rI0 fun i j => .bl (decide (j < i)) | .GtE => rI0 fun i j => .bl (decide (j ≤ i))
  | .Is => fun x y H Q => y = .non ∧ Q (.bl (decide (x = .non))) H | .IsNot => fun x y H Q => y = .non ∧ Q (.bl (!decide (x = .non))) H | .In => rInA K | .NotIn => rNinA K
theorem gv_cmp : ∀ op, CmpGives C op (rCmp C.K op)
  | .Eq => gv_eq | .NotEq => gv_ne | .Lt => gv_lt | .LtE => gv_le | .Gt => gv_gt | .GtE => gv_ge | .Is => gv_is | .IsNot => gv_isnot | .In => gv_in | .NotIn => gv_nin
theorem opR_cmp (hu : X.A.units + 200 < cLine) : ∀ op, OpR X (compareOp op) (rCmp X.K op)
  | .Eq => op_eqX hu | .NotEq => op_neX hu | .Lt => op_lt.or op_lt_str | .LtE => op_le | .Gt => op_gt | .GtE => op_ge | .Is => op_isN | .IsNot => op_notN | .In => op_in_str.or (op_inX hu) | .NotIn => op_notIn_str.or (op_ninX hu)
theorem pe_compare {op : CmpOp} (hK : X.K = C.K) (hu : X.A.units + 200 < cLine) (ha : PE X a (tM C W ma)) (hb : PE X b (tM C W mb)) (hm : behindInMarks op b = false) :
    PE X (.Compare a [op] [b] pos) (tM C W fun ρ => (ma ρ).bind fun x => (mb ρ).bind fun y => opCmp op x y) :=
  pe_cmpB (opR_cmp hu op) (fun P σ H0 H Q v u x y hP rx ry h => by rw [hK]; exact gv_cmp op W P σ H0 H Q v u x y hP rx ry h) ha hb hm

def rAddX (K : PySem.W.Frag) : R2 := fun x y H Q => (rI0 fun i j => .int (i + j)) x y H Q ∨ (∃ i j, x = .str i ∧ y = .str j ∧ i.length + j.length ≤ sizeLine ∧ Q (.str (i ++ j)) H) ∨ rCat x y H Q ∨ rCatT K x y H Q
def rMulX : R2 := fun x y H Q => (rI CMul fun i j => .int (i * j)) x y H Q ∨ (rI CMulW fun i j => .int (i * j)) x y H Q ∨ rMulS x y H Q ∨ rRep x y H Q
def rBin (K : PySem.W.Frag) : Operator → R2
  | .Add => rAddX K | .Sub => rI0 fun i j => .int (i - j) | .Mult => rMulX | .FloorDiv => rI CDivW fun i j => .int (i / j) | .Mod => rI (fun _ j => 0 < j) fun i j => .int (i % j) | .Pow => rI CPow fun i j => .int (i ^ j.toNat)
  | _ => fun _ _ _ _ => False
theorem opR_bin : ∀ op, OpR X (binaryOp op) (rBin X.K op)
  | .Add => op_add.or (op_add_str.or (op_cat.or op_catT)) | .Sub => op_sub | .Mult => op_mul.or (op_mulW.or (op_mulS.or op_rep)) | .FloorDiv => op_fdivW | .Mod => op_mod | .Pow => op_pow
  | .Div | .MatMult | .LShift | .RShift | .BitOr | .BitXor | .BitAnd => fun _ _ _ _ _ _ _ _ _ _ _ _ h => h.elim
theorem mulOk_of {i j : Int} (h : mulOk i j = true) : CMul i j ∨ CMulW i j := by
  unfold mulOk at h
  rw [Bool.or_eq_true, Bool.or_eq_true] at h
  rcases h with (h | h) | h
  · have := of_decide_eq_true h
    exact .inl (.inl (by omega))
  · have := of_decide_eq_true h
    exact .inl (.inr (by omega))
  · exact .inr (show i.natAbs.log2 + j.natAbs.log2 < 1000000 from of_decide_eq_true h)
theorem len_app (a b : Str) : (a ++ b).length = a.length + b.length := by
  show (a.cps ++ b.cps).size = _
  simp [Str.length]
theorem Rps.rep {H : Hp} {P : Addr → Prop} {vs : List V} {ds : List D} (h : Rps H P vs ds) : ∀ n : Nat, Rps H P (List.replicate n vs).flatten (List.replicate n ds).flatten
  | 0 => by simp [Rps]
  | n + 1 => by
    rw [List.replicate_succ, List.replicate_succ, List.flatten_cons, List.flatten_cons]
    exact h.append (Rps.rep h n)
theorem gv_bin (op : Operator) (P : Addr → Prop) (σ : L2.St) (H0 H : Hp) (Q : VK) (v u : V) (x y : R) (hP : ∀ a, P a → ∃ o, H a = some o) (rx : RR C.K H0 H P v x) (ry : RR C.K H0 H P u y) (h : RW C W P σ H (opBin op x y) Q) : rBin C.K op v u H Q := by
  cases op with
  | Add =>
    simp only [opBin, opAdd] at h
    split at h
    · next i j e1 e2 => exact .inl ⟨i, j, rx.int e1, ry.int e2, rw_val h (by simp [Rp])⟩
    · next i j e1 e2 =>
      split at h
      · next c =>
        obtain ⟨r1, s1⟩ := rx.str e1
        obtain ⟨r2, s2⟩ := ry.str e2
        exact .inr (.inl ⟨i, j, r1, r2, lim_ok c, rw_val h (rp_str (strOk_append s1 s2))⟩)
      · exact h.elim
    · next as bs e1 e2 =>
      split at h
      · next c =>
        rw [Bool.and_eq_true, Bool.and_eq_true] at c
        obtain ⟨a, vs, r1, t1, q1⟩ := rx.lstX e1 c.1.1
        obtain ⟨b, ws, r2, t2, q2⟩ := ry.lstX e2 c.1.2
        exact .inr (.inr (.inl ⟨a, b, vs, ws, r1, r2, t1, t2, by rw [q1.length, q2.length]; exact lim_ok (of_decide_eq_true c.2), rw_new h (q1.append q2) hP⟩))
      · exact h.elim
    · next as bs e1 e2 =>
      split at h
      · next c =>
        rw [Bool.and_eq_true, Bool.and_eq_true] at c
        obtain ⟨a, vs, r1, t1, q1⟩ := rx.tup e1
        obtain ⟨b, ws, r2, t2, q2⟩ := ry.tup e2
        refine .inr (.inr (.inr ⟨a, b, vs, ws, r1, r2, t1, t2, ?_, by rw [q1.length, q2.length]; exact lim_ok (of_decide_eq_true c.2), fun e => ?_, fun _ p hp => ?_⟩))
        · intro e
          subst e
          have := q1.length
          have c2 := c.1.2
          cases as with
          | nil => simp at c2
          | cons d l => simp at this
        · have eb : bs = [] := by
            subst e
            have := q2.length
            cases bs with
            | nil => rfl
            | cons d l => simp at this
          subst eb
          rw [List.append_nil] at h
          have rx' := rx
          cases x with
          | val d =>
            cases e1
            subst r1
            exact h (.ref a) H (Ex.refl _) rx'
          | own d =>
            cases e1
            obtain ⟨_, _, _, _, z⟩ := rx'
            exact z.elim
          | bor d => simp [R.exact] at c
        · refine h (.ref p) (upd H p (.tup (vs ++ ws))) (Ex.new hp) ?_
          have r : Rps H P (vs ++ ws) (as ++ bs) := q1.append q2
          have hnp : ¬ P p := fun z => by obtain ⟨o, ho⟩ := hP p z; rw [hp] at ho; cases ho
          show Rp _ _ _ _
          simp only [Rp]
          exact ⟨p, vs ++ ws, rfl, hnp, upd_same, r.ex (Ex.new hp)⟩
      · exact h.elim
    · exact h.elim
  | Sub =>
    simp only [opBin, opSub] at h
    split at h
    · next i j e1 e2 => exact ⟨i, j, rx.int e1, ry.int e2, rw_val h (by simp [Rp])⟩
    · exact h.elim
  | Mult =>
    simp only [opBin, opMul] at h
    split at h
    · next i j e1 e2 =>
      split at h
      · next c =>
        rcases mulOk_of c with c | c
        · exact .inl ⟨i, j, rx.int e1, ry.int e2, c, rw_val h (by simp [Rp])⟩
        · exact .inr (.inl ⟨i, j, rx.int e1, ry.int e2, c, rw_val h (by simp [Rp])⟩)
      · exact h.elim
    · next z k e1 e2 =>
      split at h
      · next c =>
        rw [Bool.and_eq_true, Bool.and_eq_true] at c
        obtain ⟨r1, s1⟩ := rx.str e1
        exact .inr (.inr (.inl ⟨z, k, r1, ry.int e2, of_decide_eq_true c.1.1, of_decide_eq_true c.1.2, of_decide_eq_true c.2, rw_val h (rp_str (strOk_rep s1 k))⟩))
      · exact h.elim
    · next as k e1 e2 =>
      split at h
      · next c =>
        rw [Bool.and_eq_true, Bool.and_eq_true, Bool.and_eq_true] at c
        obtain ⟨a, vs, r1, t1, q1⟩ := rx.lstX e1 c.1.1.1
        have c1 := of_decide_eq_true c.1.1.2
        have c2 := of_decide_eq_true c.1.2
        have c3 := of_decide_eq_true c.2
        have hk : k.toNat ≤ 1000 := by omega
        refine .inr (.inr (.inr ⟨a, k, vs, r1, ry.int e2, t1, by omega, by omega, ?_, rw_new h (q1.rep _) hP⟩))
        rw [q1.length]
        exact lim_ok (Nat.le_trans (Nat.mul_le_mul c3 hk) (by decide))
      · exact h.elim
    · exact h.elim
  | FloorDiv =>
    simp only [opBin, opDiv] at h
    split at h
    · next i j e1 e2 =>
      split at h
      · next c =>
        rw [Bool.and_eq_true] at c
        exact ⟨i, j, rx.int e1, ry.int e2, ⟨of_decide_eq_true c.1, of_decide_eq_true c.2⟩, rw_val h (by simp [Rp])⟩
      · exact h.elim
    · exact h.elim
  | Mod =>
    simp only [opBin, opMod] at h
    split at h
    · next i j e1 e2 =>
      split at h
      · next c => exact ⟨i, j, rx.int e1, ry.int e2, of_decide_eq_true c, rw_val h (by simp [Rp])⟩
      · exact h.elim
    · exact h.elim
  | Pow =>
    simp only [opBin, opPow] at h
    split at h
    · next i j e1 e2 =>
      split at h
      · next c =>
        rw [Bool.and_eq_true, Bool.and_eq_true] at c
        exact ⟨i, j, rx.int e1, ry.int e2, ⟨of_decide_eq_true c.1.1, of_decide_eq_true c.1.2, of_decide_eq_true c.2⟩, rw_val h (by simp [Rp])⟩
      · exact h.elim
    · exact h.elim
  | _ => exact h.elim
theorem pe_binop {op : Operator} (hK : X.K = C.K) (ha : PE X a (tM C W ma)) (hb : PE X b (tM C W mb)) : PE X (.BinOp a op b pos) (tM C W fun ρ => (ma ρ).bind fun x => (mb ρ).bind fun y => opBin op x y) :=
  pe_bin (opR_bin op) (fun P σ H0 H Q v u x y hP rx ry h => by rw [hK]; exact gv_bin op P σ H0 H Q v u x y hP rx ry h) ha hb
end
end Mp

namespace Mp
open PySem L2

def ofD (d : D) : Res R := .ok (.val d)
def eVar (i : Nat) (ρ : Env) : Res R := match ρ[i]? with
  | some (some (.val d)) => .ok (.val d)
  | some (some (.own d)) => .ok (.bor d)
  | some (some (.bor d)) => .ok (.bor d)
  | _ => .stuck
def eArgs : List (Env → Res R) → Env → Res (List R)
  | [], _ => .ok []
  | m :: ms, ρ => match m ρ with
    | .ok r => (match eArgs ms ρ with
      | .ok rs => .ok (r :: rs)
      | .exc c pl => .exc c pl
      | .stuck => .stuck)
    | .exc c pl => .exc c pl
    | .stuck => .stuck
def frozs : List R → Option (List D)
  | [] => some []
  | r :: rs => match r.froz, frozs rs with
    | some d, some ds => some (d :: ds)
    | _, _ => none
def mkTup (rs : List R) : Res R := match frozs rs with
  | some ds => if ds.length ≤ LIM then .ok (.val (.tup ds)) else .stuck
  | none => .stuck
def mkLst (rs : List R) : Res R := match frozs rs with
  | some ds => if ds.length ≤ LIM then .ok (.own (.lst ds)) else .stuck
  | none => .stuck
def asBl : R → Option Bool
  | .val (.bl b) => some b
  | _ => none
theorem asBl_some {r : R} {b : Bool} (h : asBl r = some b) : r = .val (.bl b) := by
  unfold asBl at h
  split at h
  · cases h; rfl
  · cases h
def eAnd (a b : Env → Res R) (ρ : Env) : Res R := (a ρ).bind fun x => match asBl x with
  | some true => b ρ
  | some false => .ok (.val (.bl false))
  | none => .stuck
def eOr (a b : Env → Res R) (ρ : Env) : Res R := (a ρ).bind fun x => match asBl x with
  | some true => .ok (.val (.bl true))
  | some false => b ρ
  | none => .stuck
def eNot (a : Env → Res R) (ρ : Env) : Res R := (a ρ).bind fun x => match asBl x with
  | some b => .ok (.val (.bl !b))
  | none => .stuck
def eIte (c a b : Env → Res R) (ρ : Env) : Res R := (c ρ).bind fun x => match asBl x with
  | some true => a ρ
  | some false => b ρ
  | none => .stuck
def eBin (op : Operator) (a b : Env → Res R) (ρ : Env) : Res R := (a ρ).bind fun x => (b ρ).bind fun y => opBin op x y
def eCmp (op : CmpOp) (a b : Env → Res R) (ρ : Env) : Res R := (a ρ).bind fun x => (b ρ).bind fun y => opCmp op x y
def eChain (op op' : CmpOp) (a b c : Env → Res R) (ρ : Env) : Res R := (a ρ).bind fun x => (b ρ).bind fun y => (opCmp op x y).bind fun z => match asBl z with
  | some true => (c ρ).bind fun w => opCmp op' y w
  | some false => .ok (.val (.bl false))
  | none => .stuck
def eTup (ms : List (Env → Res R)) (ρ : Env) : Res R := (eArgs ms ρ).bind mkTup
def eLst (ms : List (Env → Res R)) (ρ : Env) : Res R := (eArgs ms ρ).bind mkLst
def opNeg (x : R) : Res R := match x.d with
  | .int i => .ok (.val (.int (-i)))
  | _ => .stuck
def eNeg (a : Env → Res R) (ρ : Env) : Res R := (a ρ).bind opNeg

section
variable {X : Cx} {C : Cn} {W : WX} {e a b c : Expr} {m ma mb mc : Env → Res R} {pos : Pos}
theorem asBl_rr {K : PySem.W.Frag} {H0 H : Hp} {P : Addr → Prop} {v : V} {r : R} {k : Bool} (h : RR K H0 H P v r) (q : asBl r = some k) : v = .bl k := by
  rw [asBl_some q] at h
  exact h.bl rfl
theorem rr_bl {K : PySem.W.Frag} {H0 H : Hp} {P : Addr → Prop} {b : Bool} : RR K H0 H P (.bl b) (.val (.bl b)) := by simp [RR, Rp]
theorem pe_stuck : PE X e (tM C W fun _ => .stuck) := ⟨fun _ _ _ _ _ _ ⟨_, _, _, _, h⟩ => h.elim⟩
theorem pe_sc {d : D} {v : V} (h : PE X e (tC v)) (r : ∀ H P, Rp H P v d) : PE X e (tM C W fun _ => ofD d) := PE.weak h fun σ H Q ⟨ρ, c, S, sr, q⟩ => rw_val q (r _ _)
theorem pe_name {i : Nat} {x : Str} (hK : X.K = C.K) (hN : X.N[i]? = some x) (hv : Vis X.env.scope x) (hd : (x == ("__debug__" : Str)) = false) (hcd : (x == ("__classdict__" : Str)) = false) : PE X (.Name x pos) (tM C W (eVar i)) :=
  PE.weak (pe_var hN hv hd hcd) fun σ H Q ⟨ρ, c, S, sr, q⟩ => by
    unfold eVar at q
    split at q
    · next d e =>
      obtain ⟨v, h1, h2⟩ := sr.rep i _ e
      exact ⟨v, h1, q v H (Ex.refl _) h2.2⟩
    · next d e =>
      obtain ⟨v, h1, a, rfl, h2, h3⟩ := sr.rep i _ e
      exact ⟨_, h1, q _ H (Ex.refl _) h3.lent⟩
    · next d e =>
      obtain ⟨v, h1, h2⟩ := sr.rep i _ e
      exact ⟨v, h1, q v H (Ex.refl _) h2.2.lent⟩
    · exact q.elim
theorem RWs.nil {P : Addr → Prop} {σ : L2.St} {H : Hp} {Q : List V → Hp → Prop} (h : RWs C W P σ H (.ok []) Q) : Q [] H := h [] H (Ex.refl _) .nil
theorem pa_nilM : PA X [] (tMs C W (eArgs [])) := PA.weak pa_nil fun σ H Q ⟨ρ, c, S, sr, q⟩ => RWs.nil q
theorem pa_consM {es : List Expr} {ms : List (Env → Res R)} (ha : PE X e (tM C W m)) (hr : PA X es (tMs C W (eArgs ms))) (hs : starEach (e :: es) X.env = (false, eval e X.env) :: starEach es X.env) : PA X (e :: es) (tMs C W (eArgs (m :: ms))) :=
  PA.weak (pa_cons ha hr hs) fun σ H Q ⟨ρ, c, S, sr, q⟩ => by
    simp only [eArgs] at q
    refine ⟨ρ, c, S, sr, ?_⟩
    cases e1 : m ρ with
    | stuck => rw [e1] at q; exact q.elim
    | exc k pl => rw [e1] at q; exact q
    | ok r =>
      rw [e1] at q
      simp only at q
      intro v H1 x1 r1
      refine ⟨ρ, c, S, sr.ex x1, ?_⟩
      cases e2 : eArgs ms ρ with
      | stuck => rw [e2] at q; exact q.elim
      | exc k pl => rw [e2] at q; exact fun H' d x2 p => q H' d (x1.trans x2) p
      | ok rs =>
        rw [e2] at q
        intro vs H2 x2 r2
        exact q (v :: vs) H2 (x1.trans x2) (.cons (r1.mono (Ex.refl _) x2) (Pd.mono x1 (Ex.refl _) r2))
theorem Pd.froz {K : PySem.W.Frag} {H0 H : Hp} {P : Addr → Prop} {vs : List V} {rs : List R} (h : Paired (RR K H0 H P) vs rs) : ∀ {ds : List D}, frozs rs = some ds → Rps H P vs ds := by
  induction h with
  | nil => intro ds e; cases e; simp [Rps]
  | @cons v r vs rs h1 h2 ih =>
    intro ds e
    unfold frozs at e
    split at e
    · next d ds' e1 e2 => cases e; exact ⟨h1.froz e1, ih e2⟩
    · cases e
theorem rw_newT {P : Addr → Prop} {σ : L2.St} {H : Hp} {Q : VK} {ds : List D} {vs : List V} (h : RW C W P σ H (.ok (.val (.tup ds))) Q) (r : Rps H P vs ds) (hP : ∀ a, P a → ∃ o, H a = some o) : ∀ p, H p = none → Q (.ref p) (upd H p (.tup vs)) := by
  intro p hp
  refine h (.ref p) (upd H p (.tup vs)) (Ex.new hp) ?_
  show Rp _ _ _ _
  simp only [Rp]
  refine ⟨p, vs, rfl, fun z => ?_, upd_same, r.ex (Ex.new hp)⟩
  obtain ⟨o, q⟩ := hP p z
  rw [hp] at q
  cases q
theorem pe_tupM {es : List Expr} {ms : List (Env → Res R)} {x1} (h : PA X es (tMs C W (eArgs ms))) : PE X (.Tuple es x1 pos) (tM C W (eTup ms)) :=
  PE.weak (pe_tup h) fun σ H Q ⟨ρ, c, S, sr, q⟩ => ⟨ρ, c, S, sr, (RWs.bind q).imp fun vs H1 ⟨rs, x1, r1, q1⟩ => by
    unfold mkTup at q1
    split at q1
    · next ds e =>
      split at q1
      · next l =>
        have r := Pd.froz r1 e
        exact ⟨by rw [r.length]; exact lim_ok l, rw_newT q1 r (sr.ex x1).trk⟩
      · exact q1.elim
    · exact q1.elim⟩
theorem pe_lstM {es : List Expr} {ms : List (Env → Res R)} (h : PA X es (tMs C W (eArgs ms))) : PE X (.List es pos) (tM C W (eLst ms)) :=
  PE.weak (pe_lst h) fun σ H Q ⟨ρ, c, S, sr, q⟩ => ⟨ρ, c, S, sr, (RWs.bind q).imp fun vs H1 ⟨rs, x1, r1, q1⟩ => by
    unfold mkLst at q1
    split at q1
    · next ds e =>
      split at q1
      · next l =>
        have r := Pd.froz r1 e
        exact ⟨by rw [r.length]; exact lim_ok l, rw_new q1 r (sr.ex x1).trk⟩
      · exact q1.elim
    · exact q1.elim⟩
theorem pe_binM {op : Operator} (hK : X.K = C.K) (ha : PE X a (tM C W ma)) (hb : PE X b (tM C W mb)) : PE X (.BinOp a op b pos) (tM C W (eBin op ma mb)) := pe_binop hK ha hb
theorem pe_cmpM {op : CmpOp} (hK : X.K = C.K) (hu : X.A.units + 200 < cLine) (ha : PE X a (tM C W ma)) (hb : PE X b (tM C W mb)) (hm : behindInMarks op b = false) : PE X (.Compare a [op] [b] pos) (tM C W (eCmp op ma mb)) := pe_compare hK hu ha hb hm
theorem pe_negM (ha : PE X a (tM C W ma)) : PE X (.UnaryOp .USub a pos) (tM C W (eNeg ma)) :=
  PE.weak (pe_un un_neg ha) fun σ H Q ⟨ρ, c, S, sr, q⟩ => ⟨ρ, c, S, sr, (RW.bind q).imp fun v H1 ⟨r, x1, r1, q1⟩ => by
    unfold opNeg at q1
    split at q1
    · next i e => exact ⟨i, r1.int e, rw_val q1 (by simp [Rp])⟩
    · exact q1.elim⟩
theorem pe_notM (ha : PE X a (tM C W ma)) : PE X (.UnaryOp .Not a pos) (tM C W (eNot ma)) :=
  PE.weak (pe_not ha) fun σ H Q ⟨ρ, c, S, sr, q⟩ => ⟨ρ, c, S, sr, (RW.bind q).imp fun v H1 ⟨r, x1, r1, q1⟩ => by
    split at q1
    · next k e => exact ⟨k, asBl_rr r1 e, rw_bl q1⟩
    · exact q1.elim⟩
theorem pe_andM {rest : List Expr} (ha : PE X a (tM C W ma)) (hb : PE X (.BoolOp .And (b :: rest) pos) (tM C W mb)) : PE X (.BoolOp .And (a :: b :: rest) pos) (tM C W (eAnd ma mb)) :=
  PE.weak (pe_and ha hb) fun σ H Q ⟨ρ, c, S, sr, q⟩ => ⟨ρ, c, S, sr, (RW.bind q).imp fun v H1 ⟨r, x1, r1, q1⟩ => by
    split at q1
    · next e => exact ⟨true, asBl_rr r1 e, iteT ⟨ρ, c, S, sr.ex x1, q1⟩⟩
    · next e => exact ⟨false, asBl_rr r1 e, iteF (rw_val q1 (by simp [Rp]))⟩
    · exact q1.elim⟩
theorem pe_orM {rest : List Expr} (ha : PE X a (tM C W ma)) (hb : PE X (.BoolOp .Or (b :: rest) pos) (tM C W mb)) : PE X (.BoolOp .Or (a :: b :: rest) pos) (tM C W (eOr ma mb)) :=
  PE.weak (pe_or ha hb) fun σ H Q ⟨ρ, c, S, sr, q⟩ => ⟨ρ, c, S, sr, (RW.bind q).imp fun v H1 ⟨r, x1, r1, q1⟩ => by
    split at q1
    · next e => exact ⟨true, asBl_rr r1 e, iteT (rw_val q1 (by simp [Rp]))⟩
    · next e => exact ⟨false, asBl_rr r1 e, iteF ⟨ρ, c, S, sr.ex x1, q1⟩⟩
    · exact q1.elim⟩
theorem pt_of (h : PE X e (tM C W m)) (he : ∀ whole, isTrue e X.env whole = (do let v ← whole; standAt e.pos; holding [v] (truthy v))) : PT X e (tMt C W m) := pt_val h he
theorem pt_cmpM {op : CmpOp} (hK : X.K = C.K) (hu : X.A.units + 200 < cLine) (ha : PE X a (tM C W ma)) (hb : PE X b (tM C W mb)) (hm : behindInMarks op b = false) : PT X (.Compare a [op] [b] pos) (tMt C W (eCmp op ma mb)) :=
  PT.weak (pt_cmpR (opR_cmp hu op) ha hb hm) fun σ H Q ⟨ρ, c, S, sr, h⟩ => ⟨ρ, c, S, sr, (RW.bind h).imp fun v H1 ⟨x, e1, rx, h1⟩ => ⟨ρ, c, S, sr.ex e1, (RW.bind h1).imp fun u H2 ⟨y, e2, ry, h2⟩ => by
    rw [hK]
    exact gv_cmp op W _ σ H H2 _ v u x y ((sr.ex e1).ex e2).trk (rx.mono (Ex.refl _) e2) (ry.mono e1 (Ex.refl _)) h2⟩⟩
theorem pt_notM (ha : PT X a (tMt C W ma)) : PT X (.UnaryOp .Not a pos) (tMt C W (eNot ma)) :=
  PT.weak (pt_not ha) fun σ H Q ⟨ρ, c, S, sr, q⟩ => ⟨ρ, c, S, sr, (RW.bind q).imp fun v H1 ⟨r, x1, r1, q1⟩ => by
    split at q1
    · next k e =>
      obtain ⟨b, e2, q2⟩ := rw_bl q1
      cases e2
      exact ⟨k, asBl_rr r1 e, q2⟩
    · exact q1.elim⟩
theorem pw_andM {rest : List Expr} (ha : PT X a (tMt C W ma)) (hb : PW X (.BoolOp .And (b :: rest) pos) (tMt C W mb)) : PW X (.BoolOp .And (a :: b :: rest) pos) (tMt C W (eAnd ma mb)) :=
  PW.weak (pw_and ha hb) fun σ H Q ⟨ρ, c, S, sr, q⟩ => ⟨ρ, c, S, sr, (RW.bind q).imp fun v H1 ⟨r, x1, r1, q1⟩ => by
    split at q1
    · next e => exact ⟨true, asBl_rr r1 e, iteT ⟨ρ, c, S, sr.ex x1, q1⟩⟩
    · next e =>
      obtain ⟨b, e2, q2⟩ := rw_val q1 (show Rp _ _ (.bl false) (.bl false) by simp [Rp])
      cases e2
      exact ⟨false, asBl_rr r1 e, iteF q2⟩
    · exact q1.elim⟩
theorem pw_orM {rest : List Expr} (ha : PT X a (tMt C W ma)) (hb : PW X (.BoolOp .Or (b :: rest) pos) (tMt C W mb)) : PW X (.BoolOp .Or (a :: b :: rest) pos) (tMt C W (eOr ma mb)) :=
  PW.weak (pw_or ha hb) fun σ H Q ⟨ρ, c, S, sr, q⟩ => ⟨ρ, c, S, sr, (RW.bind q).imp fun v H1 ⟨r, x1, r1, q1⟩ => by
    split at q1
    · next e =>
      obtain ⟨b, e2, q2⟩ := rw_val q1 (show Rp _ _ (.bl true) (.bl true) by simp [Rp])
      cases e2
      exact ⟨true, asBl_rr r1 e, iteT q2⟩
    · next e => exact ⟨false, asBl_rr r1 e, iteF ⟨ρ, c, S, sr.ex x1, q1⟩⟩
    · exact q1.elim⟩
theorem pe_iteM (hc : PT X c (tMt C W mc)) (ha : PE X a (tM C W ma)) (hb : PE X b (tM C W mb)) : PE X (.IfExp c a b pos) (tM C W (eIte mc ma mb)) :=
  PE.weak (pe_ifExp hc ha hb) fun σ H Q ⟨ρ, c, S, sr, q⟩ => ⟨ρ, c, S, sr, (RW.bind q).imp fun v H1 ⟨r, x1, r1, q1⟩ => by
    split at q1
    · next e => exact ⟨true, asBl_rr r1 e, iteT ⟨ρ, c, S, sr.ex x1, q1⟩⟩
    · next e => exact ⟨false, asBl_rr r1 e, iteF ⟨ρ, c, S, sr.ex x1, q1⟩⟩
    · exact q1.elim⟩
theorem chain_read {op op' : CmpOp} {σ : L2.St} {H : Hp} {Q : VK} (hK : X.K = C.K) (h : tM C W (eChain op op' ma mb mc) σ H Q) : tChain (rCmp X.K op) (rCmp X.K op') (tM C W ma) (tM C W mb) (tM C W mc) σ H Q := by
  obtain ⟨ρ, c, S, sr, h⟩ := h
  refine ⟨ρ, c, S, sr, (RW.bind h).imp fun v H1 ⟨x, e1, rx, h1⟩ => ⟨ρ, c, S, sr.ex e1, (RW.bind h1).imp fun u H2 ⟨y, e2, ry, h2⟩ => ?_⟩⟩
  rw [hK]
  refine gv_cmp op W _ σ H H2 _ v u x y ((sr.ex e1).ex e2).trk (rx.mono (Ex.refl _) e2) (ry.mono e1 (Ex.refl _)) ((RW.bind h2).imp fun z H3 ⟨r, e3, rz, h3⟩ => ?_)
  split at h3
  · next e =>
    refine ⟨true, asBl_rr rz e, iteT ⟨ρ, c, S, ((sr.ex e1).ex e2).ex e3, (RW.bind h3).imp fun w H4 ⟨r4, e4, rw4, h4⟩ => ?_⟩⟩
    exact gv_cmp op' W _ σ H H4 Q u w y r4 ((((sr.ex e1).ex e2).ex e3).ex e4).trk (ry.mono e1 (e3.trans e4)) (rw4.mono ((e1.trans e2).trans e3) (Ex.refl _)) h4
  · next e => exact ⟨false, asBl_rr rz e, iteF (rw_val h3 (by simp [Rp]))⟩
  · exact h3.elim
theorem pe_chainM {op op' : CmpOp} (hK : X.K = C.K) (k : PE X (.Compare a [op, op'] [b, c] pos) (tChain (rCmp X.K op) (rCmp X.K op') (tM C W ma) (tM C W mb) (tM C W mc))) : PE X (.Compare a [op, op'] [b, c] pos) (tM C W (eChain op op' ma mb mc)) :=
  PE.weak k fun σ H Q h => chain_read hK h
theorem pt_chainM {op op' : CmpOp} (hK : X.K = C.K) (k : PT X (.Compare a [op, op'] [b, c] pos) (tTest (tChain (rCmp X.K op) (rCmp X.K op') (tM C W ma) (tM C W mb) (tM C W mc)))) : PT X (.Compare a [op, op'] [b, c] pos) (tMt C W (eChain op op' ma mb mc)) :=
  PT.weak k fun σ H Q h => chain_read hK h
end
end Mp

namespace Mp
open PySem L2

def dKey (tk : Bool) (r : R) : Option D := match tk with
  | false => if (keyD r.d).isSome then some r.d else none
  | true => match r with
    | .val (.tup ds) => if (keysD ds).isSome then some (.tup ds) else none
    | _ => none
theorem look_ok {K : PySem.W.Frag} {H0 H : Hp} {P : Addr → Prop} {v u : V} {r k : R} {tk : Bool} {ks ds : List D} {kk : D} (hv : RR K H0 H P v r) (e : r.d = .dct tk ks ds) (hu : RR K H0 H P u k) (ek : dKey tk k = some kk) :
    ∃ a o, v = .ref a ∧ DGet H a u o ∧ RelD H P o (dctGet ks ds kk) := by
  have q := hv.lent (by rw [e]; rfl)
  rw [e] at q
  cases tk with
  | false =>
    obtain ⟨a, kvs, rfl, h2, rfl, h4, h5⟩ := q
    unfold dKey at ek
    simp only at ek
    split at ek
    · next hs =>
      cases ek
      obtain ⟨key, hk⟩ := Option.isSome_iff_exists.mp hs
      have ekk := keyD_some hk
      have hu' := hu.sc (by rw [ekk]; cases key <;> rfl)
      have eu : u = kV key := by
        rw [ekk] at hu'
        cases key with
        | inl i => simp only [kD, Rp] at hu'; exact hu'
        | inr x => simp only [kD, Rp] at hu'; exact hu'.1
      subst eu
      refine ⟨a, valV kvs key, rfl, .inl ⟨kvs, key, h2, rfl, rfl⟩, ?_⟩
      rw [ekk]
      exact val_rel keq_kD key h5
    · cases ek
  | true =>
    obtain ⟨a, kvs, rfl, h2, rfl, h4, h5⟩ := q
    unfold dKey at ek
    simp only at ek
    split at ek
    · next es =>
      split at ek
      · next hs =>
        cases ek
        obtain ⟨key, hk⟩ := Option.isSome_iff_exists.mp hs
        have ekk := keysD_some hk
        have hu' : Rp H P u (.tup es) := hu
        simp only [Rp] at hu'
        obtain ⟨b, vs, rfl, _, hb, hr⟩ := hu'
        have ev : vs = key.map kV := by
          rw [ekk] at hr
          clear ekk hk hs hb hu
          induction key generalizing vs with
          | nil => cases vs with
            | nil => rfl
            | cons _ _ => simp [Rps] at hr
          | cons k r ih => cases vs with
            | nil => simp [Rps] at hr
            | cons v vs =>
              simp only [List.map_cons, Rps] at hr
              rw [List.map_cons, ← ih vs hr.2]
              congr 1
              cases k with
              | inl i => have := hr.1; simp only [kD, Rp] at this; exact this
              | inr x => have := hr.1; simp only [kD, Rp] at this; exact this.1
        subst ev
        refine ⟨a, valV kvs key, rfl, .inr ⟨kvs, key, b, h2, rfl, hb, rfl⟩, ?_⟩
        rw [ekk]
        exact val_rel keq_ksD key h5
      · cases ek
    · cases ek
theorem RelD.isSome {H : Hp} {P : Addr → Prop} {o : Option V} {d : Option D} (h : RelD H P o d) : o.isSome = d.isSome := by
  cases o <;> cases d <;> first | rfl | exact h.elim

theorem rr_str {K : PySem.W.Frag} {H0 H : Hp} {P : Addr → Prop} {x : Str} (h : strOk x = true) : RR K H0 H P (.str x) (.val (.str x)) := (show Rp H P (.str x) (.str x) from rp_str h)
theorem Rps.atI {H : Hp} {P : Addr → Prop} {vs : List V} {ds : List D} {i : Int} {d : D} (h : Rps H P vs ds) (e : atI ds i = some d) : ∃ v, atI vs i = some v ∧ Rp H P v d := by
  unfold L2.atI at e ⊢
  rw [h.length]
  cases q : ixN ds.length i with
  | none => rw [q] at e; cases e
  | some j =>
    rw [q] at e
    exact h.get e
def opIx (x y : R) : Res R := match x.d, y.d with
  | .lst ds, .int i => (match atI ds i with | some d => .ok (.val d) | none => .stuck)
  | .tup ds, .int i => (match atI ds i with | some d => .ok (.val d) | none => .stuck)
  | .str z, .int i => if z.length ≤ LIM then (match atI z.cps.toList i with | some c => .ok (.val (.str ⟨#[c]⟩)) | none => .stuck) else .stuck
  | .dct tk ks ds, _ => (match dKey tk y with
    | some k => (match dctGet ks ds k with | some d => .ok (.val d) | none => .stuck)
    | none => .stuck)
  | _, _ => .stuck
def eIx (a b : Env → Res R) (ρ : Env) : Res R := (a ρ).bind fun x => (b ρ).bind fun y => opIx x y
def cutL {α : Type} (xs : List α) (lo hi : Option Int) : List α := (xs.drop (HT.sIx xs.length 0 lo)).take (HT.sIx xs.length xs.length hi - HT.sIx xs.length 0 lo)
theorem Rps.cut {H : Hp} {P : Addr → Prop} {vs : List V} {ds : List D} (h : Rps H P vs ds) (lo hi : Option Int) : Rps H P (cutV vs lo hi) (cutL ds lo hi) := by
  unfold cutV cutL
  rw [h.length]
  exact (h.drop _).take _
def opSl (x : R) (lo hi : Option Int) : Res R := match x.d with
  | .lst ds => .ok (.own (.lst (cutL ds lo hi)))
  | .tup ds => if x.exact then .ok (.val (.tup (cutL ds lo hi))) else .stuck
  | .str z => if z.length ≤ LIM then .ok (.val (.str (cutS z lo hi))) else .stuck
  | _ => .stuck
def ePart : Option (Env → Res R) → Env → Res (Option Int)
  | none, _ => .ok none
  | some m, ρ => match m ρ with
    | .ok r => (match r.d with | .int i => .ok (some i) | _ => .stuck)
    | .exc c pl => .exc c pl
    | .stuck => .stuck
def eSl (a : Env → Res R) (lo hi : Option (Env → Res R)) (ρ : Env) : Res R := (a ρ).bind fun x => match ePart lo ρ with
  | .ok l => (match ePart hi ρ with
    | .ok u => opSl x l u
    | .exc c pl => .exc c pl
    | .stuck => .stuck)
  | .exc c pl => .exc c pl
  | .stuck => .stuck

section
variable {X : Cx} {C : Cn} {W : WX} {e a b c o i : Expr} {m ma mb mc mo mi : Env → Res R} {pos p2 : Pos}
theorem PE.or {t t' : TE} (h : PE X e t) (h' : PE X e t') : PE X e (fun σ H Q => t σ H Q ∨ t' σ H Q) := ⟨fun pins s σ H Q I q => q.elim (h.run pins s σ H Q I) (h'.run pins s σ H Q I)⟩
theorem pe_ixM (hK : X.K = C.K) (hu : X.A.units + 200 < cLine) (ha : PE X a (tM C W ma)) (hb : PE X b (tM C W mb)) (hs : PlainIx b) : PE X (.Subscript a b pos) (tM C W (eIx ma mb)) := by
  refine ⟨fun pins s σ H Q I ⟨ρ, c, S, sr, h⟩ => ?_⟩
  -- which road: by what the base is
  unfold eIx at h
  cases e1 : ma ρ with
  | stuck => rw [e1] at h; exact h.elim
  | exc k pl =>
    rw [e1] at h
    exact (pe_ix ix_seq ha hb hs).run pins s σ H Q I ⟨ρ, c, S, sr, by rw [e1]; exact h⟩
  | ok x =>
    rw [e1, Res.bind_ok] at h
    cases e2 : mb ρ with
    | stuck => rw [e2] at h; exact h.elim
    | exc k pl =>
      rw [e2] at h
      refine (pe_ix ix_seq ha hb hs).run pins s σ H Q I ⟨ρ, c, S, sr, ?_⟩
      rw [e1]
      intro v H1 x1 r1
      exact ⟨ρ, c, S, sr.ex x1, by rw [e2]; exact RW.mono (res := .exc k pl) (Q := Q) x1 h⟩
    | ok y =>
      rw [e2, Res.bind_ok] at h
      have road : ∀ (rd : V → V → Hp → VK → Prop), (∀ v u H1 H2, Ex H H1 → Ex H1 H2 → RR C.K H H2 (Mp.Own c S) v x → RR C.K H1 H2 (Mp.Own c S) u y → rd v u H2 Q) → tM C W ma σ H fun v H1 => tM C W mb σ H1 fun u H2 => rd v u H2 Q := by
        intro rd k
        refine ⟨ρ, c, S, sr, ?_⟩
        rw [e1]
        intro v H1 x1 r1
        refine ⟨ρ, c, S, sr.ex x1, ?_⟩
        rw [e2]
        intro u H2 x2 r2
        exact k v u H1 H2 x1 x2 (r1.mono (Ex.refl _) x2) r2
      unfold opIx at h
      split at h
      · next ds j q1 q2 =>
        split at h
        · next d q3 =>
          refine (pe_ix ix_seq ha hb hs).run pins s σ H Q I (road (rIx X.K) fun v u H1 H2 x1 x2 rv ru => ?_)
          obtain ⟨p, vs, hv, hq, hr⟩ := rv.lst q1
          obtain ⟨w, hw, rw'⟩ := hr.atI q3
          rw [hK]
          exact .inl ⟨p, vs, j, w, hv, ru.int q2, hq, hw, h w H2 (x1.trans x2) rw'⟩
        · exact h.elim
      · next ds j q1 q2 =>
        split at h
        · next d q3 =>
          refine (pe_ix ix_seq ha hb hs).run pins s σ H Q I (road (rIx X.K) fun v u H1 H2 x1 x2 rv ru => ?_)
          obtain ⟨p, vs, hv, hq, hr⟩ := rv.tup q1
          obtain ⟨w, hw, rw'⟩ := hr.atI q3
          rw [hK]
          exact .inr (.inl ⟨p, vs, j, w, hv, ru.int q2, hq, hw, h w H2 (x1.trans x2) rw'⟩)
        · exact h.elim
      · next z j q1 q2 =>
        split at h
        · next l =>
          split at h
          · next d q3 =>
            refine (pe_ix ix_seq ha hb hs).run pins s σ H Q I (road (rIx X.K) fun v u H1 H2 x1 x2 rv ru => ?_)
            obtain ⟨hz, ok⟩ := rv.str q1
            obtain ⟨k, _, hk, _⟩ := atI_get q3
            exact .inr (.inr ⟨z, j, d, hz, ru.int q2, lim_ok l, q3, h _ H2 (x1.trans x2) (rr_str (strOk_sign ok (List.mem_of_getElem? hk)))⟩)
          · exact h.elim
        · exact h.elim
      · next tk ks ds q1 =>
        split at h
        · next kk q2 =>
          split at h
          · next d q3 =>
            refine (pe_dget (by omega) ha hb hs).run pins s σ H Q I (road (fun x y H2 Q => ∃ a v, x = .ref a ∧ DGet H2 a y (some v) ∧ Q v H2) fun v u H1 H2 x1 x2 rv ru => ?_)
            obtain ⟨a', o, hv, hg, hr⟩ := look_ok (rv.mono (H0' := fun _ => none) (fun _ _ z => nomatch z) (Ex.refl _)) q1 (ru.mono (H0' := fun _ => none) (fun _ _ z => nomatch z) (Ex.refl _)) q2
            rw [q3] at hr
            cases o with
            | none => exact hr.elim
            | some w => exact ⟨a', w, hv, hg, h w H2 (x1.trans x2) hr⟩
          · exact h.elim
        · exact h.elim
      · exact h.elim
theorem po_M {lo : Option Expr} {ml : Option (Env → Res R)} (h : ∀ e, lo = some e → ∃ m, ml = some m ∧ PE X e (tM C W m)) (hn : lo = none → ml = none) :
    PO X lo (fun σ H Q => ∃ ρ c S, SR C.K σ H ρ c S ∧ match ePart ml ρ with
      | .ok l => ∀ H', Ex H H' → Q l H'
      | .exc k pl => ∀ H' d, Ex H H' → XP H' (Mp.Own c S) d pl → W (.ref (C.ca k)) d σ H'
      | .stuck => False) := by
  cases lo with
  | none =>
    rw [hn rfl]
    refine ⟨fun pins s σ H Q I ⟨ρ, c, S, sr, q⟩ => ?_⟩
    exact po_none.run pins s σ H Q I (q H (Ex.refl _))
  | some e =>
    obtain ⟨m, rfl, hm⟩ := h e rfl
    refine ⟨fun pins s σ H Q I ⟨ρ, c, S, sr, q⟩ => ?_⟩
    refine (po_some hm).run pins s σ H Q I ⟨ρ, c, S, sr, ?_⟩
    simp only [ePart] at q
    cases e1 : m ρ with
    | stuck => rw [e1] at q; exact q.elim
    | exc k pl => rw [e1] at q; exact q
    | ok r =>
      rw [e1] at q
      intro v H1 x1 r1
      simp only at q
      split at q
      · next l e2 =>
        split at e2
        · next i e3 => cases e2; exact ⟨i, r1.int e3, q H1 x1⟩
        · cases e2
      · next k pl e2 => split at e2 <;> cases e2
      · exact q.elim
theorem pe_slM {lo hi : Option Expr} {ml mh : Option (Env → Res R)} (hK : X.K = C.K) (ha : PE X a (tM C W ma)) (hl : ∀ e, lo = some e → ∃ m, ml = some m ∧ PE X e (tM C W m)) (hln : lo = none → ml = none)
    (hh : ∀ e, hi = some e → ∃ m, mh = some m ∧ PE X e (tM C W m)) (hhn : hi = none → mh = none) : PE X (.Subscript a (.Slice lo hi none p2) pos) (tM C W (eSl ma ml mh)) := by
  refine PE.weak (pe_slice (sl_list.or (sl_tupA.or sl_str)) ha (po_M hl hln) (po_M hh hhn)) fun σ H Q ⟨ρ, c, S, sr, q⟩ => ?_
  refine ⟨ρ, c, S, sr, (RW.bind q).imp fun v H1 ⟨x, x1, r1, q1⟩ => ?_⟩
  refine ⟨ρ, c, S, sr.ex x1, ?_⟩
  cases e1 : ePart ml ρ with
  | stuck => rw [e1] at q1; exact q1.elim
  | exc k pl => rw [e1] at q1; exact q1
  | ok l =>
    rw [e1] at q1
    intro H2 x2
    refine ⟨ρ, c, S, (sr.ex x1).ex x2, ?_⟩
    simp only at q1
    cases e2 : ePart mh ρ with
    | stuck => rw [e2] at q1; exact q1.elim
    | exc k pl => rw [e2] at q1; exact fun H' d x3 p => q1 H' d (x2.trans x3) p
    | ok u =>
      rw [e2] at q1
      intro H3 x3
      have r3 := r1.mono (Ex.refl _) (x2.trans x3)
      have hP := (((sr.ex x1).ex x2).ex x3).trk
      have q3 : RW C W (Mp.Own c S) σ H3 (opSl x l u) Q := RW.mono (x2.trans x3) q1
      unfold opSl at q3
      split at q3
      · next ds e3 =>
        obtain ⟨p, vs, hv, hq, hr⟩ := r3.lst e3
        rw [hK]
        exact .inl ⟨p, vs, hv, hq, rw_new q3 (hr.cut l u) hP⟩
      · next ds e3 =>
        split at q3
        · next hx =>
          have h4 : Rp H3 (Mp.Own c S) v (.tup ds) := by
            cases x with
            | val d => cases e3; exact r3
            | own d => cases e3; obtain ⟨_, _, _, _, z⟩ := r3; exact z.elim
            | bor d => cases hx
          simp only [Rp] at h4
          obtain ⟨p, vs, rfl, np, hq, hr⟩ := h4
          refine .inr (.inl ⟨p, vs, rfl, SqT.of hq, fun hw => ?_, fun _ => rw_newT q3 (hr.cut l u) hP⟩)
          have ec : cutL ds l u = ds := by
            unfold cutL
            rw [hr.length] at hw
            rw [hw.1, hw.2]
            simp
          rw [ec] at q3
          exact q3 _ H3 (Ex.refl _) (by show Rp _ _ _ _; simp only [Rp]; exact ⟨p, vs, rfl, np, hq, hr⟩)
        · exact q3.elim
      · next z e3 =>
        split at q3
        · next lz =>
          obtain ⟨hz, ok⟩ := r3.str e3
          exact .inr (.inr ⟨z, hz, lim_ok lz, q3 _ H3 (Ex.refl _) (rr_str (strOk_cut ok l u))⟩)
        · exact q3.elim
      · exact q3.elim
end
end Mp

namespace Mp
open PySem L2

def noStar : Expr → Bool
  | .Starred _ _ => false
  | _ => true
theorem starEach_cons {e : Expr} {es : List Expr} {env : PySem.Env} (h : noStar e = true) : starEach (e :: es) env = (false, eval e env) :: starEach es env := by
  cases e <;> first | rfl | cases h
theorem starEach_any {env : PySem.Env} {pos : Pos} : ∀ {es : List Expr}, es.all noStar = true → (backTo pos (starEach es env)).any (·.1) = false
  | [], _ => rfl
  | e :: es, h => by
    rw [List.all_cons, Bool.and_eq_true] at h
    rw [starEach_cons h.1]
    have q := starEach_any (env := env) (pos := pos) h.2
    simp only [backTo, List.map_cons, List.any_cons] at q ⊢
    rw [q]
    rfl
theorem starEach_all {env : PySem.Env} {pos : Pos} : ∀ {es : List Expr}, es.all noStar = true → (backTo pos (starEach es env)).all (fun x => !x.1) = true
  | [], _ => rfl
  | e :: es, h => by
    rw [List.all_cons, Bool.and_eq_true] at h
    rw [starEach_cons h.1]
    have q := starEach_all (env := env) (pos := pos) h.2
    simp only [backTo, List.map_cons, List.all_cons] at q ⊢
    rw [q]
    rfl
def plainBase : Expr → Bool
  | .Call (.Name _ _) [] [] _ => false
  | _ => true
theorem base_ok {o : Expr} {m : Str} {env : PySem.Env} {w : Sem Value} (h : plainBase o = true) : attributeBase o m env w = w := by
  unfold attributeBase
  split
  · simp [plainBase] at h
  · rfl
def noSlice : Expr → Bool
  | .Slice .. => false
  | _ => true
theorem plainIx_of {e : Expr} (h : noSlice e = true) : PlainIx e := by
  intro o i
  cases e <;> first | rfl | cases h
def plainTest : Expr → Bool
  | .UnaryOp .Not _ _ | .BoolOp _ _ _ | .IfExp _ _ _ _ | .Compare _ _ _ _ => false
  | _ => true
theorem isTrue_of {e : Expr} {env : PySem.Env} (h : plainTest e = true) : ∀ whole, isTrue e env whole = (do let v ← whole; standAt e.pos; holding [v] (truthy v)) := by
  intro whole
  cases e <;> first | rfl | (simp [plainTest] at h; done) | (rename_i op _ _; cases op <;> first | rfl | (simp [plainTest] at h))

def bls : List D → Option (List Bool)
  | [] => some []
  | .bl b :: ds => (bls ds).map (b :: ·)
  | _ => none
def stsL : List D → Option (List Str)
  | [] => some []
  | .str b :: ds => (stsL ds).map (b :: ·)
  | _ => none
def ints' : List D → Option (List Int)
  | [] => some []
  | .int b :: ds => (ints' ds).map (b :: ·)
  | _ => none
def numS (n : Nat) : Str := ⟨(TL.numL n).toArray⟩
theorem numS_eq (n : Nat) : Str.ofString (toString ((n : Nat) : Int)) = numS n := by
  have h := TL.tl_num n
  unfold numS
  rw [← h]
theorem strOk_num (n : Nat) : strOk (numS n) = true := by
  unfold numS
  rw [strOk_mk]
  intro c hc
  have := (TL.numL_digits n) c hc
  unfold NumText.AllDigits at *
  omega
def bLen : List R → Res R
  | [r] => (match r.d with
    | .lst ds => .ok (.val (.int (ds.length : Int)))
    | .tup ds => .ok (.val (.int (ds.length : Int)))
    | .str z => if z.length ≤ LIM then .ok (.val (.int (z.length : Int))) else .stuck
    | .dct false ks ds => .ok (.val (.int (ds.length : Int)))
    | _ => .stuck)
  | _ => .stuck
def bStr : List R → Res R
  | [r] => (match r.d with
    | .int i => if decide (0 ≤ i) && decide (i.natAbs.log2 < 1900) then .ok (.val (.str (numS i.toNat))) else .stuck
    | _ => .stuck)
  | _ => .stuck
def bInt : List R → Res R
  | [r] => (match r.d with
    | .int i => .ok (.val (.int i))
    | .bl b => .ok (.val (.int (if b then 1 else 0)))
    | .str z => (match PySem.intText? z with
      | some n => if z.length ≤ 640 then .ok (.val (.int n)) else .stuck
      | none => .stuck)
    | _ => .stuck)
  | _ => .stuck
def bList : List R → Res R
  | [r] => (match r.d with
    | .lst ds => .ok (.own (.lst ds))
    | .tup ds => .ok (.own (.lst ds))
    | .dct false ks _ => .ok (.own (.lst ks))
    | _ => .stuck)
  | _ => .stuck
def bTuple : List R → Res R
  | [r] => (match r.d with
    | .lst ds => .ok (.val (.tup ds))
    | .tup ds => if r.exact then .ok (.val (.tup ds)) else .stuck
    | _ => .stuck)
  | _ => .stuck
def bAll : List R → Res R
  | [r] => (match r.d with
    | .lst ds => (match bls ds with | some bs => .ok (.val (.bl (bs.all id))) | none => .stuck)
    | _ => .stuck)
  | _ => .stuck
def bAny : List R → Res R
  | [r] => (match r.d with
    | .lst ds => (match bls ds with | some bs => .ok (.val (.bl (bs.any id))) | none => .stuck)
    | _ => .stuck)
  | _ => .stuck
def bSum : List R → Res R
  | [r] => (match r.d with
    | .lst ds => (match ints' ds with | some bs => .ok (.val (.int bs.sum)) | none => .stuck)
    | _ => .stuck)
  | _ => .stuck
def bMin : List R → Res R
  | [r, r'] => (match r.d, r'.d with
    | .int i, .int j => .ok (.val (.int (if j < i then j else i)))
    | _, _ => .stuck)
  | _ => .stuck
def bMax : List R → Res R
  | [r, r'] => (match r.d, r'.d with
    | .int i, .int j => .ok (.val (.int (if j > i then j else i)))
    | _, _ => .stuck)
  | _ => .stuck
def eBlt (f : List R → Res R) (ms : List (Env → Res R)) (ρ : Env) : Res R := (eArgs ms ρ).bind f
def tyD : D → Option String
  | .non => some "NoneType" | .bl _ => some "bool" | .int _ => some "int" | .str _ => some "str" | .tup _ => some "tuple" | .lst _ => some "list" | .dct _ _ _ => some "dict" | .obj _ _ _ => none | .exo _ _ _ _ => none
def isT (T : String) (d : D) : Option Bool := match tyD d with
  | some t => if ["str", "int", "bool", "list", "tuple", "dict"].contains T then some (t == T || (t == "bool" && T == "int")) else none
  | none => none
def eIsi (T : String) (m : Env → Res R) (ρ : Env) : Res R := (m ρ).bind fun r => match isT T r.d with
  | some b => .ok (.val (.bl b))
  | none => .stuck

theorem paired1 {α β : Type} {F : α → β → Prop} {vs : List α} {r : β} (h : Paired F vs [r]) : ∃ v, vs = [v] ∧ F v r := by
  cases h with
  | cons a b => cases b; exact ⟨_, rfl, a⟩
theorem paired2 {α β : Type} {F : α → β → Prop} {vs : List α} {r r' : β} (h : Paired F vs [r, r']) : ∃ v v', vs = [v, v'] ∧ F v r ∧ F v' r' := by
  cases h with
  | cons a b => cases b with
    | cons a' b' => cases b'; exact ⟨_, _, rfl, a, a'⟩
theorem Rps.bls {H : Hp} {P : Addr → Prop} : ∀ {vs : List V} {ds : List D} {bs : List Bool}, Rps H P vs ds → bls ds = some bs → vs = bs.map V.bl
  | [], [], bs, _, e => by simp [Mp.bls] at e; subst e; rfl
  | [], _ :: _, _, h, _ => by simp [Rps] at h
  | _ :: _, [], _, h, _ => by simp [Rps] at h
  | v :: vs, d :: ds, bs, h, e => by
    simp only [Rps] at h
    cases d with
    | bl b =>
      simp only [Mp.bls, Option.map_eq_some_iff] at e
      obtain ⟨cs, e1, rfl⟩ := e
      rw [List.map_cons, ← Rps.bls h.2 e1]
      have := h.1
      simp only [Rp] at this
      rw [this]
    | _ => simp [Mp.bls] at e
theorem Rps.stsL {H : Hp} {P : Addr → Prop} : ∀ {vs : List V} {ds : List D} {bs : List Str}, Rps H P vs ds → stsL ds = some bs → vs = bs.map V.str ∧ ∀ x ∈ bs, strOk x = true
  | [], [], bs, _, e => by simp [Mp.stsL] at e; subst e; exact ⟨rfl, fun x hx => by cases hx⟩
  | [], _ :: _, _, h, _ => by simp [Rps] at h
  | _ :: _, [], _, h, _ => by simp [Rps] at h
  | v :: vs, d :: ds, bs, h, e => by
    simp only [Rps] at h
    cases d with
    | str b =>
      simp only [Mp.stsL, Option.map_eq_some_iff] at e
      obtain ⟨cs, e1, rfl⟩ := e
      obtain ⟨i1, i2⟩ := Rps.stsL h.2 e1
      have := h.1
      simp only [Rp] at this
      refine ⟨by rw [List.map_cons, ← i1, this.1], fun x hx => ?_⟩
      rcases List.mem_cons.mp hx with rfl | hx
      · exact this.2
      · exact i2 x hx
    | _ => simp [Mp.stsL] at e
theorem Rps.ints' {H : Hp} {P : Addr → Prop} : ∀ {vs : List V} {ds : List D} {bs : List Int}, Rps H P vs ds → ints' ds = some bs → vs = bs.map V.int
  | [], [], bs, _, e => by simp [Mp.ints'] at e; subst e; rfl
  | [], _ :: _, _, h, _ => by simp [Rps] at h
  | _ :: _, [], _, h, _ => by simp [Rps] at h
  | v :: vs, d :: ds, bs, h, e => by
    simp only [Rps] at h
    cases d with
    | int b =>
      simp only [Mp.ints', Option.map_eq_some_iff] at e
      obtain ⟨cs, e1, rfl⟩ := e
      rw [List.map_cons, ← Rps.ints' h.2 e1]
      have := h.1
      simp only [Rp] at this
      rw [this]
    | _ => simp [Mp.ints'] at e

section
variable {X : Cx} {C : Cn} {W : WX} {e o : Expr} {es : List Expr} {m mo : Env → Res R} {ms : List (Env → Res R)} {pos p apos : Pos} {x : Str}
def BltGives (C : Cn) (f : List R → Res R) (r : List V → Hp → VK → Prop) : Prop := ∀ (W : WX) (P : Addr → Prop) (σ : L2.St) (H0 H : Hp) (Q : VK) (vs : List V) (rs : List R), (∀ a, P a → ∃ o, H a = some o) → Paired (RR C.K H0 H P) vs rs → RW C W P σ H (f rs) Q → r vs H Q
theorem pe_bltM {id : String} {r : List V → Hp → VK → Prop} {f : List R → Res R} (hc : CallR X (.builtin id) r) (gv : BltGives C f r) (hg : Gl X x) (hm : X.mg x = none) (hv : bootBuiltins x = some (.builtin id))
    (ha : PA X (e :: es) (tMs C W (eArgs ms))) (hn : x ≠ "__name__") (hdb : (x == ("__debug__" : Str)) = false) (hst : (e :: es).all noStar = true) : PE X (.Call (.Name x p) (e :: es) [] pos) (tM C W (eBlt f ms)) := by
  have h1 := hst
  rw [List.all_cons, Bool.and_eq_true] at h1
  exact PE.weak (pe_callB hc hg hm hv ha hn hdb (starEach_cons h1.1) (starEach_any h1.2)) fun σ H Q ⟨ρ, c, S, sr, q⟩ => ⟨ρ, c, S, sr, (RWs.bind q).imp fun vs H1 ⟨rs, x1, r1, q1⟩ => gv W _ σ H H1 Q vs rs (sr.ex x1).trk r1 q1⟩
theorem pe_tyM {T : String} {r : List V → Hp → VK → Prop} {f : List R → Res R} (hc : CallR X (.type T) r) (gv : BltGives C f r) (hg : Gl X x) (hm : X.mg x = none) (hv : bootBuiltins x = some (.type T))
    (ha : PA X (e :: es) (tMs C W (eArgs ms))) (hn : x ≠ "__name__") (hdb : (x == ("__debug__" : Str)) = false) (hst : (e :: es).all noStar = true) : PE X (.Call (.Name x p) (e :: es) [] pos) (tM C W (eBlt f ms)) := by
  have h1 := hst
  rw [List.all_cons, Bool.and_eq_true] at h1
  exact PE.weak (pe_callTy hc hg hm hv ha hn hdb (starEach_cons h1.1) (starEach_any h1.2)) fun σ H Q ⟨ρ, c, S, sr, q⟩ => ⟨ρ, c, S, sr, (RWs.bind q).imp fun vs H1 ⟨rs, x1, r1, q1⟩ => gv W _ σ H H1 Q vs rs (sr.ex x1).trk r1 q1⟩
def rLenX (K : PySem.W.Frag) : List V → Hp → VK → Prop := fun xs H Q => (∃ x n, xs = [x] ∧ LenV K x H n ∧ Q (.int n) H) ∨ ∃ a kvs, xs = [V.ref a] ∧ Rd H a (.dK kvs) ∧ Q (.int kvs.length) H
theorem call_lenX : CallR X (.builtin "len") (rLenX X.K) := call_len.or (by
  intro pins s σ H xs us Q I r h
  obtain ⟨a, kvs, rfl, e, q⟩ := h
  obtain ⟨u, rfl, rx⟩ := vals1 r
  cases (show u = Value.ref a from rx)
  exact d_len I e fun t s' I' => ⟨.int kvs.length, H, I', ⟨t, rfl⟩, q⟩)
theorem gv_len : BltGives C bLen (rLenX C.K) := by
  intro W P σ H0 H Q vs rs hP rp h
  unfold bLen at h
  split at h
  · next r =>
    obtain ⟨v, rfl, rv⟩ := paired1 rp
    split at h
    · next ds e =>
      obtain ⟨a, ws, rfl, h1, h2⟩ := rv.lst e
      exact .inl ⟨_, ds.length, rfl, .inl ⟨ws, h1, h2.length.symm⟩, rw_val h (by simp [Rp])⟩
    · next ds e =>
      obtain ⟨a, ws, rfl, h1, h2⟩ := rv.tup e
      exact .inl ⟨_, ds.length, rfl, .inr ⟨ws, h1, h2.length.symm⟩, rw_val h (by simp [Rp])⟩
    · next z e =>
      split at h
      · next l => obtain ⟨rfl, _⟩ := rv.str e; exact .inl ⟨_, z.length, rfl, ⟨lim_ok l, rfl⟩, rw_val h (by simp [Rp])⟩
      · exact h.elim
    · next ks ds e =>
      have q := rv.lent (by rw [e]; rfl)
      rw [e] at q
      obtain ⟨a, kvs, rfl, h1, _, _, h2⟩ := q
      have hl := h2.length
      rw [List.length_map] at hl
      exact .inr ⟨a, kvs, rfl, h1, rw_val h (by simp [Rp, hl])⟩
    · exact h.elim
  · exact h.elim
theorem gv_str : BltGives C bStr (fun xs H Q => ∃ i, xs = [.int i] ∧ i.natAbs.log2 < 1920 ∧ Q (.str (toString i)) H) := by
  intro W P σ H0 H Q vs rs hP rp h
  unfold bStr at h
  split at h
  · next r =>
    obtain ⟨v, rfl, rv⟩ := paired1 rp
    split at h
    · next i e =>
      split at h
      · next c =>
        rw [Bool.and_eq_true] at c
        have c1 := of_decide_eq_true c.1
        have c2 := of_decide_eq_true c.2
        have ei : i = ((i.toNat : Nat) : Int) := by omega
        refine ⟨i, by rw [rv.int e], by omega, ?_⟩
        have e2 : Str.ofString (toString i) = numS i.toNat := by
          have := numS_eq i.toNat
          rw [← ei] at this
          exact this
        have q := rw_val h (rp_str (strOk_num _))
        rw [← e2] at q
        exact q
      · exact h.elim
    · exact h.elim
  · exact h.elim
def rIntX : List V → Hp → VK → Prop := fun xs H Q => ((∃ i, xs = [.int i] ∧ Q (.int i) H) ∨ ∃ k, xs = [.bl k] ∧ Q (.int (if k then 1 else 0)) H) ∨ ∃ a n, xs = [.str a] ∧ PySem.intText? a = some n ∧ a.length ≤ 640 ∧ Q (.int n) H
theorem gv_int : BltGives C bInt rIntX := by
  intro W P σ H0 H Q vs rs hP rp h
  unfold bInt at h
  split at h
  · next r =>
    obtain ⟨v, rfl, rv⟩ := paired1 rp
    split at h
    · next i e => exact .inl (.inl ⟨i, by rw [rv.int e], rw_val h (by simp [Rp])⟩)
    · next b e => exact .inl (.inr ⟨b, by rw [rv.bl e], rw_val h (by simp [Rp])⟩)
    · next z e =>
      split at h
      · next n e2 =>
        split at h
        · next l => exact .inr ⟨z, n, by rw [(rv.str e).1], e2, l, rw_val h (by simp [Rp])⟩
        · exact h.elim
      · exact h.elim
    · exact h.elim
  · exact h.elim
theorem kD_keys {H : Hp} {P : Addr → Prop} : ∀ {kvs : List (Key × V)}, (∀ p ∈ kvs, ∀ x, p.1 = .inr x → strOk x = true) → Rps H P (kvs.map fun p => kV p.1) (kvs.map fun p => kD p.1)
  | [], _ => by simp [Rps]
  | (.inl i, v) :: kvs, h => ⟨by simp [kV, kD, Rp], kD_keys fun p hp => h p (List.mem_cons_of_mem _ hp)⟩
  | (.inr x, v) :: kvs, h => ⟨by simp only [kV, kD, Rp]; exact ⟨trivial, h _ List.mem_cons_self x rfl⟩, kD_keys fun p hp => h p (List.mem_cons_of_mem _ hp)⟩
theorem gv_list : BltGives C bList (fun xs H Q => (∃ p ys, xs = [.ref p] ∧ (SqL C.K H p ys ∨ SqT C.K H p ys) ∧ ∀ l, H l = none → Q (.ref l) (upd H l (.lst ys))) ∨ (∃ (a : Addr) (kvs : List (Key × V)), xs = [.ref a] ∧ Rd H a (.dK kvs) ∧ ∀ p, H p = none → Q (.ref p) (upd H p (.lst (kvs.map fun kv => kV kv.1))))) := by
  intro W P σ H0 H Q vs rs hP rp h
  unfold bList at h
  split at h
  · next r =>
    obtain ⟨v, rfl, rv⟩ := paired1 rp
    split at h
    · next ds e =>
      obtain ⟨a, ws, rfl, h1, h2⟩ := rv.lst e
      exact .inl ⟨a, ws, rfl, .inl h1, rw_new h h2 hP⟩
    · next ds e =>
      obtain ⟨a, ws, rfl, h1, h2⟩ := rv.tup e
      exact .inl ⟨a, ws, rfl, .inr h1, rw_new h h2 hP⟩
    · next ks ds e =>
      have q := rv.lent (by rw [e]; rfl)
      rw [e] at q
      obtain ⟨a, kvs, rfl, h1, rfl, h2, _⟩ := q
      exact .inr ⟨a, kvs, rfl, h1, rw_new h (kD_keys h2) hP⟩
    · exact h.elim
  · exact h.elim
theorem gv_tuple : BltGives C bTuple (fun xs H Q => ∃ p ys, xs = [.ref p] ∧ ((SqL C.K H p ys ∧ ∀ l, H l = none → Q (.ref l) (upd H l (.tup ys))) ∨ (SqT C.K H p ys ∧ Q (.ref p) H))) := by
  intro W P σ H0 H Q vs rs hP rp h
  unfold bTuple at h
  split at h
  · next r =>
    obtain ⟨v, rfl, rv⟩ := paired1 rp
    split at h
    · next ds e =>
      obtain ⟨a, ws, rfl, h1, h2⟩ := rv.lst e
      exact ⟨a, ws, rfl, .inl ⟨h1, rw_newT h h2 hP⟩⟩
    · next ds e =>
      split at h
      · next hx =>
        have h4 : Rp H P v (.tup ds) := by
          cases r with
          | val d => cases e; exact rv
          | own d => cases e; obtain ⟨_, _, _, _, z⟩ := rv; exact z.elim
          | bor d => cases hx
        have h5 := h4
        simp only [Rp] at h5
        obtain ⟨a, ws, rfl, np, hq, hr⟩ := h5
        exact ⟨a, ws, rfl, .inr ⟨SqT.of hq, rw_val h h4⟩⟩
      · exact h.elim
    · exact h.elim
  · exact h.elim
theorem gv_all : BltGives C bAll (rAll C.K) := by
  intro W P σ H0 H Q vs rs hP rp h
  unfold bAll at h
  split at h
  · next r =>
    obtain ⟨v, rfl, rv⟩ := paired1 rp
    split at h
    · next ds e =>
      obtain ⟨a, ws, rfl, h1, h2⟩ := rv.lst e
      split at h
      · next bs e2 => rw [h2.bls e2] at h1; exact ⟨a, bs, rfl, h1, rw_val h (by simp [Rp])⟩
      · exact h.elim
    · exact h.elim
  · exact h.elim
theorem gv_any : BltGives C bAny (rAny C.K) := by
  intro W P σ H0 H Q vs rs hP rp h
  unfold bAny at h
  split at h
  · next r =>
    obtain ⟨v, rfl, rv⟩ := paired1 rp
    split at h
    · next ds e =>
      obtain ⟨a, ws, rfl, h1, h2⟩ := rv.lst e
      split at h
      · next bs e2 => rw [h2.bls e2] at h1; exact ⟨a, bs, rfl, h1, rw_val h (by simp [Rp])⟩
      · exact h.elim
    · exact h.elim
  · exact h.elim
theorem gv_sum : BltGives C bSum (rSum C.K) := by
  intro W P σ H0 H Q vs rs hP rp h
  unfold bSum at h
  split at h
  · next r =>
    obtain ⟨v, rfl, rv⟩ := paired1 rp
    split at h
    · next ds e =>
      obtain ⟨a, ws, rfl, h1, h2⟩ := rv.lst e
      split at h
      · next bs e2 => rw [h2.ints' e2] at h1; exact ⟨a, bs, rfl, h1, rw_val h (by simp [Rp])⟩
      · exact h.elim
    · exact h.elim
  · exact h.elim
theorem gv_min : BltGives C bMin (fun xs H Q => ∃ i j, xs = [.int i, .int j] ∧ Q (.int (if j < i then j else i)) H) := by
  intro W P σ H0 H Q vs rs hP rp h
  unfold bMin at h
  split at h
  · next r r' =>
    obtain ⟨v, v', rfl, rv, rv'⟩ := paired2 rp
    split at h
    · next i j e e' => exact ⟨i, j, by rw [rv.int e, rv'.int e'], rw_val h (by simp [Rp])⟩
    · exact h.elim
  · exact h.elim
theorem gv_max : BltGives C bMax (fun xs H Q => ∃ i j, xs = [.int i, .int j] ∧ Q (.int (if j > i then j else i)) H) := by
  intro W P σ H0 H Q vs rs hP rp h
  unfold bMax at h
  split at h
  · next r r' =>
    obtain ⟨v, v', rfl, rv, rv'⟩ := paired2 rp
    split at h
    · next i j e e' => exact ⟨i, j, by rw [rv.int e, rv'.int e'], rw_val h (by simp [Rp])⟩
    · exact h.elim
  · exact h.elim
theorem kit_all : ∀ t ∈ ["NoneType", "bool", "int", "str", "tuple", "list", "dict"], ∀ T ∈ ["str", "int", "bool", "list", "tuple", "dict"], kitB t T = some (t == T || (t == "bool" && T == "int")) := by decide +kernel
def IsDc (H : Hp) (a : Addr) : Prop := (∃ kvs, Rd H a (.dK kvs)) ∨ ∃ kvs, Rd H a (.dT kvs)
def rIsiD (K : PySem.W.Frag) : List V → Hp → VK → Prop := fun xs H Q => ∃ (a : Addr) (c : V) (u : Value) (b : Bool), xs = [.ref a, c] ∧ ClsV c u ∧ IsDc H a ∧ PySem.W.kitOne K (.type "dict") u = some b ∧ Q (.bl b) H
theorem call_isiD : CallR X (.builtin "isinstance") (rIsiD X.K) := by
  intro pins s σ H xs us Q I r h
  obtain ⟨a, c, u, b, rfl, k, hd, e, q⟩ := h
  obtain ⟨u1, u2, rfl, r1, r2⟩ := vals2 r
  have e2 := k.eq r2
  subst e2
  cases (show u1 = Value.ref a from r1)
  have key : ∃ o, s.heap.get? a = some o ∧ o.cls = .type "dict" := by
    rcases hd with ⟨kvs, hd⟩ | ⟨kvs, hd⟩
    · rcases hd with hd | ⟨ob, hd⟩
      · obtain ⟨_, _, vs, _, o, es, ep, h1, h2, _⟩ := (show ObjOk X.prog X.w H s.heap a (.dK kvs) from I.hok a _ hd)
        exact ⟨o, h1, h2.1⟩
      · obtain ⟨_, _, _, vs, _, o, es, ep, h1, h2, _⟩ := (show ObjOk X.prog X.w H s.heap a (.frz ob (.dK kvs)) from I.hok a _ hd)
        exact ⟨o, h1, h2.1⟩
    · rcases hd with hd | ⟨ob, hd⟩
      · obtain ⟨_, _, vs, _, o, es, ep, h1, h2, _⟩ := (show ObjOk X.prog X.w H s.heap a (.dT kvs) from I.hok a _ hd)
        exact ⟨o, h1, h2.1⟩
      · obtain ⟨_, _, _, vs, _, o, es, ep, h1, h2, _⟩ := (show ObjOk X.prog X.w H s.heap a (.frz ob (.dT kvs)) from I.hok a _ hd)
        exact ⟨o, h1, h2.1⟩
  exact PySem.W.kia_one PySem.W.kitx_dict I.kIn key e (fun z => nomatch z) fun tk => ⟨.bl b, H, I.tok tk, rfl, q⟩
theorem RR.isDc {K : PySem.W.Frag} {H0 H : Hp} {P : Addr → Prop} {v : V} {r : R} {tk : Bool} {ks ds : List D} (h : RR K H0 H P v r) (e : r.d = .dct tk ks ds) : ∃ a, v = .ref a ∧ IsDc H a := by
  have q := h.lent (by rw [e]; rfl)
  rw [e] at q
  cases tk with
  | false => obtain ⟨a, kvs, h1, h2, _⟩ := q; exact ⟨a, h1, .inl ⟨kvs, h2⟩⟩
  | true => obtain ⟨a, kvs, h1, h2, _⟩ := q; exact ⟨a, h1, .inr ⟨kvs, h2⟩⟩
theorem RR.ty {K : PySem.W.Frag} {H0 H : Hp} {P : Addr → Prop} {v : V} {r : R} {t : String} (h : RR K H0 H P v r) (e : tyD r.d = some t) (n : ∀ tk ks ds, r.d ≠ .dct tk ks ds) : TyX K H v (.type t) := by
  cases q : r.d with
  | non => rw [q] at e; cases e; rw [h.non q]; exact .base .non
  | bl b => rw [q] at e; cases e; rw [h.bl q]; exact .base (.bl b)
  | int b => rw [q] at e; cases e; rw [h.int q]; exact .base (.int b)
  | str b => rw [q] at e; cases e; rw [(h.str q).1]; exact .base (.str b)
  | tup ds =>
    rw [q] at e; cases e
    obtain ⟨a, vs, rfl, h1, h2⟩ := h.tup q
    rcases h1 with (h1 | ⟨o, h1⟩) | ⟨o, its, n, h1, h3, _⟩
    · exact .base (.tup h1)
    · exact .fTuple h1
    · exact .kTuple h1 h3
  | lst ds =>
    rw [q] at e; cases e
    obtain ⟨a, vs, rfl, h1, h2⟩ := h.lst q
    rcases h1 with (h1 | ⟨o, h1⟩) | ⟨o, its, n, h1, h3, _⟩
    · exact .base (.lst h1)
    · exact .base (.frz h1)
    · exact .kList h1 h3
  | dct _ _ _ => exact absurd q (n _ _ _)
  | obj _ _ _ => rw [q] at e; cases e
  | exo _ _ _ _ => rw [q] at e; cases e
theorem tyD_mem {d : D} {t : String} (h : tyD d = some t) : t ∈ ["NoneType", "bool", "int", "str", "tuple", "list", "dict"] := by
  cases d <;> first | (simp [tyD] at h; done) | (simp [tyD] at h; subst h; decide)
theorem pe_isiM {T : String} {x : Str} {p' : Pos} (hK : X.K = C.K) (hg : Gl X "isinstance") (hm : X.mg "isinstance" = none) (hgT : Gl X x) (hmT : X.mg x = none) (hvT : bootBuiltins x = some (.type T)) (hn : x ≠ "__name__") (hdb : (x == ("__debug__" : Str)) = false)
    (he : PE X e (tM C W m)) (hst : noStar e = true) : PE X (.Call (.Name "isinstance" p) [e, .Name x p'] [] pos) (tM C W (eIsi T m)) := by
  refine PE.weak (pe_callB (call_isi.or call_isiD) hg hm (by decide +kernel) (pa_cons he (pa_cons (pe_bltn (v := .ty T) hgT hmT hvT rfl hn hdb) pa_nil (starEach_cons rfl)) (starEach_cons hst)) (by decide) (by decide) (starEach_cons hst) (starEach_any rfl)) fun σ H Q ⟨ρ, c, S, sr, q⟩ => ?_
  refine ⟨ρ, c, S, sr, (RW.bind q).imp fun v H1 ⟨r, x1, r1, q1⟩ => ?_⟩
  split at q1
  · next b e2 =>
    unfold isT at e2
    split at e2
    · next t et =>
      split at e2
      · next hT =>
        cases e2
        have kt := kit_ty (K := X.K) (kit_all t (tyD_mem et) T (List.contains_iff_mem.mp hT))
        by_cases hdc : ∃ tk ks ds, r.d = .dct tk ks ds
        · obtain ⟨tk, ks, ds, ed⟩ := hdc
          obtain ⟨a, rfl, ha⟩ := r1.isDc ed
          rw [ed] at et
          cases et
          exact .inr ⟨a, .ty T, .type T, _, rfl, .ty T, ha, kt, rw_bl q1⟩
        · refine .inl ⟨v, .ty T, .type t, .type T, _, rfl, .ty T, ?_, kt, rw_bl q1⟩
          rw [hK]
          exact r1.ty et fun tk ks ds z => hdc ⟨tk, ks, ds, z⟩
      · cases e2
    · cases e2
  · exact q1.elim

def mJoin (x y : R) : Res R := match x.d, y.d with
  | .str a, .lst ds => (match stsL ds with
    | some ys => if (ys.map (·.length)).sum + ys.length * a.length ≤ LIM then .ok (.val (.str (Str.join a ys))) else .stuck
    | none => .stuck)
  | _, _ => .stuck
theorem strOk_join {a : Str} (h : strOk a = true) : ∀ {ys : List Str}, (∀ x ∈ ys, strOk x = true) → strOk (Str.join a ys) = true
  | [], _ => by show strOk ⟨([] : List Nat).toArray⟩ = true; rw [strOk_mk]; intro c hc; cases hc
  | [x], hy => hy x (by simp)
  | x :: y :: r, hy => by
    show strOk (x ++ a ++ Str.join a (y :: r)) = true
    exact strOk_append (strOk_append (hy x (by simp)) h) (strOk_join h fun z hz => hy z (List.mem_cons_of_mem _ hz))
def eJoin (mo m : Env → Res R) (ρ : Env) : Res R := (mo ρ).bind fun x => match x.d with
  | .str a => (m ρ).bind fun y => mJoin x y
  | _ => .stuck
theorem pe_joinM (hK : X.K = C.K) (ho : PE X o (tM C W mo)) (he : PE X e (tM C W m)) (hst : noStar e = true) (hb : plainBase o = true) (hl : (apos.endLine == pos.line) = true) :
    PE X (.Call (.Attribute o "join" apos) [e] [] pos) (tM C W (eJoin mo m)) := by
  refine PE.weak (pe_join ho he (by rw [starEach_cons hst]; rfl) (base_ok hb) hl) fun σ H Q ⟨ρ, c, S, sr, h⟩ => ⟨ρ, c, S, sr, (RW.bind h).imp fun v H1 ⟨x, x1, r1, q1⟩ => ?_⟩
  split at q1
  · next a ea =>
    obtain ⟨rfl, oa⟩ := r1.str ea
    refine ⟨⟨a, rfl⟩, ρ, c, S, sr.ex x1, (RW.bind q1).imp fun u H2 ⟨y, x2, r2, q2⟩ => ?_⟩
    unfold mJoin at q2
    rw [ea] at q2
    split at q2
    · next a' ds e1 e2 =>
      cases e1
      obtain ⟨p, vs, rfl, h1, h2⟩ := r2.lst e2
      split at q2
      · next ys e3 =>
        obtain ⟨rfl, oy⟩ := h2.stsL e3
        split at q2
        · next hz =>
          rw [hK]
          refine ⟨a, p, ys, rfl, rfl, .inl h1, Nat.le_trans hz (by decide), ?_⟩
          rw [TL.join_eq]
          exact rw_val q2 (rp_str (strOk_join oa oy))
        · exact q2.elim
      · exact q2.elim
    · exact q2.elim
  · exact q1.elim
def mGet2 (x y z : R) : Res R := match x.d with
  | .dct tk ks ds => (match dKey tk y with
    | some k => (match dctGet ks ds k with
      | some d => .ok (.val d)
      | none => .ok z)
    | none => .stuck)
  | _ => .stuck
def isDct : D → Bool
  | .dct _ _ _ => true
  | _ => false
def eGet2 (mo m m' : Env → Res R) (ρ : Env) : Res R := (mo ρ).bind fun x => if isDct x.d then (m ρ).bind fun y => (m' ρ).bind fun z => mGet2 x y z else .stuck
def eGet1 (mo m : Env → Res R) (ρ : Env) : Res R := (mo ρ).bind fun x => if isDct x.d then (m ρ).bind fun y => mGet2 x y (.val .non) else .stuck
theorem RR.isD {K : PySem.W.Frag} {H0 H : Hp} {P : Addr → Prop} {v : V} {r : R} (h : RR K H0 H P v r) (e : isDct r.d = true) : ∃ a, v = .ref a ∧ IsD H a := by
  cases q : r.d with
  | dct tk ks ds =>
    have l := h.lent (by rw [q]; rfl)
    rw [q] at l
    cases tk with
    | false => obtain ⟨a, kvs, rfl, h1, _⟩ := l; exact ⟨a, rfl, .inl ⟨kvs, h1⟩⟩
    | true => obtain ⟨a, kvs, rfl, h1, _⟩ := l; exact ⟨a, rfl, .inr ⟨kvs, h1⟩⟩
  | _ => rw [q] at e; cases e
theorem get2_ok {P : Addr → Prop} {σ : L2.St} {H0 Ha Hb H : Hp} {Q : VK} {v u w : V} {x y z : R} (e0 : Ex H0 H) (rv : RR C.K Ha H P v x) (ru : RR C.K Hb H P u y) (rz : RR C.K H0 H P w z) (h : RW C W P σ H0 (mGet2 x y z) Q) :
    ∃ a o, v = .ref a ∧ DGet H a u o ∧ Q (o.getD w) H := by
  unfold mGet2 at h
  split at h
  · next tk ks ds e =>
    split at h
    · next k ek =>
      obtain ⟨a, o, hv, hg, hr⟩ := look_ok (rv.mono (H0' := fun _ => none) (fun _ _ z => nomatch z) (Ex.refl _)) e (ru.mono (H0' := fun _ => none) (fun _ _ z => nomatch z) (Ex.refl _)) ek
      refine ⟨a, o, hv, hg, ?_⟩
      split at h
      · next d e2 =>
        rw [e2] at hr
        cases o with
        | none => exact hr.elim
        | some w' => exact h w' H e0 hr
      · next e2 =>
        rw [e2] at hr
        cases o with
        | none => exact h w H e0 rz
        | some w' => exact hr.elim
    · exact h.elim
  · exact h.elim
theorem m1_of {e : Expr} {m : Str} {cpos : Pos} (hb : plainBase o = true) (hst : noStar e = true) (hl : (apos.endLine == cpos.line) = true) : M1 X o m apos e cpos :=
  ⟨base_ok hb, by rw [starEach_all (es := [e]) (by simp [hst])]; rfl, hl, by rw [starEach_cons hst]; rfl⟩
theorem m2_of {e f : Expr} {m : Str} {cpos : Pos} (hb : plainBase o = true) (hst : noStar e = true) (hst' : noStar f = true) (hl : (apos.endLine == cpos.line) = true) : M2 X o m apos e f cpos :=
  ⟨base_ok hb, by rw [starEach_all (es := [e, f]) (by simp [hst, hst'])]; rfl, hl, by rw [starEach_cons hst, starEach_cons hst']; rfl⟩
theorem pe_get2M {f : Expr} {m' : Env → Res R} (hu : X.A.units + 200 < cLine) (ho : PE X o (tM C W mo)) (he : PE X e (tM C W m)) (hf : PE X f (tM C W m')) (hb : plainBase o = true) (hst : noStar e = true) (hst' : noStar f = true) (hl : (apos.endLine == pos.line) = true) :
    PE X (.Call (.Attribute o "get" apos) [e, f] [] pos) (tM C W (eGet2 mo m m')) := by
  refine PE.weak (pe_dget2 (by omega) ho he hf (m2_of hb hst hst' hl)) fun σ H Q ⟨ρ, c, S, sr, h⟩ => ⟨ρ, c, S, sr, (RW.bind h).imp fun v H1 ⟨x, x1, r1, q1⟩ => ?_⟩
  split at q1
  · next hd =>
    obtain ⟨a, rfl, ha⟩ := r1.isD hd
    refine ⟨a, rfl, ha, ρ, c, S, sr.ex x1, (RW.bind q1).imp fun u H2 ⟨y, x2, r2, q2⟩ => ⟨ρ, c, S, (sr.ex x1).ex x2, ?_⟩⟩
    -- the default's result, seen from its own start
    cases e3 : m' ρ with
    | stuck => rw [e3] at q2; exact q2.elim
    | exc k pl => rw [e3] at q2; exact q2
    | ok z =>
      rw [e3, Res.bind_ok] at q2
      intro w H3 x3 r3
      obtain ⟨a', o', ea, hg, hq⟩ := get2_ok x3 (r1.mono (Ex.refl _) (x2.trans x3)) (r2.mono (Ex.refl _) x3) r3 q2
      cases ea
      exact ⟨o', hg, hq⟩
  · exact q1.elim
end
end Mp

namespace Mp
open PySem L2

structure Src (Hs : Hp) (O P : Addr → Prop) (J : It) (ds : List D) : Prop where
  go : ∀ i H, Fr O Hs H → i < ds.length → J.go i H
  yld : ∀ i H x H' d (P' : Addr → Prop), Fr O Hs H → (∀ a, P' a → P a ∨ Hs a = none) → (∀ a, P' a → ∃ o, H a = some o) → ds[i]? = some d → J.yld i H x H' → Ex H H' ∧ Rp H' P' x d
  stop : ∀ i H, Fr O Hs H → ds.length ≤ i → J.stop i H
theorem fr_rd {O : Addr → Prop} {H H' : Hp} (f : Fr O H H') {a : Addr} {u : HO} (n : ¬ O a) (h : Rd H a u) : Rd H' a u := by
  rcases h with h | ⟨o, h⟩
  · exact .inl (f _ _ n h)
  · exact .inr ⟨o, f _ _ n h⟩
def StayL (K : PySem.W.Frag) (H : Hp) (O : Addr → Prop) (a : Addr) (xs : List V) : Prop := (¬ O a ∧ Rd H a (.lst xs)) ∨ ∀ H', SqL K H' a xs
def StayT (K : PySem.W.Frag) (H : Hp) (O : Addr → Prop) (a : Addr) (xs : List V) : Prop := (¬ O a ∧ Rd H a (.tup xs)) ∨ ∀ H', SqT K H' a xs
theorem StayL.now {K : PySem.W.Frag} {Hs H : Hp} {O : Addr → Prop} {a : Addr} {xs : List V} (h : StayL K Hs O a xs) (f : Fr O Hs H) : SqL K H a xs := h.elim (fun z => .inl (fr_rd f z.1 z.2)) (fun z => z H)
theorem StayT.now {K : PySem.W.Frag} {Hs H : Hp} {O : Addr → Prop} {a : Addr} {xs : List V} (h : StayT K Hs O a xs) (f : Fr O Hs H) : SqT K H a xs := h.elim (fun z => .inl (fr_rd f z.1 z.2)) (fun z => z H)
theorem rp_keep {Hs H : Hp} {O P P' : Addr → Prop} (hO : ∀ a, O a → P a) (f : Fr O Hs H) (n : ∀ a, P' a → P a ∨ Hs a = none) {v : V} {d : D} (h : Rp Hs P v d) : Rp H P' v d :=
  h.move (fun a o p q => f a o (fun z => p (hO a z)) q) fun a o p q z => (n a z).elim p fun z => by rw [z] at q; cases q
theorem rps_keep {Hs H : Hp} {O P P' : Addr → Prop} (hO : ∀ a, O a → P a) (f : Fr O Hs H) (n : ∀ a, P' a → P a ∨ Hs a = none) {v : List V} {d : List D} (h : Rps Hs P v d) : Rps H P' v d :=
  h.move (fun a o p q => f a o (fun z => p (hO a z)) q) fun a o p q z => (n a z).elim p fun z => by rw [z] at q; cases q
theorem src_list {K : PySem.W.Frag} {Hs : Hp} {O P : Addr → Prop} {a : Addr} {xs : List V} {ds : List D} (hO : ∀ a, O a → P a) (h : StayL K Hs O a xs) (r : Rps Hs P xs ds) : Src Hs O P (Itl K a) ds where
  go := fun i H f hi => ⟨xs, xs[i]'(by rw [r.length]; exact hi), h.now f, List.getElem?_eq_getElem _⟩
  yld := fun i H x H' d P' f n _ hd y => by
    obtain ⟨rfl, y⟩ := y
    have hx := y xs (h.now f)
    obtain ⟨d', h1, h2⟩ := r.get' hx
    rw [hd] at h1
    cases h1
    exact ⟨Ex.refl _, rp_keep hO f n h2⟩
  stop := fun i H f hi => ⟨xs, h.now f, by rw [r.length]; exact hi⟩
theorem src_tup {K : PySem.W.Frag} {Hs : Hp} {O P : Addr → Prop} {a : Addr} {xs : List V} {ds : List D} (hO : ∀ a, O a → P a) (h : StayT K Hs O a xs) (r : Rps Hs P xs ds) : Src Hs O P (Itt K a) ds where
  go := fun i H f hi => ⟨xs, xs[i]'(by rw [r.length]; exact hi), h.now f, List.getElem?_eq_getElem _⟩
  yld := fun i H x H' d P' f n _ hd y => by
    obtain ⟨rfl, y⟩ := y
    have hx := y xs (h.now f)
    obtain ⟨d', h1, h2⟩ := r.get' hx
    rw [hd] at h1
    cases h1
    exact ⟨Ex.refl _, rp_keep hO f n h2⟩
  stop := fun i H f hi => ⟨xs, h.now f, by rw [r.length]; exact hi⟩
def signs (z : Str) : List D := z.cps.toList.map fun c => .str ⟨#[c]⟩
theorem src_str {Hs : Hp} {O P : Addr → Prop} {z : Str} (ok : strOk z = true) : Src Hs O P (Its z) (signs z) where
  go := fun i H f hi => (show i < z.cps.size by simpa [signs] using hi)
  yld := fun i H x H' d P' f n _ hd y => by
    obtain ⟨rfl, c, hc, rfl⟩ := y
    rw [signs, List.getElem?_map, Array.getElem?_toList, hc] at hd
    cases hd
    exact ⟨Ex.refl _, rp_str (strOk_sign ok (by rw [← Array.getElem?_toList] at hc; exact List.mem_of_getElem? hc))⟩
  stop := fun i H f hi => (show z.cps.size ≤ i by simpa [signs] using hi)
def rngD (lo : Int) (n : Nat) : List D := (List.range n).map fun i => .int (lo + (i : Nat))
theorem src_rng {Hs : Hp} {O P : Addr → Prop} {lo : Int} {n : Nat} : Src Hs O P (Itr lo n) (rngD lo n) where
  go := fun i H f hi => (show i < n by simpa [rngD] using hi)
  yld := fun i H x H' d P' f n _ hd y => by
    obtain ⟨rfl, rfl⟩ := y
    refine ⟨Ex.refl _, ?_⟩
    rw [rngD, List.getElem?_map] at hd
    cases q : (List.range _)[i]? with
    | none => rw [q] at hd; cases hd
    | some j =>
      rw [q] at hd
      cases hd
      have : j = i := by
        obtain ⟨h1, h2⟩ := List.getElem?_eq_some_iff.mp q
        rw [List.getElem_range] at h2
        exact h2.symm
      subst this
      simp [Rp]
  stop := fun i H f hi => (show n ≤ i by simpa [rngD] using hi)

def itemsD (r : R) : Res (List D) := match r.d with
  | .lst ds => .ok ds
  | .tup ds => .ok ds
  | .str z => if z.length ≤ LIM then .ok (signs z) else .stuck
  | _ => .stuck
def toRes {α : Type} (x : Res R) (f : R → Res α) : Res α := match x with
  | .ok r => f r
  | .exc c pl => .exc c pl
  | .stuck => .stuck
def eSeq (m : Env → Res R) (ρ : Env) : Res (List D) := toRes (m ρ) itemsD
def eSeqX (m : Env → Res R) (ρ : Env) : Res (List D) := toRes (m ρ) fun r => if r.exact then itemsD r else .stuck
def rng1 (r : R) : Res (List D) := match r.d with
  | .int n => if decide (n ≤ 1000000) && decide (-1000000 ≤ n) then .ok (rngD 0 n.toNat) else .stuck
  | _ => .stuck
def rng2 (r r' : R) : Res (List D) := match r.d, r'.d with
  | .int i, .int j => if decide (i ≤ 1000000) && decide (-1000000 ≤ i) && decide (j ≤ 1000000) && decide (-1000000 ≤ j) then .ok (rngD i (j - i).toNat) else .stuck
  | _, _ => .stuck
def eRng (ms : List (Env → Res R)) (ρ : Env) : Res (List D) := match eArgs ms ρ with
  | .ok [r] => rng1 r
  | .ok [r, r'] => rng2 r r'
  | .ok _ => .stuck
  | .exc c pl => .exc c pl
  | .stuck => .stuck
def tI (C : Cn) (W : WX) (x : Bool) (m : Env → Res (List D)) : TI := fun σ H R => ∃ ρ c S, SR C.K σ H ρ c S ∧ match m ρ with
  | .ok ds => ∀ H1 J, Ex H H1 → Src H1 (fun a => x = true ∧ Cel c a) (Mp.Own c S) J ds → R J H1
  | .exc k pl => ∀ H' d, Ex H H' → XP H' (Mp.Own c S) d pl → W (.ref (C.ca k)) d σ H'
  | .stuck => False
def iSeq (K : PySem.W.Frag) (te : TE) : TI := fun σ H R => te σ H fun v H1 => (∃ a xs, v = .ref a ∧ SqL K H1 a xs ∧ R (Itl K a) H1) ∨ (∃ a xs, v = .ref a ∧ SqT K H1 a xs ∧ R (Itt K a) H1) ∨ ∃ z, v = .str z ∧ R (Its z) H1
section
variable {X : Cx} {C : Cn} {W : WX} {tg e : Expr} {te : TE} {m : Env → Res R}
theorem pi_seq (he : PE X e te) : PI X tg e (iSeq X.K te) := by
  refine ⟨fun pins s σ H R I h => ?_⟩
  refine thn (he.run pins s σ H _ I h) fun v s1 ⟨x, H1, I1, r1, q1⟩ => ?_
  rcases q1 with ⟨a, xs, ex, hq, q⟩ | ⟨a, xs, ex, hq, q⟩ | ⟨z, ex, q⟩
  · subst ex
    cases r1
    obtain ⟨its, rv, p, hz⟩ := I1.list hq
    refine wpAny_pyIter_list p.isList ?_
    refine ⟨s1.heap.objs.size, [s1.heap.objs.size], _, _, H1, rfl, I1.kept (t' := s1.toks) fun b o e => Heap.get?_push_of_some _ e, turn_list a _, ⟨_, Heap.get?_push_size _ rfl, rfl, rfl⟩, fun b hb => ?_, q⟩
    have e : b = s1.heap.objs.size := by simpa using hb
    subst e
    exact I1.fpOk (Nat.le_refl _) (I1.hok.fresh (Nat.le_refl _))
  · subst ex
    cases r1
    obtain ⟨its, rv, p, hz⟩ := I1.tuple hq
    refine wpAny_pyIter_tuple (show s1.heap.IsTuple a its.toArray from p) ?_
    refine ⟨s1.heap.objs.size, [s1.heap.objs.size], _, _, H1, rfl, I1.kept (t' := s1.toks) fun b o e => Heap.get?_push_of_some _ e, turn_tuple a _, ⟨_, Heap.get?_push_size _ rfl, rfl, rfl⟩, fun b hb => ?_, q⟩
    have e : b = s1.heap.objs.size := by simpa using hb
    subst e
    exact I1.fpOk (Nat.le_refl _) (I1.hok.fresh (Nat.le_refl _))
  · subst ex
    obtain ⟨t, rfl⟩ := r1
    cases ha : z.cps.all (· < 128)
    · exact wpAny_pyIter_wide ha (pi_one (tk := s1.toks) I1 _ (turn_str _ z t "str_iterator" (.inr rfl)) ⟨_, Heap.get?_push_size _ rfl, rfl, rfl⟩ q)
    · exact wpAny_pyIter_ascii ha (pi_one (tk := s1.toks) I1 _ (turn_str _ z t "str_ascii_iterator" (.inl rfl)) ⟨_, Heap.get?_push_size _ rfl, rfl, rfl⟩ q)
theorem PI.weak {t t' : TI} (h : PI X tg e t) (k : ∀ σ H R, t' σ H R → t σ H R) : PI X tg e t' := ⟨fun pins s σ H R I q => h.run pins s σ H R I (k σ H R q)⟩
theorem seq_src {K : PySem.W.Frag} {H0 H : Hp} {O P : Addr → Prop} {v : V} {r : R} {ds : List D} (hO : ∀ a, O a → P a) (rr : RR K H0 H P v r) (e : itemsD r = .ok ds) (x : r.exact = true ∨ ∀ a, ¬ O a) :
    (∃ a xs, v = .ref a ∧ SqL K H a xs ∧ Src H O P (Itl K a) ds) ∨ (∃ a xs, v = .ref a ∧ SqT K H a xs ∧ Src H O P (Itt K a) ds) ∨ ∃ z, v = .str z ∧ Src H O P (Its z) ds := by
  have np : ∀ {a}, v = .ref a → isSc r.d = false → ¬ O a ∨ ∀ a, ¬ O a := fun {a} ev ns => by
    rcases x with x | x
    · cases r with
      | val d =>
        left; intro z
        have h : Rp H P v d := rr
        cases d with
        | lst ds => simp only [Rp] at h; obtain ⟨a', _, e1, h1, _⟩ := h; rw [ev] at e1; cases e1; exact h1 (hO a z)
        | tup ds => simp only [Rp] at h; obtain ⟨a', _, e1, h1, _⟩ := h; rw [ev] at e1; cases e1; exact h1 (hO a z)
        | dct tk ks ds => cases tk <;> (simp only [Rp] at h; obtain ⟨a', _, e1, h1, _⟩ := h; rw [ev] at e1; cases e1; exact h1 (hO a z))
        | obj C ns ds => simp only [Rp] at h; obtain ⟨a', _, _, e1, h1, _⟩ := h; rw [ev] at e1; cases e1; exact h1 (hO a z)
        | _ => simp [isSc] at ns
      | own d => left; intro z; obtain ⟨a', e1, _, h1, _⟩ := rr; rw [ev] at e1; cases e1; exact h1 (hO a z)
      | bor d => cases x
    · exact .inr x
  unfold itemsD at e
  split at e
  · next ds' e1 =>
    cases e
    obtain ⟨a, vs, hv, h1, h2⟩ := rr.lst e1
    refine .inl ⟨a, vs, hv, h1, src_list hO ?_ h2⟩
    rcases h1 with h1 | h1
    · exact .inl ⟨(np hv (by rw [e1]; rfl)).elim id (fun z => z a), h1⟩
    · exact .inr fun _ => .inr h1
  · next ds' e1 =>
    cases e
    obtain ⟨a, vs, hv, h1, h2⟩ := rr.tup e1
    refine .inr (.inl ⟨a, vs, hv, h1, src_tup hO ?_ h2⟩)
    rcases h1 with h1 | h1
    · exact .inl ⟨(np hv (by rw [e1]; rfl)).elim id (fun z => z a), h1⟩
    · exact .inr fun _ => .inr h1
  · next z e1 =>
    split at e
    · cases e
      obtain ⟨hv, ok⟩ := rr.str e1
      exact .inr (.inr ⟨z, hv, src_str ok⟩)
    · cases e
  · cases e
theorem pi_seqM (hK : X.K = C.K) (he : PE X e (tM C W m)) : PI X tg e (tI C W false (eSeq m)) :=
  PI.weak (pi_seq he) fun σ H R ⟨ρ, c, S, sr, h⟩ => by
    refine ⟨ρ, c, S, sr, ?_⟩
    unfold eSeq toRes at h
    cases e1 : m ρ with
    | stuck => rw [e1] at h; exact h.elim
    | exc k pl => rw [e1] at h; exact h
    | ok r =>
      rw [e1] at h
      simp only at h
      intro v H1 x1 r1
      cases e2 : itemsD r with
      | stuck => rw [e2] at h; exact h.elim
      | exc k pl => unfold itemsD at e2; split at e2 <;> first | cases e2 | (split at e2 <;> cases e2)
      | ok ds =>
        rw [e2] at h
        rw [hK]
        have := seq_src (O := fun a => false = true ∧ Cel c a) (fun a z => by cases z.1) r1 e2 (.inr fun a z => by cases z.1)
        rcases this with ⟨a, xs, h1, h2, h3⟩ | ⟨a, xs, h1, h2, h3⟩ | ⟨z, h1, h3⟩
        · exact .inl ⟨a, xs, h1, h2, h H1 _ x1 h3⟩
        · exact .inr (.inl ⟨a, xs, h1, h2, h H1 _ x1 h3⟩)
        · exact .inr (.inr ⟨z, h1, h H1 _ x1 h3⟩)
theorem pi_seqMX (hK : X.K = C.K) (he : PE X e (tM C W m)) : PI X tg e (tI C W true (eSeqX m)) :=
  PI.weak (pi_seq he) fun σ H R ⟨ρ, c, S, sr, h⟩ => by
    refine ⟨ρ, c, S, sr, ?_⟩
    unfold eSeqX toRes at h
    cases e1 : m ρ with
    | stuck => rw [e1] at h; exact h.elim
    | exc k pl => rw [e1] at h; exact h
    | ok r =>
      rw [e1] at h
      dsimp only at h
      intro v H1 x1 r1
      split at h
      · next ds ed =>
        split at ed
        · next hx =>
          rw [hK]
          have := seq_src (O := fun a => true = true ∧ Cel c a) (fun a z => .inl z.2) r1 ed (.inl hx)
          rcases this with ⟨a, xs, h1, h2, h3⟩ | ⟨a, xs, h1, h2, h3⟩ | ⟨z, h1, h3⟩
          · exact .inl ⟨a, xs, h1, h2, h H1 _ x1 h3⟩
          · exact .inr (.inl ⟨a, xs, h1, h2, h H1 _ x1 h3⟩)
          · exact .inr (.inr ⟨z, h1, h H1 _ x1 h3⟩)
        · cases ed
      · next k pl ed =>
        exfalso
        split at ed
        · unfold itemsD at ed; split at ed <;> first | cases ed | (split at ed <;> cases ed)
        · cases ed
      · exact h.elim
theorem pi_rngM {x : Bool} {es : List Expr} {ms : List (Env → Res R)} {p pos : Pos} (hg : Gl X "range") (hm : X.mg "range" = none) (ha : PA X es (tMs C W (eArgs ms))) (hst : es.all noStar = true) (hl : es.length = 1 ∨ es.length = 2) (hlm : ms.length = es.length) : PI X tg (.Call (.Name "range" p) es [] pos) (tI C W x (eRng ms)) := by
  have road : ∀ σ H (R : It → Hp → Prop) ρ c S, SR C.K σ H ρ c S → (match eRng ms ρ with
    | .ok ds => ∀ H1 J, Ex H H1 → Src H1 (fun a => x = true ∧ Cel c a) (Mp.Own c S) J ds → R J H1
    | .exc k pl => ∀ H' d, Ex H H' → XP H' (Mp.Own c S) d pl → W (.ref (C.ca k)) d σ H'
    | .stuck => False) → RWs C W (Mp.Own c S) σ H (eArgs ms ρ) fun vs H1 => ∃ rs, vs.length = rs.length ∧ Ex H H1 ∧ Paired (RR C.K H H1 (Mp.Own c S)) vs rs ∧ eArgs ms ρ = .ok rs := by
    intro σ H R ρ c S sr h
    unfold eRng at h
    cases e1 : eArgs ms ρ with
    | stuck => rw [e1] at h; exact h.elim
    | exc k pl => rw [e1] at h; exact h
    | ok rs => exact fun vs H1 x1 r1 => ⟨rs, Paired.length r1, x1, r1, rfl⟩
  have lenA : ∀ (ms : List (Env → Res R)) (ρ : Env) (rs : List R), eArgs ms ρ = .ok rs → rs.length = ms.length := by
    intro ms
    induction ms with
    | nil => intro ρ rs e; simp [eArgs] at e; subst e; rfl
    | cons m ms ih =>
      intro ρ rs e
      unfold eArgs at e
      split at e
      · split at e
        · next r _ rs' e2 => cases e; rw [List.length_cons, List.length_cons, ih _ _ e2]
        · cases e
        · cases e
      · cases e
      · cases e
  match es, hl, ha, hst, hlm with
  | [a], _, ha, hst, hlm =>
    simp only [List.all_cons, List.all_nil, Bool.and_true] at hst
    refine PI.weak (pi_range1 hg hm ha (by rw [starEach_cons hst]; rfl)) fun σ H R ⟨ρ, c, S, sr, h⟩ => ⟨ρ, c, S, sr, (road σ H R ρ c S sr h).imp fun vs H1 ⟨rs, _, x1, r1, er⟩ => ?_⟩
    have l := lenA ms ρ rs er
    rw [hlm] at l
    match rs, l, r1, er with
    | [r], _, r1, er =>
      obtain ⟨v, rfl, rv⟩ := paired1 r1
      unfold eRng at h
      rw [er] at h
      simp only [rng1] at h
      split at h
      · next ds ed =>
        split at ed
        · next n en =>
          split at ed
          · next cc =>
            cases ed
            rw [Bool.and_eq_true] at cc
            have c1 := of_decide_eq_true cc.1
            have c2 := of_decide_eq_true cc.2
            exact ⟨n, by rw [rv.int en], by omega, by omega, h H1 _ x1 src_rng⟩
          · cases ed
        · cases ed
      · next k pl ed => split at ed <;> first | cases ed | (split at ed <;> cases ed)
      · exact h.elim
  | [a, b], _, ha, hst, hlm =>
    simp only [List.all_cons, List.all_nil, Bool.and_true, Bool.and_eq_true] at hst
    refine PI.weak (pi_range2 hg hm ha (by rw [starEach_cons hst.1, starEach_cons hst.2]; rfl) (by rw [starEach_cons hst.2]; rfl)) fun σ H R ⟨ρ, c, S, sr, h⟩ => ⟨ρ, c, S, sr, (road σ H R ρ c S sr h).imp fun vs H1 ⟨rs, _, x1, r1, er⟩ => ?_⟩
    have l := lenA ms ρ rs er
    rw [hlm] at l
    match rs, l, r1, er with
    | [r, r'], _, r1, er =>
      obtain ⟨v, v', rfl, rv, rv'⟩ := paired2 r1
      unfold eRng at h
      rw [er] at h
      simp only [rng2] at h
      split at h
      · next ds ed =>
        split at ed
        · next i j ei ej =>
          split at ed
          · next cc =>
            cases ed
            rw [Bool.and_eq_true, Bool.and_eq_true, Bool.and_eq_true] at cc
            have c1 := of_decide_eq_true cc.1.1.1
            have c2 := of_decide_eq_true cc.1.1.2
            have c3 := of_decide_eq_true cc.1.2
            have c4 := of_decide_eq_true cc.2
            exact ⟨i, j, by rw [rv.int ei, rv'.int ej], ⟨by omega, by omega, by omega, by omega⟩, h H1 _ x1 src_rng⟩
          · cases ed
        · cases ed
      · next k pl ed => split at ed <;> first | cases ed | (split at ed <;> cases ed)
      · exact h.elim
end
end Mp

namespace Mp
open PySem L2

def setAll {α : Type} : List (Option α) → List Nat → List α → List (Option α)
  | l, i :: is, x :: xs => setAll (l.set i (some x)) is xs
  | l, _, _ => l
theorem setAll_len {α : Type} : ∀ (is : List Nat) (xs : List α) (l : List (Option α)), (setAll l is xs).length = l.length
  | [], _, _ => by simp [setAll]
  | _ :: _, [], _ => by simp [setAll]
  | i :: is, x :: xs, l => by simp only [setAll]; rw [setAll_len is xs]; simp
def gNames : List Nat → TGs
  | [] => gNil
  | i :: is => gCons (gName i) (gNames is)
theorem gNames_ok : ∀ (is : List Nat) (vs : List V) (σ : L2.St) (H : Hp) (Q : L2.St → Hp → Prop), vs.length = is.length → Q (setAll σ is vs) H → gNames is vs σ H Q
  | [], [], σ, H, Q, _, q => ⟨rfl, q⟩
  | [], _ :: _, _, _, _, h, _ => by simp at h
  | _ :: _, [], _, _, _, h, _ => by simp at h
  | i :: is, v :: vs, σ, H, Q, h, q => ⟨v, vs, rfl, gNames_ok is vs _ H Q (by simpa using h) q⟩
def tgNames (N : List Str) : List Expr → Option (List (Str × Nat))
  | [] => some []
  | .Name x _ :: es => match N.findIdx? (· == x), tgNames N es with
    | some i, some r => some ((x, i) :: r)
    | _, _ => none
  | _ => none
theorem find_ix {N : List Str} {x : Str} {i : Nat} (h : N.findIdx? (· == x) = some i) : N[i]? = some x := by
  obtain ⟨h1, h2, _⟩ := List.findIdx?_eq_some_iff_getElem.mp h
  rw [List.getElem?_eq_getElem h1]
  exact congrArg some (eq_of_beq h2)
section
variable {X : Cx}
def StOk (X : Cx) (l : List (Str × Nat)) : Prop := ∀ p ∈ l, Loc X.env.scope p.1 ∧ (X.fn p.1 = true ∨ X.env.scope.names.lookup p.1 = some .local)
theorem pgs_of (hN : X.N.Nodup) : ∀ {es : List Expr} {l : List (Str × Nat)}, tgNames X.N es = some l → StOk X l → PGs X es (gNames (l.map (·.2)))
  | [], l, h, _ => by simp [tgNames] at h; subst h; exact pgs_nil
  | e :: es, l, h, ok => by
    cases e <;> try (simp [tgNames] at h; done)
    next x p =>
    simp only [tgNames] at h
    split at h
    · next i r e1 e2 =>
      cases h
      obtain ⟨h1, h2⟩ := ok (x, i) List.mem_cons_self
      exact pgs_cons (pg_name hN (find_ix e1) h1 h2) (pgs_of hN e2 fun p hp => ok p (List.mem_cons_of_mem _ hp)) rfl
    · cases h
theorem tgNames_each {N : List Str} {env : PySem.Env} : ∀ {es : List Expr} {l : List (Str × Nat)}, tgNames N es = some l → (assignEach es env).length = l.length ∧ (assignEach es env).findIdx? (·.1) = none
  | [], l, h => by simp [tgNames] at h; subst h; exact ⟨rfl, rfl⟩
  | e :: es, l, h => by
    cases e <;> try (simp [tgNames] at h; done)
    next x p =>
    simp only [tgNames] at h
    split at h
    · next i r e1 e2 =>
      cases h
      obtain ⟨q1, q2⟩ := tgNames_each (env := env) e2
      refine ⟨by show (assignEach es env).length + 1 = _; rw [q1]; rfl, ?_⟩
      show List.findIdx? (·.1) ((false, _) :: assignEach es env) = none
      rw [List.findIdx?_cons, q2]
      rfl
    · cases h
end
inductive Tg where
  | one (i : Nat) | many (is : List Nat)
def Tg.slots : Tg → List Nat
  | .one i => [i]
  | .many is => is
def vals (ds : List D) : List R := ds.map .val
def bindD (t : Tg) (d : D) (ρ : Env) : Option Env := match t with
  | .one i => some (ρ.set i (some (.val d)))
  | .many is => match d with
    | .tup ds => if ds.length = is.length then some (setAll ρ is (vals ds)) else none
    | _ => none
def tgT (K : PySem.W.Frag) : Tg → TG
  | .one i => gName i
  | .many is => gTup K is.length (gNames is)
theorem tup_same {K : PySem.W.Frag} {H : Hp} {P : Addr → Prop} {a : Addr} {ds : List D} (h : Rp H P (.ref a) (.tup ds)) : ∃ vs, SqT K H a vs ∧ Rps H P vs ds := by
  simp only [Rp] at h
  obtain ⟨a', vs, e, _, h1, h2⟩ := h
  cases e
  exact ⟨vs, SqT.of h1, h2⟩

def wipeE (ρ : Env) : List Nat → Env
  | [] => ρ
  | i :: is => (wipeE ρ is).set i none
theorem wipeE_len (ρ : Env) : ∀ is, (wipeE ρ is).length = ρ.length
  | [] => rfl
  | i :: is => by rw [wipeE, List.length_set, wipeE_len]
theorem wipeE_some {ρ : Env} {i : Nat} {r : R} : ∀ {is : List Nat}, (wipeE ρ is)[i]? = some (some r) → ρ[i]? = some (some r) ∧ i ∉ is
  | [], h => ⟨h, by simp⟩
  | j :: is, h => by
    unfold wipeE at h
    by_cases hi : j = i
    · subst hi
      by_cases hv : j < (wipeE ρ is).length
      · rw [List.getElem?_set_self hv] at h; cases h
      · rw [List.getElem?_eq_none (by simpa using hv)] at h; cases h
    · rw [List.getElem?_set_ne hi] at h
      obtain ⟨h1, h2⟩ := wipeE_some h
      exact ⟨h1, by simp only [List.mem_cons, not_or]; exact ⟨fun e => hi e.symm, h2⟩⟩
section
variable {K : PySem.W.Frag} {σ : L2.St} {H H' : Hp} {ρ : Env} {c : Nat → List Addr} {S : Addr → Prop}
theorem RS.move {B B' P P' : Addr → Prop} (kB : ∀ a o, ¬ B a → H a = some o → H' a = some o) (nB : ∀ a o, ¬ B a → H a = some o → ¬ B' a) (k : ∀ a o, ¬ P a → H a = some o → H' a = some o)
    (n : ∀ a o, ¬ P a → H a = some o → ¬ P' a) {cell : List Addr} (kc : ∀ a ∈ cell, H' a = H a) {v : V} {r : R} (h : RS K H B P cell v r) : RS K H' B' P' cell v r := by
  cases r with
  | val d => exact ⟨h.1, h.2.move k n⟩
  | own d => obtain ⟨a, h1, h2, h3⟩ := h; exact ⟨a, h1, h2, h3.move k n (kc a (by rw [h2]; simp))⟩
  | bor d => exact ⟨h.1, h.2.move kB nB k n⟩
theorem SR.wipe (h : SR K σ H ρ c S) (is : List Nat) : SR K (L2.wipe σ is) H (wipeE ρ is) (fun i => if i ∈ is then [] else c i) (fun a => S a ∨ ∃ i, i ∈ is ∧ a ∈ c i) where
  len := by rw [wipeE_len, L2.wipe_length, h.len]
  rep := fun i r e => by
    obtain ⟨e1, e2⟩ := wipeE_some e
    obtain ⟨v, h1, h2⟩ := h.rep i r e1
    refine ⟨v, by rw [L2.wipe_out e2]; exact h1, ?_⟩
    simp only [if_neg e2]
    refine h2.move (fun _ _ _ q => q) (fun a o n _ z => n ?_) (fun _ _ _ q => q) (fun a o n _ z => n ?_) (fun _ _ => rfl)
    · obtain ⟨j, hj⟩ := z
      dsimp only at hj
      by_cases hji : j ∈ is
      · rw [if_pos hji] at hj; cases hj
      · rw [if_neg hji] at hj; exact ⟨j, hj⟩
    · rcases z with ⟨j, hj⟩ | z | ⟨j, _, hj⟩
      · dsimp only at hj
        by_cases hji : j ∈ is
        · rw [if_pos hji] at hj; cases hj
        · rw [if_neg hji] at hj; exact .inl ⟨j, hj⟩
      · exact .inr z
      · exact .inl ⟨j, hj⟩
  off := fun i e => by
    by_cases hi : i ∈ is
    · simp only [if_pos hi]
    · simp only [if_neg hi]
      refine h.off i fun r z => ?_
      refine e r ?_
      have : ∀ is : List Nat, i ∉ is → (wipeE ρ is)[i]? = ρ[i]? := by
        intro is
        induction is with
        | nil => intro _; rfl
        | cons j is ih =>
          intro hn
          simp only [List.mem_cons, not_or] at hn
          rw [wipeE, List.getElem?_set_ne (fun z => hn.1 z.symm), ih hn.2]
      rw [this is hi, z]
  dis := fun i j a h1 h2 => by
    by_cases hi : i ∈ is
    · rw [if_pos hi] at h1; cases h1
    · by_cases hj : j ∈ is
      · rw [if_pos hj] at h2; cases h2
      · rw [if_neg hi] at h1; rw [if_neg hj] at h2; exact h.dis i j a h1 h2
  sep := fun i a h1 z => by
    by_cases hi : i ∈ is
    · rw [if_pos hi] at h1; cases h1
    · rw [if_neg hi] at h1
      rcases z with z | ⟨j, hj, z⟩
      · exact h.sep i a h1 z
      · have := h.dis i j a h1 z; subst this; exact hi hj
  trk := fun a z => by
    rcases z with ⟨j, hj⟩ | z | ⟨j, _, hj⟩
    · dsimp only at hj
      by_cases hji : j ∈ is
      · rw [if_pos hji] at hj; cases hj
      · rw [if_neg hji] at hj; exact h.trk a (.inl ⟨j, hj⟩)
    · exact h.trk a (.inr z)
    · exact h.trk a (.inl ⟨j, hj⟩)
theorem own_wipe {is : List Nat} {a : Addr} : Mp.Own (fun i => if i ∈ is then [] else c i) (fun a => S a ∨ ∃ i, i ∈ is ∧ a ∈ c i) a ↔ Mp.Own c S a := by
  constructor
  · rintro (⟨j, hj⟩ | z | ⟨j, _, hj⟩)
    · dsimp only at hj
      by_cases hji : j ∈ is
      · rw [if_pos hji] at hj; cases hj
      · rw [if_neg hji] at hj; exact .inl ⟨j, hj⟩
    · exact .inr z
    · exact .inl ⟨j, hj⟩
  · rintro (⟨j, hj⟩ | z)
    · by_cases hji : j ∈ is
      · exact .inr (.inr ⟨j, hji, hj⟩)
      · exact .inl ⟨j, by dsimp only; rw [if_neg hji]; exact hj⟩
    · exact .inr (.inl z)
theorem SR.withS (h : SR K σ H ρ c S) {p : Addr} (hp : H p = none) (e : Ex H H') (hp' : ∃ o, H' p = some o) : SR K σ H' ρ c (fun a => S a ∨ a = p) where
  len := h.len
  rep := fun i r q => by
    obtain ⟨v, h1, h2⟩ := h.rep i r q
    refine ⟨v, h1, h2.move (fun a o _ q => e a o q) (fun _ _ n _ => n) (fun a o _ q => e a o q) (fun a o n q z => ?_) (fun a ha => ?_)⟩
    · rcases z with z | z | z
      · exact n (.inl z)
      · exact n (.inr z)
      · subst z; rw [hp] at q; cases q
    · obtain ⟨o, z⟩ := h.trk a (.inl ⟨i, ha⟩)
      rw [z, e a o z]
  off := h.off
  dis := h.dis
  sep := fun i a h1 z => by
    rcases z with z | z
    · exact h.sep i a h1 z
    · subst z
      obtain ⟨o, q⟩ := h.trk a (.inl ⟨i, h1⟩)
      rw [hp] at q; cases q
  trk := fun a z => by
    rcases z with z | z | z
    · obtain ⟨o, q⟩ := h.trk a (.inl z); exact ⟨o, e a o q⟩
    · obtain ⟨o, q⟩ := h.trk a (.inr z); exact ⟨o, e a o q⟩
    · subst z; exact hp'
theorem SR.setV (h : SR K σ H ρ c S) {i : Nat} {v : V} {d : D} (hc : c i = []) (r : Rp H (Mp.Own c S) v d) : SR K (σ.set i (some v)) H (ρ.set i (some (.val d))) c S where
  len := by simp [h.len]
  rep := fun j r' e => by
    by_cases hj : i = j
    · subst hj
      by_cases hi : i < ρ.length
      · rw [List.getElem?_set_self hi] at e
        cases e
        exact ⟨v, List.getElem?_set_self (by rw [← h.len]; exact hi), hc, r⟩
      · rw [List.getElem?_eq_none (by simpa using hi)] at e; cases e
    · rw [List.getElem?_set_ne hj] at e
      obtain ⟨w, h1, h2⟩ := h.rep j r' e
      exact ⟨w, by rw [List.getElem?_set_ne hj]; exact h1, h2⟩
  off := fun j e => by
    by_cases hj : i = j
    · subst hj; exact hc
    · exact h.off j fun r z => e r (by rw [List.getElem?_set_ne hj]; exact z)
  dis := h.dis
  sep := h.sep
  trk := h.trk
theorem SR.setAllV : ∀ {is : List Nat} {vs : List V} {ds : List D} {σ : L2.St} {ρ : Env}, SR K σ H ρ c S → (∀ i ∈ is, c i = []) → Rps H (Mp.Own c S) vs ds → SR K (setAll σ is vs) H (setAll ρ is (vals ds)) c S
  | [], vs, ds, σ, ρ, h, _, _ => by simpa [setAll] using h
  | i :: is, [], [], σ, ρ, h, _, _ => by simpa [setAll, vals] using h
  | i :: is, [], _ :: _, _, _, _, _, r => by simp [Rps] at r
  | i :: is, _ :: _, [], _, _, _, _, r => by simp [Rps] at r
  | i :: is, v :: vs, d :: ds, σ, ρ, h, hc, r => by
    simp only [Rps] at r
    simp only [setAll, vals, List.map_cons]
    exact SR.setAllV (h.setV (hc i List.mem_cons_self) r.1) (fun j hj => hc j (List.mem_cons_of_mem _ hj)) r.2
end
theorem wipe_get {σ : L2.St} {j : Nat} : ∀ {is : List Nat}, j ∈ is → j < σ.length → (L2.wipe σ is)[j]? = some none
  | i :: is, h, hl => by
    unfold L2.wipe
    by_cases hi : i = j
    · subst hi; exact List.getElem?_set_self (by rw [L2.wipe_length]; exact hl)
    · rw [List.getElem?_set_ne hi]
      exact wipe_get ((List.mem_cons.mp h).elim (fun z => absurd z.symm hi) id) hl
theorem setAll_out {α : Type} {j : Nat} : ∀ {is : List Nat} {vs : List α} {l : List (Option α)}, j ∉ is → (setAll l is vs)[j]? = l[j]?
  | [], _, _, _ => by simp [setAll]
  | _ :: _, [], _, _ => by simp [setAll]
  | i :: is, v :: vs, l, h => by
    simp only [List.mem_cons, not_or] at h
    simp only [setAll]
    rw [setAll_out h.2, List.getElem?_set_ne (fun z => h.1 z.symm)]
theorem wipe_setAll (σ : L2.St) (is : List Nat) (vs : List V) : L2.wipe (setAll (L2.wipe σ is) is vs) is = L2.wipe σ is := by
  apply List.ext_getElem?
  intro j
  by_cases hj : j ∈ is
  · by_cases hl : j < σ.length
    · rw [wipe_get hj (by rw [setAll_len, L2.wipe_length]; exact hl), wipe_get hj hl]
    · rw [List.getElem?_eq_none (by rw [L2.wipe_length, setAll_len, L2.wipe_length]; omega), List.getElem?_eq_none (by rw [L2.wipe_length]; omega)]
  · rw [L2.wipe_out hj, setAll_out hj]

def lcT : Option (Env → Res R) → Env → Res Bool
  | none, _ => .ok true
  | some t, ρ => match t ρ with
    | .ok r => (match asBl r with
      | some b => .ok b
      | none => .stuck)
    | .exc k pl => .exc k pl
    | .stuck => .stuck
def lcGo (b : D → Option Env) (tt : Option (Env → Res R)) (elt : Env → Res R) : List D → List D → Res (List D)
  | [], acc => .ok acc
  | d :: ds, acc => match b d with
    | none => .stuck
    | some ρ1 => match lcT tt ρ1 with
      | .ok true => (match elt ρ1 with
        | .ok r => (match r.froz with
          | some d' => if acc.length < LIM then lcGo b tt elt ds (acc ++ [d']) else .stuck
          | none => .stuck)
        | .exc k pl => .exc k pl
        | .stuck => .stuck)
      | .ok false => lcGo b tt elt ds acc
      | .exc k pl => .exc k pl
      | .stuck => .stuck
def eLc (t : Tg) (src : Env → Res (List D)) (tt : Option (Env → Res R)) (elt : Env → Res R) (ρ : Env) : Res R := match src ρ with
  | .ok ds => (match lcGo (fun d => bindD t d (wipeE ρ t.slots)) tt elt ds [] with
    | .ok acc => .ok (.own (.lst acc))
    | .exc c pl => .exc c pl
    | .stuck => .stuck)
  | .exc c pl => .exc c pl
  | .stuck => .stuck
def WN : WX := fun _ _ _ _ => False
def tTt (C : Cn) (W : WX) : Option (Env → Res R) → TT
  | none => tYes
  | some t => tMt C W t
def WBl (W : WX) (σ : L2.St) : WX := fun cls d _ H => W cls d σ H
theorem xp_less {H : Hp} {P P' : Addr → Prop} {d : Option Addr} {pl : List (Str × D)} (hP : ∀ a, P a → P' a) (h : XP H P' d pl) : XP H P d pl := h.imp id fun ⟨dd, fs, h1, h0, h2, h3, r⟩ => ⟨dd, fs, h1, fun z => h0 (hP dd z), h2, h3, r.less hP⟩
section
variable {C : Cn} {W : WX}
theorem lc_inner {t : Tg} {tt : Option (Env → Res R)} {elt : Env → Res R} {σ : L2.St} {H1 : Hp} {Q : VK} {ρ : Env} {c : Nat → List Addr} {S : Addr → Prop} {J : It} {ds : List D} {res : Res (List D)} {W' : WX} (sr : SR C.K σ H1 ρ c S) (hJ : Src H1 (fun a => false = true ∧ Cel c a) (Mp.Own c S) J ds)
    (eF : lcGo (fun d => bindD t d (wipeE ρ t.slots)) tt elt ds [] = res) (nS : res ≠ .stuck) (hE : ∀ k pl, res = .exc k pl → ∀ σ2 H' d, Ex H1 H' → XP H' (Mp.Own c S) d pl → W' (.ref (C.ca k)) d σ2 H')
    (hQ : ∀ accF, res = .ok accF → ∀ D H2, Ex H1 H2 → H1 D = none → ¬ Mp.Own c S D → (∃ vs, H2 D = some (.lst vs) ∧ Rps H2 (fun a => Mp.Own c S a ∨ a = D) vs accF) → Q (.ref D) H2) :
    ∀ D, H1 D = none → ∃ W : Nat → Nat → Hp → Prop, (∃ m, W 0 m (upd H1 D (.lst []))) ∧ ∀ i m H, W i m H →
  (J.stop i H ∧ Q (.ref D) H) ∨ (J.go i H ∧ ∃ Nx : Hp → Prop, (∀ H', Nx H' → ∃ m', m' < m ∧ W (i + 1) m' H') ∧ ∀ x H', J.yld i H x H' → tgT C.K t x (wipe σ t.slots) H' fun σ2 H2 => wipe σ2 t.slots = wipe σ t.slots ∧ tTt C W' tt σ2 H2 fun b H3 =>
    if b = true then tM C W' elt σ2 H3 fun y H4 => ∃ acc, H4 D = some (.lst acc) ∧ acc.length < sizeLine ∧ Nx (upd H4 D (.lst (acc ++ [y]))) else Nx H3) := by
  intro D hD
  -- the state within
  let is := t.slots
  let c' : Nat → List Addr := fun i => if i ∈ is then [] else c i
  let S0 : Addr → Prop := fun a => S a ∨ ∃ i, i ∈ is ∧ a ∈ c i
  let S' : Addr → Prop := fun a => S0 a ∨ a = D
  have sr0 : SR C.K (L2.wipe σ is) H1 (wipeE ρ is) c' S0 := sr.wipe is
  have hPP : ∀ a, Mp.Own c' S' a → Mp.Own c S a ∨ H1 a = none := fun a z => by
    rcases z with z | z | z
    · exact .inl (own_wipe.mp (.inl z))
    · exact .inl (own_wipe.mp (.inr z))
    · subst z; exact .inr hD
  have hPQ : ∀ a, Mp.Own c S a → Mp.Own c' S' a := fun a z => (own_wipe.mpr z).imp id .inl
  have hfr : ∀ H2, Ex H1 H2 → Fr (fun a => false = true ∧ Cel c a) H1 H2 := fun H2 e a o _ q => e a o q
  refine ⟨fun i m H2 => m = ds.length - i ∧ i ≤ ds.length ∧ ∃ vs acc, H2 D = some (.lst vs) ∧ Rps H2 (Mp.Own c' S') vs acc ∧ Ex H1 H2 ∧ lcGo (fun d => bindD t d (wipeE ρ is)) tt elt (ds.drop i) acc = res,
    ⟨ds.length, by simp, Nat.zero_le _, [], [], upd_same, by simp [Rps], Ex.new hD, by simpa using eF⟩, ?_⟩
  rintro i m H2 ⟨rfl, hi, vs, acc, h2, r2, x2, g2⟩
  have srH : SR C.K (L2.wipe σ is) H2 (wipeE ρ is) c' S' := sr0.withS hD x2 ⟨_, h2⟩
  by_cases hlt : i < ds.length
  · refine .inr ⟨hJ.go i H2 (hfr H2 x2) hlt, fun H3 => i + 1 ≤ ds.length ∧ ∃ vs acc, H3 D = some (.lst vs) ∧ Rps H3 (Mp.Own c' S') vs acc ∧ Ex H1 H3 ∧ lcGo (fun d => bindD t d (wipeE ρ is)) tt elt (ds.drop (i + 1)) acc = res,
      fun H3 ⟨z, w⟩ => ⟨ds.length - (i + 1), by omega, rfl, z, w⟩, fun x H3 y => ?_⟩
    obtain ⟨x3, rx⟩ := hJ.yld i H2 x H3 ds[i] (Mp.Own c' S') (hfr H2 x2) hPP srH.trk (List.getElem?_eq_getElem hlt) y
    rw [List.drop_eq_getElem_cons hlt] at g2
    unfold lcGo at g2
    split at g2
    · exact absurd g2.symm nS
    · next ρ1 eb =>
      -- the target
      have key : ∀ (k : L2.St → Hp → Prop), (∀ σ2, L2.wipe σ2 is = L2.wipe σ is → SR C.K σ2 H3 ρ1 c' S' → k σ2 H3) → tgT C.K t x (L2.wipe σ is) H3 k := by
        intro k hk
        have srX := srH.ex x3
        cases t with
        | one j =>
          simp only [bindD, Option.some.injEq] at eb
          subst eb
          refine hk _ ?_ (srX.setV (by show (if j ∈ [j] then [] else c j) = []; simp) rx)
          have := wipe_setAll σ [j] [x]
          exact this
        | many js =>
          simp only [bindD] at eb
          split at eb
          · next es ed =>
            split at eb
            · next hl =>
              cases eb
              rw [ed] at rx
              have rx' := rx
              simp only [Rp] at rx'
              obtain ⟨a, ws, rfl, _, _, _⟩ := rx'
              obtain ⟨ws, q1, q2⟩ := tup_same (K := C.K) rx
              have hlen := q2.length
              refine ⟨a, ws, rfl, q1, by rw [hlen, hl], gNames_ok js ws _ _ _ (by rw [hlen, hl]) (hk _ (wipe_setAll σ js ws) (srX.setAllV (fun j hj => by show (if j ∈ js then [] else c j) = []; rw [if_pos hj]) q2))⟩
            · cases eb
          · cases eb
      refine key _ fun σ2 hw sr2 => ⟨hw, ?_⟩
      -- the test
      have body : ∀ H4, Ex H3 H4 → (match elt ρ1 with
          | .ok r => (match r.froz with
            | some d' => if acc.length < LIM then lcGo (fun d => bindD t d (wipeE ρ is)) tt elt (ds.drop (i + 1)) (acc ++ [d']) else .stuck
            | none => .stuck)
          | .exc k pl => .exc k pl
          | .stuck => .stuck) = res → tM C W' elt σ2 H4 fun y H5 => ∃ acc, H5 D = some (.lst acc) ∧ acc.length < sizeLine ∧ (i + 1 ≤ ds.length ∧ ∃ vs acc', (upd H5 D (.lst (acc ++ [y]))) D = some (.lst vs) ∧ Rps (upd H5 D (.lst (acc ++ [y]))) (Mp.Own c' S') vs acc' ∧ Ex H1 (upd H5 D (.lst (acc ++ [y]))) ∧ lcGo (fun d => bindD t d (wipeE ρ is)) tt elt (ds.drop (i + 1)) acc' = res) := by
        intro H4 x4 g
        refine ⟨ρ1, c', S', sr2.ex x4, ?_⟩
        cases e2 : elt ρ1 with
        | stuck => rw [e2] at g; exact absurd g.symm nS
        | exc k pl =>
          rw [e2] at g
          exact fun H5 d x5 p => hE k pl g.symm σ2 H5 d (x2.trans (x3.trans (x4.trans x5))) (xp_less hPQ p)
        | ok r =>
          rw [e2] at g
          simp only at g
          intro y H5 x5 r5
          split at g
          · next d' ed =>
            split at g
            · next hl =>
              have x25 : Ex H2 H5 := x3.trans (x4.trans x5)
              have fy := r5.froz ed
              have ra := r2.ex x25
              have hk : ∀ a o, ¬ Mp.Own c' S' a → H5 a = some o → (upd H5 D (.lst (vs ++ [y]))) a = some o := fun a o n q => by
                rw [upd_ne (fun z => n (.inr (.inr z)))]; exact q
              refine ⟨vs, x25 _ _ h2, by rw [r2.length]; exact lim_lt hl, hlt, vs ++ [y], acc ++ [d'], upd_same, ?_, ?_, g⟩
              · exact (ra.append (Rps.one fy)).move hk fun _ _ n _ => n
              · intro a o q
                rw [upd_ne (fun z => by subst z; rw [hD] at q; cases q)]
                exact x25 a o (x2 a o q)
            · exact absurd g.symm nS
          · exact absurd g.symm nS
      cases tt with
      | none =>
        simp only [lcT] at g2
        simp only [tTt, tYes, if_true]
        exact body H3 (Ex.refl _) g2
      | some tt =>
        refine ⟨ρ1, c', S', sr2, ?_⟩
        simp only [lcT] at g2
        cases e2 : tt ρ1 with
        | stuck => rw [e2] at g2; exact absurd g2.symm nS
        | exc k pl =>
          rw [e2] at g2
          exact fun H5 d x5 p => hE k pl g2.symm σ2 H5 d (x2.trans (x3.trans x5)) (xp_less hPQ p)
        | ok r =>
          rw [e2] at g2
          simp only at g2
          intro v H4 x4 r4
          cases eb : asBl r with
          | none => rw [eb] at g2; exact absurd g2.symm nS
          | some b =>
            rw [eb] at g2
            cases b with
            | true => exact ⟨true, asBl_rr r4 eb, iteT (body H4 x4 g2)⟩
            | false => exact ⟨false, asBl_rr r4 eb, iteF ⟨hlt, vs, acc, (x3.trans x4) _ _ h2, r2.ex (x3.trans x4), x2.trans (x3.trans x4), g2⟩⟩
  · have ei : i = ds.length := by omega
    subst ei
    rw [List.drop_length] at g2
    simp only [lcGo] at g2
    refine .inl ⟨hJ.stop _ H2 (hfr H2 x2) (Nat.le_refl _), hQ acc g2.symm D H2 x2 hD (fun z => ?_) ⟨vs, h2, r2.less fun a z => ?_⟩⟩
    · obtain ⟨o, q⟩ := sr.trk D z
      rw [hD] at q; cases q
    · rcases z with z | z
      · exact hPQ a z
      · exact .inr (.inr z)
theorem lc_read {t : Tg} {src : Env → Res (List D)} {tt : Option (Env → Res R)} {elt : Env → Res R} {σ : L2.St} {H : Hp} {Q : VK} (h : tM C W (eLc t src tt elt) σ H Q) :
    tLc (tI C W false src) (tgT C.K t) (tTt C (WBl W σ) tt) (tM C (WBl W σ) elt) t.slots σ H Q := by
  obtain ⟨ρ, c, S, sr, h⟩ := h
  refine ⟨ρ, c, S, sr, ?_⟩
  unfold eLc at h
  cases e1 : src ρ with
  | stuck => rw [e1] at h; exact h.elim
  | exc k pl => rw [e1] at h; exact h
  | ok ds =>
    rw [e1] at h
    simp only at h
    intro H1 J x1 hJ
    cases eF : lcGo (fun d => bindD t d (wipeE ρ t.slots)) tt elt ds [] with
    | stuck => rw [eF] at h; exact h.elim
    | exc k pl =>
      rw [eF] at h
      exact lc_inner (sr.ex x1) hJ eF (by simp) (fun k' pl' e σ2 H' d x2 p => by cases e; exact h H' d (x1.trans x2) p) fun accF e => nomatch e
    | ok accF =>
      rw [eF] at h
      exact lc_inner (sr.ex x1) hJ eF (by simp) (fun k pl e => nomatch e) fun accF' e D H2 x2 hD nP ⟨vs, h2, r2⟩ => by
        cases e
        exact h (.ref D) H2 (x1.trans x2) ⟨D, rfl, x1.none hD, nP, vs, h2, r2⟩
end
end Mp

namespace Mp
open PySem L2

inductive Out where
  | nx (ρ : Env) | rt (r : R) (ρ : Env) | bk (ρ : Env) | ct (ρ : Env) | ex (c : Nat) (pl : List (Str × D)) (ρ : Env) | stuck
structure Stp (io : List Nat) (σ : L2.St) (ρ : Env) (c : Nat → List Addr) (H : Hp) (σ' : L2.St) (ρ' : Env) (c' : Nat → List Addr) (H' : Hp) : Prop where
  fr : Fr (Cel c) H H'
  tr : ∀ a o, H a = some o → ∃ o', H' a = some o'
  nw : ∀ a, Cel c' a → Cel c a ∨ H a = none
  bo : ∀ (i : Nat) (d : Mp.D), ρ'[i]? = some (some (R.bor d)) → ρ[i]? = some (some (R.bor d)) ∧ σ'[i]? = σ[i]?
  io : ∀ i ∈ io, c' i = c i
def Abr (io : List Nat) (c : Nat → List Addr) (S : Addr → Prop) (a : Addr) : Prop := S a ∨ ∃ i, i ∈ io ∧ a ∈ c i
theorem Abr.own {io : List Nat} {c : Nat → List Addr} {S : Addr → Prop} {a : Addr} (h : Abr io c S a) : Mp.Own c S a := h.elim .inr fun ⟨i, _, z⟩ => .inl ⟨i, z⟩
def RT (K : PySem.W.Frag) (io : List Nat) (c : Nat → List Addr) (S : Addr → Prop) (H H' : Hp) (v : V) : R → Prop
  | .val d => Rp H' (Abr io c S) v d
  | .own d => ∃ a, v = .ref a ∧ (Cel c a ∨ H a = none) ∧ ¬ Abr io c S a ∧ Cell H' (fun b => Abr io c S b ∨ b = a) a d
  | .bor d => Lent K H' (Abr io c S) v d
section
variable {io : List Nat} {σ σ1 σ2 : L2.St} {ρ ρ1 ρ2 : Env} {c c1 c2 : Nat → List Addr} {H H1 H2 : Hp} {S : Addr → Prop} {K : PySem.W.Frag} {v : V} {r : R}
theorem Stp.ex (e : Ex H H1) : Stp io σ ρ c H σ ρ c H1 := ⟨fun a o _ q => e a o q, fun a o q => ⟨o, e a o q⟩, fun _ q => .inl q, fun _ _ q => ⟨q, rfl⟩, fun _ _ => rfl⟩
theorem Stp.refl : Stp io σ ρ c H σ ρ c H := Stp.ex (Ex.refl _)
theorem Stp.trans (a : Stp io σ ρ c H σ1 ρ1 c1 H1) (b : Stp io σ1 ρ1 c1 H1 σ2 ρ2 c2 H2) : Stp io σ ρ c H σ2 ρ2 c2 H2 where
  fr := fun x o n q => b.fr x o (fun z => (a.nw x z).elim n fun z => by rw [z] at q; cases q) (a.fr x o n q)
  tr := fun x o q => let ⟨o1, q1⟩ := a.tr x o q; b.tr x o1 q1
  nw := fun x z => (b.nw x z).elim (fun z => a.nw x z) fun z => .inr (by
    cases q : H x with
    | none => rfl
    | some o => obtain ⟨o1, q1⟩ := a.tr x o q; rw [z] at q1; cases q1)
  bo := fun i d q => let ⟨q1, e1⟩ := b.bo i d q; let ⟨q2, e2⟩ := a.bo i d q1; ⟨q2, e1.trans e2⟩
  io := fun i hi => (b.io i hi).trans (a.io i hi)
theorem Stp.abr (a : Stp io σ ρ c H σ1 ρ1 c1 H1) : Abr io c1 S = Abr io c S := by
  funext x
  apply propext
  constructor
  · rintro (z | ⟨i, hi, z⟩)
    · exact .inl z
    · exact .inr ⟨i, hi, by rw [← a.io i hi]; exact z⟩
  · rintro (z | ⟨i, hi, z⟩)
    · exact .inl z
    · exact .inr ⟨i, hi, by rw [a.io i hi]; exact z⟩
theorem RT.before (a : Stp io σ ρ c H σ1 ρ1 c1 H1) (h : RT K io c1 S H1 H2 v r) : RT K io c S H H2 v r := by
  unfold RT at h ⊢
  rw [a.abr] at h
  cases r with
  | val d => exact h
  | own d =>
    obtain ⟨x, e, z, n, q⟩ := h
    refine ⟨x, e, z.elim (a.nw x) fun z => .inr ?_, n, q⟩
    cases q : H x with
    | none => rfl
    | some o => obtain ⟨o1, q1⟩ := a.tr x o q; rw [z] at q1; cases q1
  | bor d => exact h
theorem RT.of_rr (h : RR K H H1 (Mp.Own c S) v r) : RT K io c S H H1 v r := by
  cases r with
  | val d => exact Rp.less (fun _ z => z.own) h
  | own d => obtain ⟨a, e, n, q, z⟩ := h; exact ⟨a, e, .inr n, fun z => q z.own, z.less fun b w => w.imp Abr.own id⟩
  | bor d => exact Lent.less (fun _ z => z.own) h
end
def SW (C : Cn) (W : WX) (io : List Nat) (E : Ends) (σ : L2.St) (ρ : Env) (c : Nat → List Addr) (S : Addr → Prop) (H : Hp) : Out → Prop
  | .nx ρ' => ∀ σ' H' c', SR C.K σ' H' ρ' c' S → Stp io σ ρ c H σ' ρ' c' H' → E.nx σ' H'
  | .bk ρ' => ∀ σ' H' c', SR C.K σ' H' ρ' c' S → Stp io σ ρ c H σ' ρ' c' H' → E.bk σ' H'
  | .ct ρ' => ∀ σ' H' c', SR C.K σ' H' ρ' c' S → Stp io σ ρ c H σ' ρ' c' H' → E.ct σ' H'
  | .rt r ρ' => ∀ v σ' H' c', SR C.K σ' H' ρ' c' S → Stp io σ ρ c H σ' ρ' c' H' → RT C.K io c S H H' v r → E.rt v H'
  | .ex k pl ρ' => ∀ σ' H' c' d, SR C.K σ' H' ρ' c' S → Stp io σ ρ c H σ' ρ' c' H' → XP H' (Mp.Own c' S) d pl → W (.ref (C.ca k)) d σ' H'
  | .stuck => False
def tS (C : Cn) (W : WX) (io : List Nat) (m : Env → Out) : TS := fun E σ H => ∃ ρ c S, SR C.K σ H ρ c S ∧ SW C W io E σ ρ c S H (m ρ)
def oSeq (m1 m2 : Env → Out) (ρ : Env) : Out := match m1 ρ with
  | .nx ρ' => m2 ρ'
  | o => o
def oB (x : Res R) (ρ : Env) (f : R → Out) : Out := match x with
  | .ok r => f r
  | .exc k pl => .ex k pl ρ
  | .stuck => .stuck
@[simp] theorem oB_ok (r : R) (ρ : Env) (f : R → Out) : oB (.ok r) ρ f = f r := rfl
section
variable {C : Cn} {W : WX} {io : List Nat} {E E' : Ends} {σ σ1 : L2.St} {ρ ρ1 : Env} {c c1 : Nat → List Addr} {S : Addr → Prop} {H H1 : Hp} {o : Out}
theorem SW.after (s : Stp io σ ρ c H σ1 ρ1 c1 H1) (h : SW C W io E σ ρ c S H o) : SW C W io E σ1 ρ1 c1 S H1 o := by
  cases o with
  | nx ρ' => exact fun σ' H' c' a b => h σ' H' c' a (s.trans b)
  | bk ρ' => exact fun σ' H' c' a b => h σ' H' c' a (s.trans b)
  | ct ρ' => exact fun σ' H' c' a b => h σ' H' c' a (s.trans b)
  | rt r ρ' => exact fun v σ' H' c' a b d => h v σ' H' c' a (s.trans b) (d.before s)
  | ex k pl ρ' => exact fun σ' H' c' d a b x => h σ' H' c' d a (s.trans b) x
  | stuck => exact h
theorem SW.rw {x : Res R} {f : R → Out} (sr : SR C.K σ H ρ c S) (h : SW C W io E σ ρ c S H (oB x ρ f)) : RW C W (Mp.Own c S) σ H x (fun v H1 => ∃ r, Ex H H1 ∧ RR C.K H H1 (Mp.Own c S) v r ∧ SW C W io E σ ρ c S H1 (f r)) := by
  cases x with
  | ok r => exact fun v H1 e q => ⟨r, e, q, SW.after (Stp.ex e) h⟩
  | exc k pl => exact fun H1 d e q => h σ H1 c d (sr.ex e) (Stp.ex e) q
  | stuck => exact h
theorem SW.nx {ρ' : Env} {σ' : L2.St} {H' : Hp} {c' : Nat → List Addr} (h : SW C W io E σ ρ c S H (.nx ρ')) (a : SR C.K σ' H' ρ' c' S) (b : Stp io σ ρ c H σ' ρ' c' H') : E.nx σ' H' := h σ' H' c' a b
end
section
variable {X : Cx} {C : Cn} {W : WX} {io : List Nat} {st : Stmt} {rest : List Stmt} {m1 m2 : Env → Out} {e : Expr} {m : Env → Res R} {pos : Pos}
theorem pss_nilM : PSs X [] (tS C W io .nx) := PSs.weak pss_nil fun E σ H ⟨ρ, c, S, sr, h⟩ => h.nx sr Stp.refl
theorem pss_consM (h1 : PS X st (tS C W io m1)) (h2 : PSs X rest (tS C W io m2)) : PSs X (st :: rest) (tS C W io (oSeq m1 m2)) :=
  PSs.weak (pss_cons h1 h2) fun E σ H ⟨ρ, c, S, sr, h⟩ => by
    refine ⟨ρ, c, S, sr, ?_⟩
    unfold oSeq at h
    cases e1 : m1 ρ with
    | nx ρ' =>
      rw [e1] at h
      exact fun σ' H' c' a b => ⟨ρ', c', S, a, SW.after b h⟩
    | bk ρ' => rw [e1] at h; exact h
    | ct ρ' => rw [e1] at h; exact h
    | rt r ρ' => rw [e1] at h; exact h
    | ex k pl ρ' => rw [e1] at h; exact h
    | stuck => rw [e1] at h; exact h
theorem ps_passM : PS X (.Pass pos) (tS C W io .nx) := PS.weak ps_pass fun E σ H ⟨ρ, c, S, sr, h⟩ => h.nx sr Stp.refl
theorem ps_docM {x j pos'} : PS X (.Expr (.Constant (.str x) j pos) pos') (tS C W io .nx) := PS.weak ps_doc fun E σ H ⟨ρ, c, S, sr, h⟩ => h.nx sr Stp.refl
theorem ps_breakM : PS X (.Break pos) (tS C W io .bk) := PS.weak ps_break fun E σ H ⟨ρ, c, S, sr, h⟩ => h σ H c sr Stp.refl
theorem ps_contM : PS X (.Continue pos) (tS C W io .ct) := PS.weak ps_continue fun E σ H ⟨ρ, c, S, sr, h⟩ => h σ H c sr Stp.refl
theorem ps_stuckM : PS X st (tS C W io fun _ => .stuck) := ⟨fun _ _ _ _ _ _ ⟨_, _, _, _, h⟩ => h.elim⟩
def sDrop (m : Env → Res R) (ρ : Env) : Out := oB (m ρ) ρ fun _ => .nx ρ
def noComp : Expr → Bool
  | .ListComp .. | .SetComp .. | .DictComp .. => false
  | _ => true
theorem swaps_no {e : Expr} {t : Option Expr} {l : Nat} {env : PySem.Env} (h : noComp e = true) : swapsWith e t l env = pure false := by
  cases e <;> first | rfl | simp [noComp] at h
theorem ps_dropM (he : PE X e (tM C W m)) (hc : noComp e = true) : PS X (.Expr e pos) (tS C W io (sDrop m)) :=
  PS.weak (ps_expr he (swaps_no hc)) fun E σ H ⟨ρ, c, S, sr, h⟩ => ⟨ρ, c, S, sr, (SW.rw sr h).imp fun v H1 ⟨r, x1, r1, q⟩ => q.nx (sr.ex x1) Stp.refl⟩
def sRet (m : Env → Res R) (ρ : Env) : Out := oB (m ρ) ρ fun r => .rt r ρ
theorem ps_retM (he : PE X e (tM C W m)) : PS X (.Return (some e) pos) (tS C W io (sRet m)) :=
  PS.weak (ps_ret he) fun E σ H ⟨ρ, c, S, sr, h⟩ => ⟨ρ, c, S, sr, by
    unfold sRet oB at h
    cases e1 : m ρ with
    | stuck => rw [e1] at h; exact h.elim
    | exc k pl => rw [e1] at h; exact fun H1 d e q => h σ H1 c d (sr.ex e) (Stp.ex e) q
    | ok r => rw [e1] at h; exact fun v H1 x r1 => h v σ H1 c (sr.ex x) (Stp.ex x) (RT.of_rr r1)⟩
def sRetN (ρ : Env) : Out := .rt (.val .non) ρ
theorem ps_retNM : PS X (.Return none pos) (tS C W io sRetN) := PS.weak ps_retN fun E σ H ⟨ρ, c, S, sr, h⟩ => h .non σ H c sr Stp.refl (by simp [RT, Rp])
def sIf (mc : Env → Res R) (a b : Env → Out) (ρ : Env) : Out := oB (mc ρ) ρ fun r => match asBl r with
  | some true => a ρ
  | some false => b ρ
  | none => .stuck
theorem ps_ifM {cnd : Expr} {sa sb : List Stmt} {mc : Env → Res R} (hc : PT X cnd (tMt C W mc)) (ha : PSs X sa (tS C W io m1)) (hb : PSs X sb (tS C W io m2)) : PS X (.If cnd sa sb pos) (tS C W io (sIf mc m1 m2)) :=
  PS.weak (ps_if hc ha hb) fun E σ H ⟨ρ, c, S, sr, h⟩ => ⟨ρ, c, S, sr, (SW.rw sr h).imp fun v H1 ⟨r, x1, r1, q⟩ => by
    split at q
    · next e1 => exact ⟨true, asBl_rr r1 e1, iteT ⟨ρ, c, S, sr.ex x1, q⟩⟩
    · next e1 => exact ⟨false, asBl_rr r1 e1, iteF ⟨ρ, c, S, sr.ex x1, q⟩⟩
    · exact q.elim⟩
end

section
variable {K : PySem.W.Frag} {io : List Nat} {σ : L2.St} {H H' : Hp} {ρ : Env} {c : Nat → List Addr} {S : Addr → Prop}
def cut (c : Nat → List Addr) (i : Nat) : Nat → List Addr := fun j => if j = i then [] else c j
theorem cut_cel {i : Nat} {a : Addr} (h : Cel (cut c i) a) : Cel c a := by
  obtain ⟨j, hj⟩ := h
  unfold cut at hj
  split at hj
  · cases hj
  · exact ⟨j, hj⟩
theorem cut_own {i : Nat} {a : Addr} (h : Mp.Own (cut c i) S a) : Mp.Own c S a := h.imp (fun z => cut_cel z) id
theorem SR.drop (h : SR K σ H ρ c S) (i : Nat) : SR K (σ.set i none) H (ρ.set i none) (cut c i) S where
  len := by simp [h.len]
  rep := fun j r e => by
    by_cases hj : i = j
    · subst hj
      by_cases hi : i < ρ.length
      · rw [List.getElem?_set_self hi] at e; cases e
      · rw [List.getElem?_eq_none (by simpa using hi)] at e; cases e
    · rw [List.getElem?_set_ne hj] at e
      obtain ⟨v, h1, h2⟩ := h.rep j r e
      refine ⟨v, by rw [List.getElem?_set_ne hj]; exact h1, ?_⟩
      rw [show cut c i j = c j by unfold cut; rw [if_neg (fun z => hj z.symm)]]
      exact h2.move (fun _ _ _ q => q) (fun _ _ n _ z => n (cut_cel z)) (fun _ _ _ q => q) (fun _ _ n _ z => n (cut_own z)) fun _ _ => rfl
  off := fun j e => by
    unfold cut
    split
    · rfl
    · next hj => exact h.off j fun r z => e r (by rw [List.getElem?_set_ne (fun w => hj w.symm)]; exact z)
  dis := fun j k a h1 h2 => by
    unfold cut at h1 h2
    split at h1
    · cases h1
    · split at h2
      · cases h2
      · exact h.dis j k a h1 h2
  sep := fun j a h1 => by
    unfold cut at h1
    split at h1
    · cases h1
    · exact h.sep j a h1
  trk := fun a z => h.trk a (cut_own z)
theorem SR.dropE (h : SR K σ H ρ c S) (i : Nat) : SR K σ H (ρ.set i none) (cut c i) S :=
  ⟨by simp [h.len], fun j r e => by
    have hj : i ≠ j := fun z => by
      subst z
      by_cases hi : i < ρ.length
      · rw [List.getElem?_set_self hi] at e; cases e
      · rw [List.getElem?_eq_none (by simpa using hi)] at e; cases e
    obtain ⟨v, h1, h2⟩ := (h.drop i).rep j r e
    exact ⟨v, by rwa [List.getElem?_set_ne hj] at h1, h2⟩, (h.drop i).off, (h.drop i).dis, (h.drop i).sep, (h.drop i).trk⟩
theorem SR.setV' (h : SR K σ H ρ c S) {i : Nat} {v : V} {d : D} (r : Rp H (Mp.Own c S) v d) : SR K (σ.set i (some v)) H (ρ.set i (some (.val d))) (cut c i) S := by
  have := (h.drop i).setV (i := i) (v := v) (d := d) (by unfold cut; rw [if_pos rfl]) (r.less fun _ z => cut_own z)
  rwa [List.set_set, List.set_set] at this
def put1 (c : Nat → List Addr) (i : Nat) (a : Addr) : Nat → List Addr := fun j => if j = i then [a] else c j
theorem put1_cel {i : Nat} {a b : Addr} (h : Cel (put1 c i a) b) : Cel (cut c i) b ∨ b = a := by
  obtain ⟨j, hj⟩ := h
  unfold put1 at hj
  split at hj
  · exact .inr (by simpa using hj)
  · next n => exact .inl ⟨j, by unfold cut; rw [if_neg n]; exact hj⟩
theorem put1_own {i : Nat} {a b : Addr} (h : Mp.Own (put1 c i a) S b) : Mp.Own (cut c i) S b ∨ b = a := h.elim (fun z => (put1_cel z).imp .inl id) fun z => .inl (.inr z)
theorem SR.setO (h : SR K σ H ρ c S) {i : Nat} {a : Addr} {d : D} (na : ¬ Mp.Own c S a) (hi : i < ρ.length) (hn : ∀ j r, j ≠ i → ρ[j]? = some (some r) → ∀ v, σ[j]? = some (some v) → RS K H (Cel c) (Mp.Own c S) (c j) v r → RS K H (Cel (put1 c i a)) (Mp.Own (put1 c i a) S) (c j) v r)
    (r : Cell H (Mp.Own (put1 c i a) S) a d) : SR K (σ.set i (some (.ref a))) H (ρ.set i (some (.own d))) (put1 c i a) S where
  len := by simp [h.len]
  rep := fun j r' e => by
    by_cases hj : i = j
    · subst hj
      rw [List.getElem?_set_self hi] at e
      cases e
      exact ⟨.ref a, List.getElem?_set_self (by rw [← h.len]; exact hi), a, rfl, by unfold put1; rw [if_pos rfl], r⟩
    · rw [List.getElem?_set_ne hj] at e
      obtain ⟨w, h1, h2⟩ := h.rep j r' e
      refine ⟨w, by rw [List.getElem?_set_ne hj]; exact h1, ?_⟩
      rw [show put1 c i a j = c j by unfold put1; rw [if_neg (fun z => hj z.symm)]]
      exact hn j r' (fun z => hj z.symm) e w h1 h2
  off := fun j e => by
    unfold put1
    split
    · next hj => subst hj; exact absurd (List.getElem?_set_self hi) (e _)
    · next hj => exact h.off j fun r z => e r (by rw [List.getElem?_set_ne (fun w => hj w.symm)]; exact z)
  dis := fun j k b h1 h2 => by
    unfold put1 at h1 h2
    split at h1
    · next ej =>
      have eb : b = a := by simpa using h1
      subst eb
      split at h2
      · next ek => rw [ej, ek]
      · exact absurd (.inl ⟨k, h2⟩) na
    · split at h2
      · have eb : b = a := by simpa using h2
        subst eb
        exact absurd (.inl ⟨j, h1⟩) na
      · exact h.dis j k b h1 h2
  sep := fun j b h1 z => by
    unfold put1 at h1
    split at h1
    · have eb : b = a := by simpa using h1
      subst eb
      exact na (.inr z)
    · exact h.sep j b h1 z
  trk := fun b z => by
    rcases put1_own z with z | z
    · exact h.trk b (cut_own z)
    · subst z; exact r.there
end
theorem set_none {ρ : Env} {i j : Nat} {d : D} (h : (ρ.set i none)[j]? = some (some (R.bor d))) : ρ[j]? = some (some (R.bor d)) ∧ i ≠ j := by
  have hj : i ≠ j := fun z => by
    subst z
    by_cases hi : i < ρ.length
    · rw [List.getElem?_set_self hi] at h; cases h
    · rw [List.getElem?_eq_none (by simpa using hi)] at h; cases h
  exact ⟨by rwa [List.getElem?_set_ne hj] at h, hj⟩
theorem set_bor {ρ : Env} {i j : Nat} {r : R} {d : D} (nb : ∀ d, r ≠ .bor d) (h : (ρ.set i (some r))[j]? = some (some (R.bor d))) : ρ[j]? = some (some (R.bor d)) ∧ i ≠ j := by
  have hj : i ≠ j := fun z => by
    subst z
    by_cases hi : i < ρ.length
    · rw [List.getElem?_set_self hi] at h; simp only [Option.some.injEq] at h; exact nb _ h
    · rw [List.getElem?_eq_none (by simpa using hi)] at h; cases h
  exact ⟨by rwa [List.getElem?_set_ne hj] at h, hj⟩
section
variable {K : PySem.W.Frag} {io : List Nat} {σ : L2.St} {H H' : Hp} {ρ : Env} {c : Nat → List Addr} {S : Addr → Prop}
theorem Stp.setV {i : Nat} {v : V} {d : D} (hio : i ∉ io) : Stp io σ ρ c H (σ.set i (some v)) (ρ.set i (some (.val d))) (cut c i) H where
  fr := fun a o _ q => q
  tr := fun a o q => ⟨o, q⟩
  nw := fun a q => .inl (cut_cel q)
  bo := fun j d q => by
    obtain ⟨q1, q2⟩ := set_bor (fun _ z => by cases z) q
    exact ⟨q1, List.getElem?_set_ne q2⟩
  io := fun j hj => by unfold cut; rw [if_neg]; intro z; subst z; exact hio hj
theorem SR.putO (h : SR K σ H ρ c S) {i : Nat} {a : Addr} {d : D} {H0 : Hp} (x : Ex H0 H) (h0 : SR K σ H0 ρ c S) (hi : i < ρ.length) (n0 : H0 a = none) (na : ¬ Mp.Own c S a) (r : Cell H (fun b => Mp.Own c S b ∨ b = a) a d) :
    SR K (σ.set i (some (.ref a))) H (ρ.set i (some (.own d))) (put1 c i a) S := by
  refine h.setO na hi (fun j r' hj e w hw _ => ?_) (r.less fun b z => (put1_own z).imp cut_own id)
  obtain ⟨w', h1, h2⟩ := h0.rep j r' e
  rw [hw] at h1
  cases h1
  refine h2.move (fun a o _ q => x a o q) (fun b o n q z => ?_) (fun a o _ q => x a o q) (fun b o n q z => ?_) (fun b hb => ?_)
  · rcases put1_cel z with z | z
    · exact n (cut_cel z)
    · subst z; rw [n0] at q; cases q
  · rcases put1_own z with z | z
    · exact n (cut_own z)
    · subst z; rw [n0] at q; cases q
  · obtain ⟨o, q⟩ := h0.trk b (.inl ⟨j, hb⟩)
    rw [q, x b o q]
theorem Stp.putO {i : Nat} {a : Addr} {d : D} {H0 : Hp} (x : Ex H0 H) (n0 : H0 a = none) (hio : i ∉ io) : Stp io σ ρ c H0 (σ.set i (some (.ref a))) (ρ.set i (some (.own d))) (put1 c i a) H where
  fr := fun a o _ q => x a o q
  tr := fun a o q => ⟨o, x a o q⟩
  nw := fun b q => (put1_cel q).elim (fun z => .inl (cut_cel z)) fun z => .inr (z ▸ n0)
  bo := fun j d q => by
    obtain ⟨q1, q2⟩ := set_bor (fun _ z => by cases z) q
    exact ⟨q1, List.getElem?_set_ne q2⟩
  io := fun j hj => by unfold put1; rw [if_neg]; intro z; subst z; exact hio hj
end
def setR (own : Bool) (i : Nat) (r : R) (ρ : Env) : Out := match own, r with
  | true, .own d => if i < ρ.length then .nx (ρ.set i (some (.own d))) else .stuck
  | true, _ => .stuck
  | false, r => match r.froz with
    | some d => .nx (ρ.set i (some (.val d)))
    | none => .stuck
def sSet (own : Bool) (i : Nat) (m : Env → Res R) (ρ : Env) : Out := oB (m ρ) ρ fun r => setR own i r ρ
section
variable {X : Cx} {C : Cn} {W : WX} {io : List Nat} {E : Ends} {σ : L2.St} {ρ : Env} {c : Nat → List Addr} {S : Addr → Prop} {H H1 : Hp} {i : Nat} {own : Bool} {r : R} {v : V}
theorem set_ok (sr : SR C.K σ H ρ c S) (hio : i ∉ io) (x1 : Ex H H1) (r1 : RR C.K H H1 (Mp.Own c S) v r) (q : SW C W io E σ ρ c S H1 (setR own i r ρ)) (q0 : SW C W io E σ ρ c S H (setR own i r ρ)) : E.nx (σ.set i (some v)) H1 := by
  unfold setR at q q0
  split at q
  · next d =>
    split at q
    · next hi =>
      obtain ⟨a, rfl, n0, na, rc⟩ := r1
      dsimp only at q0
      rw [if_pos hi] at q0
      exact q0.nx ((sr.ex x1).putO x1 sr hi n0 na rc) (Stp.putO x1 n0 hio)
    · exact q.elim
  · exact q.elim
  · next r' =>
    split at q
    · next d e => exact q.nx ((sr.ex x1).setV' (r1.froz e)) (Stp.setV hio)
    · exact q.elim
theorem SW.rw0 {x : Res R} {f : R → Out} (sr : SR C.K σ H ρ c S) (h : SW C W io E σ ρ c S H (oB x ρ f)) : RW C W (Mp.Own c S) σ H x (fun v H1 => ∃ r, Ex H H1 ∧ RR C.K H H1 (Mp.Own c S) v r ∧ SW C W io E σ ρ c S H1 (f r) ∧ SW C W io E σ ρ c S H (f r)) := by
  cases x with
  | ok r => exact fun v H1 e q => ⟨r, e, q, SW.after (Stp.ex e) h, h⟩
  | exc k pl => exact fun H1 d e q => h σ H1 c d (sr.ex e) (Stp.ex e) q
  | stuck => exact h
theorem tAsg_set {te : TE} {m : Env → Res R} (hw : ∀ σ H Q, tM C W m σ H Q → te σ H Q) (hio : i ∉ io) : ∀ E σ H, tS C W io (sSet own i m) E σ H → tAsg te (gName i) E σ H := fun E σ H ⟨ρ, c, S, sr, h⟩ =>
  hw σ H _ ⟨ρ, c, S, sr, (SW.rw0 sr h).imp fun v H1 ⟨r, x1, r1, q, q0⟩ => set_ok sr hio x1 r1 q q0⟩
theorem ps_setM {x : Str} {e : Expr} {m : Env → Res R} {px pos : Pos} (hN : X.N.Nodup) (hi : X.N[i]? = some x) (hx : Loc X.env.scope x) (hf : X.fn x = true ∨ X.env.scope.names.lookup x = some .local) (he : PE X e (tM C W m)) (hc : noComp e = true) (hio : i ∉ io) :
    PS X (.Assign [.Name x px] e pos) (tS C W io (sSet own i m)) :=
  PS.weak (ps_set hN hi hx he (swaps_no hc) hf) (tAsg_set (fun _ _ _ h => h) hio)
end
end Mp

namespace Mp
open PySem L2

section
variable {K : PySem.W.Frag} {io : List Nat} {σ : L2.St} {H H' : Hp} {ρ ρ1 : Env} {c : Nat → List Addr} {S : Addr → Prop}
theorem setAll_ok (io : List Nat) : ∀ {is : List Nat} {vs : List V} {ds : List D} {σ : L2.St} {ρ : Env} {c : Nat → List Addr}, SR K σ H ρ c S → (∀ i ∈ is, i ∉ io) → Rps H (Mp.Own c S) vs ds →
    ∃ c1, SR K (setAll σ is vs) H (setAll ρ is (vals ds)) c1 S ∧ Stp io σ ρ c H (setAll σ is vs) (setAll ρ is (vals ds)) c1 H
  | [], vs, ds, σ, ρ, c, h, _, _ => ⟨c, by simpa [setAll] using h, by simpa [setAll] using Stp.refl⟩
  | i :: is, [], [], σ, ρ, c, h, _, _ => ⟨c, by simpa [setAll, vals] using h, by simpa [setAll, vals] using Stp.refl⟩
  | i :: is, [], _ :: _, _, _, _, _, _, r => by simp [Rps] at r
  | i :: is, _ :: _, [], _, _, _, _, _, r => by simp [Rps] at r
  | i :: is, v :: vs, d :: ds, σ, ρ, c, h, hio, r => by
    simp only [Rps] at r
    simp only [setAll, vals, List.map_cons]
    obtain ⟨c1, a, b⟩ := setAll_ok io (is := is) (h.setV' (i := i) r.1) (fun j hj => hio j (List.mem_cons_of_mem _ hj)) (r.2.less fun _ z => cut_own z)
    exact ⟨c1, a, (Stp.setV (hio i List.mem_cons_self)).trans b⟩
theorem bind_ok {t : Tg} {x : V} {d : D} {k : L2.St → Hp → Prop} (h : SR K σ H ρ c S) (r : Rp H (Mp.Own c S) x d) (e : bindD t d ρ = some ρ1) (hio : ∀ i ∈ t.slots, i ∉ io) (q : ∀ σ1 c1, SR K σ1 H ρ1 c1 S → Stp io σ ρ c H σ1 ρ1 c1 H → k σ1 H) : tgT K t x σ H k := by
  cases t with
  | one i =>
    simp only [bindD, Option.some.injEq] at e
    subst e
    exact q _ _ (h.setV' r) (Stp.setV (hio i (by simp [Tg.slots])))
  | many is =>
    simp only [bindD] at e
    split at e
    · next ds ed =>
      split at e
      · next hl =>
        cases e
        have rx' := r
        simp only [Rp] at rx'
        obtain ⟨a, ws, rfl, _, _, _⟩ := rx'
        obtain ⟨ws, q1, q2⟩ := tup_same (K := K) r
        have hlen := q2.length
        obtain ⟨c1, s1, s2⟩ := setAll_ok io (is := is) h (fun i hi => hio i hi) q2
        exact ⟨a, ws, rfl, q1, by rw [hlen, hl], gNames_ok is ws _ _ _ (by rw [hlen, hl]) (q _ c1 s1 s2)⟩
      · cases e
    · cases e
end
def stoOk (sc : Scope) (fn : Str → Bool) (x : Str) : Bool :=
  (match sc.names.lookup x with | some .local => true | some .cell => fn x | _ => false)
def chkTg (N : List Str) (sc : Scope) (fn : Str → Bool) : Expr → Tg → Bool
  | .Name x _, .one i => decide (N[i]? = some x) && stoOk sc fn x
  | .Tuple es _ _, .many is => (match tgNames N es with
    | some l => decide (l.map (·.2) = is) && l.all fun p => stoOk sc fn p.1
    | none => false)
  | _, _ => false
theorem stoOk_loc {sc : Scope} {fn : Str → Bool} {x : Str} (h : stoOk sc fn x = true) : L2.Loc sc x ∧ (fn x = true ∨ sc.names.lookup x = some .local) := by
  unfold stoOk at h
  split at h
  · next e => exact ⟨.inl e, .inr e⟩
  · next e => exact ⟨.inr e, .inl h⟩
  · cases h
theorem pg_of {X : Cx} (hN : X.N.Nodup) (hc : X.calm = true) {e : Expr} {t : Tg} (h : chkTg X.N X.env.scope X.fn e t = true) : PG X e (tgT X.K t) := by
  unfold chkTg at h
  split at h
  · next x p i =>
    simp only [Bool.and_eq_true, decide_eq_true_eq] at h
    obtain ⟨h1, h2⟩ := stoOk_loc h.2
    exact pg_name hN h.1 h1 h2
  · next es k p is =>
    split at h
    · next l e1 =>
      simp only [Bool.and_eq_true, decide_eq_true_eq, List.all_eq_true] at h
      obtain ⟨rfl, h2⟩ := h
      obtain ⟨q1, q2⟩ := tgNames_each (env := X.env) e1
      have := pg_tup (pos := p) (k := k) hc (pgs_of hN e1 fun p hp => stoOk_loc (h2 p hp)) rfl q2
      rw [q1] at this
      show PG X _ (gTup X.K (l.map (·.2)).length _)
      rw [List.length_map]
      exact this
    · cases h
  · cases h

def forGo (t : Tg) (body : Env → Out) : List D → Env → Out
  | [], ρ => .nx ρ
  | d :: ds, ρ => match bindD t d ρ with
    | none => .stuck
    | some ρ1 => match body ρ1 with
      | .nx ρ2 => forGo t body ds ρ2
      | .ct ρ2 => forGo t body ds ρ2
      | .bk ρ2 => .nx ρ2
      | o => o
def sFor (t : Tg) (src : Env → Res (List D)) (body : Env → Out) (ρ : Env) : Out := match src ρ with
  | .ok ds => forGo t body ds ρ
  | .exc k pl => .ex k pl ρ
  | .stuck => .stuck
def plainIter : Expr → Bool
  | .Set .. => false
  | _ => true
theorem folded_of {e : Expr} {env : PySem.Env} (h : plainIter e = true) : ∀ x, foldedSetIterable e env x = pure x := by
  intro x
  cases e <;> first | rfl | simp [plainIter] at h
def whGo (mc : Env → Res R) (body : Env → Out) : Nat → Env → Out
  | 0, _ => .stuck
  | n + 1, ρ => oB (mc ρ) ρ fun r => match asBl r with
    | some true => (match body ρ with
      | .nx ρ2 => whGo mc body n ρ2
      | .ct ρ2 => whGo mc body n ρ2
      | .bk ρ2 => .nx ρ2
      | o => o)
    | some false => .nx ρ
    | none => .stuck
section
variable {X : Cx} {C : Cn} {W : WX} {io : List Nat} {tg iter : Expr} {t : Tg} {src : Env → Res (List D)} {mb : Env → Out} {sb : List Stmt} {pos : Pos}
theorem for_core {E : Ends} {σ : L2.St} {H1 : Hp} {ρ : Mp.Env} {c : Nat → List Addr} {S : Addr → Prop} {J : It} {ds : List D} (sr : SR C.K σ H1 ρ c S) (hJ : Src H1 (fun a => true = true ∧ Cel c a) (Mp.Own c S) J ds) (hio : ∀ i ∈ t.slots, i ∉ io) (h : SW C W io E σ ρ c S H1 (forGo t mb ds ρ)) :
    ∃ Wf : Nat → Nat → L2.St → Hp → Prop, (∃ m, Wf 0 m σ H1) ∧ ∀ i m σ H, Wf i m σ H → (J.stop i H ∧ E.nx σ H) ∨ (J.go i H ∧ ∃ N : L2.St → Hp → Prop, (∀ σ' H', N σ' H' → ∃ m', m' < m ∧ Wf (i + 1) m' σ' H') ∧
      ∀ x H', J.yld i H x H' → tgT C.K t x σ H' fun σ2 H2 => tS C W io mb { E with nx := N, ct := N, bk := E.nx } σ2 H2) := by
  refine ⟨fun i m σ' H' => m = ds.length - i ∧ i ≤ ds.length ∧ ∃ ρ' c', SR C.K σ' H' ρ' c' S ∧ Stp io σ ρ c H1 σ' ρ' c' H' ∧ SW C W io E σ' ρ' c' S H' (forGo t mb (ds.drop i) ρ'),
    ⟨ds.length, by simp, Nat.zero_le _, ρ, c, sr, Stp.refl, h⟩, ?_⟩
  rintro i m σ' H' ⟨rfl, hi, ρ', c', sr', st', g⟩
  have fr' : Fr (fun a => true = true ∧ Cel c a) H1 H' := fun a o n q => st'.fr a o (fun z => n ⟨rfl, z⟩) q
  by_cases hlt : i < ds.length
  · refine .inr ⟨hJ.go i H' fr' hlt, fun σ3 H3 => i + 1 ≤ ds.length ∧ ∃ ρ' c', SR C.K σ3 H3 ρ' c' S ∧ Stp io σ ρ c H1 σ3 ρ' c' H3 ∧ SW C W io E σ3 ρ' c' S H3 (forGo t mb (ds.drop (i + 1)) ρ'),
      fun σ3 H3 ⟨z, w⟩ => ⟨ds.length - (i + 1), by omega, rfl, z, w⟩, fun x H'' y => ?_⟩
    have hPP : ∀ a, Mp.Own c' S a → Mp.Own c S a ∨ H1 a = none := fun a z => z.elim (fun z => (st'.nw a z).imp .inl id) fun z => .inl (.inr z)
    obtain ⟨x3, rx⟩ := hJ.yld i H' x H'' ds[i] (Mp.Own c' S) fr' hPP sr'.trk (List.getElem?_eq_getElem hlt) y
    rw [List.drop_eq_getElem_cons hlt] at g
    unfold forGo at g
    split at g
    · exact g.elim
    · next ρ1 eb =>
      refine bind_ok (sr'.ex x3) rx eb hio fun σ1 c1 sr1 st1 => ⟨ρ1, c1, S, sr1, ?_⟩
      have stA : Stp io σ' ρ' c' H' σ1 ρ1 c1 H'' := (Stp.ex x3).trans st1
      have g1 := SW.after stA g
      cases e2 : mb ρ1 with
      | stuck => rw [e2] at g1; exact g1.elim
      | nx ρ2 =>
        rw [e2] at g1
        exact fun σ3 H3 c3 a b => ⟨hlt, ρ2, c3, a, (st'.trans stA).trans b, SW.after b g1⟩
      | ct ρ2 =>
        rw [e2] at g1
        exact fun σ3 H3 c3 a b => ⟨hlt, ρ2, c3, a, (st'.trans stA).trans b, SW.after b g1⟩
      | bk ρ2 => rw [e2] at g1; exact g1
      | rt r ρ2 => rw [e2] at g1; exact g1
      | ex k pl ρ2 => rw [e2] at g1; exact g1
  · have ei : i = ds.length := by omega
    subst ei
    rw [List.drop_length] at g
    exact .inl ⟨hJ.stop _ H' fr' (Nat.le_refl _), g.nx sr' Stp.refl⟩
theorem ps_forM (hK : X.K = C.K) (hp : PassesOwn (model X.prog X.w) X.A X.env X.xe) (hc : X.calm = true) (hi : PI X tg iter (tI C W true src)) (hg : PG X tg (tgT X.K t)) (hb : PSs X sb (tS C W io mb)) (hs : plainIter iter = true) (hio : ∀ i ∈ t.slots, i ∉ io) :
    PS X (.For tg iter sb [] pos) (tS C W io (sFor t src mb)) :=
  PS.weak (ps_for hp hc hi hg hb (folded_of hs)) fun E σ H ⟨ρ, c, S, sr, h⟩ => by
    refine ⟨ρ, c, S, sr, ?_⟩
    unfold sFor at h
    cases e1 : src ρ with
    | stuck => rw [e1] at h; exact h.elim
    | exc k pl => rw [e1] at h; exact fun H1 d x q => h σ H1 c d (sr.ex x) (Stp.ex x) q
    | ok ds =>
      rw [e1] at h
      intro H1 J x1 hJ
      rw [hK]
      exact for_core (sr.ex x1) hJ hio (SW.after (Stp.ex x1) h)
theorem ps_whileM {cnd : Expr} {mc : Env → Res R} {n : Nat} (hp : PassesOwn (model X.prog X.w) X.A X.env X.xe) (hc : PT X cnd (tMt C W mc)) (hb : PSs X sb (tS C W io mb)) : PS X (.While cnd sb [] pos) (tS C W io (whGo mc mb n)) :=
  PS.weak (ps_while hp hc hb) fun E σ H ⟨ρ, c, S, sr, h⟩ => by
    refine ⟨fun m σ' H' => ∃ ρ' c', SR C.K σ' H' ρ' c' S ∧ SW C W io E σ' ρ' c' S H' (whGo mc mb m ρ'), ⟨n, ρ, c, sr, h⟩, ?_⟩
    rintro m σ' H' ⟨ρ', c', sr', g⟩
    cases m with
    | zero => exact g.elim
    | succ m =>
      refine ⟨ρ', c', S, sr', (SW.rw sr' g).imp fun v H1 ⟨r, x1, r1, q⟩ => ?_⟩
      split at q
      · next e1 =>
        refine ⟨true, asBl_rr r1 e1, iteT ⟨fun σ3 H3 => ∃ ρ' c', SR C.K σ3 H3 ρ' c' S ∧ SW C W io E σ3 ρ' c' S H3 (whGo mc mb m ρ'), fun σ3 H3 w => ⟨m, Nat.lt_succ_self _, w⟩, ρ', c', S, sr'.ex x1, ?_⟩⟩
        cases e2 : mb ρ' with
        | stuck => rw [e2] at q; exact q.elim
        | nx ρ2 => rw [e2] at q; exact fun σ3 H3 c3 a b => ⟨ρ2, c3, a, SW.after b q⟩
        | ct ρ2 => rw [e2] at q; exact fun σ3 H3 c3 a b => ⟨ρ2, c3, a, SW.after b q⟩
        | bk ρ2 => rw [e2] at q; exact q
        | rt r ρ2 => rw [e2] at q; exact q
        | ex k pl ρ2 => rw [e2] at q; exact q
      · next e1 => exact ⟨false, asBl_rr r1 e1, iteF (q.nx (sr'.ex x1) Stp.refl)⟩
      · exact q.elim
def sUnp (t : Tg) (m : Env → Res R) (ρ : Env) : Out := oB (m ρ) ρ fun r => match r.froz with
  | some d => (match bindD t d ρ with
    | some ρ1 => .nx ρ1
    | none => .stuck)
  | none => .stuck
def noTup : Expr → Bool
  | .Tuple .. => false
  | _ => true
theorem swapped_no {e : Expr} {es : List Expr} {env : PySem.Env} (h : noTup e = true) : swappedStores es e env = pure none := by
  unfold swappedStores
  cases e <;> first | (simp [noTup] at h; done) | skip
  all_goals (rcases es with _ | ⟨a, _ | ⟨b, l⟩⟩ <;> first | rfl | (cases a <;> rfl))
theorem ps_unpM {es : List Expr} {k : Nat} {e : Expr} {m : Env → Res R} {p' : Pos} (hK : X.K = C.K) (he : PE X e (tM C W m)) (hg : PG X (.Tuple es k p') (tgT X.K t)) (hc : noComp e = true) (ht : noTup e = true) (hio : ∀ i ∈ t.slots, i ∉ io) :
    PS X (.Assign [.Tuple es k p'] e pos) (tS C W io (sUnp t m)) :=
  PS.weak (ps_asg he hg (by unfold swapsWithSole; exact swaps_no hc) (swapped_no ht)) fun E σ H ⟨ρ, c, S, sr, h⟩ => ⟨ρ, c, S, sr, (SW.rw sr h).imp fun v H1 ⟨r, x1, r1, q⟩ => by
    split at q
    · next d e1 =>
      split at q
      · next ρ1 e2 =>
        rw [hK]
        exact bind_ok (sr.ex x1) (r1.froz e1) e2 hio fun σ1 c1 s1 s2 => q.nx s1 s2
      · exact q.elim
    · exact q.elim⟩
end

section
variable {K : PySem.W.Frag} {io : List Nat} {σ : L2.St} {H H' : Hp} {ρ : Env} {c : Nat → List Addr} {S : Addr → Prop} {i : Nat} {a : Addr} {d d' : D} {o : HO}
theorem SR.upd (h : SR K σ H ρ c S) (e : ρ[i]? = some (some (.own d))) (ha : σ[i]? = some (some (.ref a))) (r : Cell (L2.upd H a o) (Mp.Own c S) a d') : SR K σ (L2.upd H a o) (ρ.set i (some (.own d'))) c S ∧ Stp io σ ρ c H σ (ρ.set i (some (.own d'))) c (L2.upd H a o) := by
  obtain ⟨v, h1, b, rfl, hcell, hb⟩ := h.rep i _ e
  rw [ha] at h1
  cases h1
  have hi : i < ρ.length := (List.getElem?_eq_some_iff.mp e).1
  have ca : Cel c a := ⟨i, by rw [hcell]; simp⟩
  have ne : ∀ {x}, ¬ Cel c x → x ≠ a := fun n z => n (z ▸ ca)
  refine ⟨⟨by simp [h.len], fun j r' ej => ?_, fun j ej => ?_, h.dis, h.sep, fun x z => ?_⟩, ⟨fun x u n q => ?_, fun x u q => ?_, fun x z => .inl z, fun j d q => ?_, fun _ _ => rfl⟩⟩
  · by_cases hj : i = j
    · subst hj
      rw [List.getElem?_set_self hi] at ej
      cases ej
      exact ⟨.ref a, ha, a, rfl, hcell, r⟩
    · rw [List.getElem?_set_ne hj] at ej
      obtain ⟨w, w1, w2⟩ := h.rep j r' ej
      refine ⟨w, w1, w2.move (fun x u n q => ?_) (fun _ _ n _ => n) (fun x u n q => ?_) (fun _ _ n _ => n) (fun x hx => ?_)⟩
      · rw [upd_ne (ne n)]; exact q
      · rw [upd_ne (ne fun z => n (.inl z))]; exact q
      · exact upd_ne fun z => by subst z; exact hj (h.dis i j x (by rw [hcell]; simp) hx)
  · refine h.off j fun r' z => ?_
    by_cases hj : i = j
    · subst hj; exact ej _ (List.getElem?_set_self hi)
    · exact ej r' (by rw [List.getElem?_set_ne hj]; exact z)
  · by_cases hx : x = a
    · subst hx; exact ⟨_, upd_same⟩
    · rw [upd_ne hx]; exact h.trk x z
  · rw [upd_ne (ne n)]; exact q
  · by_cases hx : x = a
    · subst hx; exact ⟨_, upd_same⟩
    · rw [upd_ne hx]; exact ⟨u, q⟩
  · exact ⟨(set_bor (fun _ z => by cases z) q).1, rfl⟩
theorem SR.ownL (h : SR K σ H ρ c S) {ds : List D} (e : ρ[i]? = some (some (.own (.lst ds)))) : ∃ a vs, σ[i]? = some (some (.ref a)) ∧ Cel c a ∧ H a = some (.lst vs) ∧ Rps H (Mp.Own c S) vs ds := by
  obtain ⟨v, h1, a, rfl, hcell, vs, hv, r⟩ := h.rep i _ e
  exact ⟨a, vs, h1, ⟨i, by rw [hcell]; simp⟩, hv, r⟩
theorem Rps.upd {P : Addr → Prop} {vs : List V} {ds : List D} (h : Rps H P vs ds) (ha : P a) : Rps (L2.upd H a o) P vs ds := h.move (fun x u n q => by rw [upd_ne (fun (z : x = a) => n (by rw [z]; exact ha))]; exact q) fun _ _ n _ => n
theorem Rp.upd {P : Addr → Prop} {v : V} {d : D} (h : Rp H P v d) (ha : P a) : Rp (L2.upd H a o) P v d := h.move (fun x u n q => by rw [upd_ne (fun (z : x = a) => n (by rw [z]; exact ha))]; exact q) fun _ _ n _ => n
end
def onL (i : Nat) (ρ : Env) (f : List D → Out) : Out := match ρ[i]? with
  | some (some (.own (.lst ds))) => f ds
  | _ => .stuck
def sApp (i : Nat) (m : Env → Res R) (ρ : Env) : Out := onL i ρ fun ds => oB (m ρ) ρ fun r => match r.froz with
  | some d => if ds.length < LIM then .nx (ρ.set i (some (.own (.lst (ds ++ [d]))))) else .stuck
  | _ => .stuck
def sExt (i : Nat) (m : Env → Res R) (ρ : Env) : Out := onL i ρ fun ds => oB (m ρ) ρ fun r => match r.froz with
  | some (.lst es) => if ds.length + es.length ≤ LIM then .nx (ρ.set i (some (.own (.lst (ds ++ es))))) else .stuck
  | _ => .stuck
def sClr (i : Nat) (ρ : Env) : Out := onL i ρ fun _ => .nx (ρ.set i (some (.own (.lst []))))
section
variable {X : Cx} {C : Cn} {W : WX} {io : List Nat} {E : Ends} {σ : L2.St} {H : Hp} {ρ : Env} {c : Nat → List Addr} {S : Addr → Prop} {f : List D → Out} {i : Nat} {x : Str} {px apos cpos pos : Pos} {e : Expr} {m : Env → Res R}
theorem onL_ok (sr : SR C.K σ H ρ c S) (h : SW C W io E σ ρ c S H (onL i ρ f)) : ∃ ds a vs, ρ[i]? = some (some (.own (.lst ds))) ∧ σ[i]? = some (some (.ref a)) ∧ Mp.Own c S a ∧ H a = some (.lst vs) ∧ Rps H (Mp.Own c S) vs ds ∧ SW C W io E σ ρ c S H (f ds) := by
  unfold onL at h
  split at h
  · next ds e0 =>
    obtain ⟨a, vs, ha, ca, hv, rv⟩ := sr.ownL e0
    exact ⟨ds, a, vs, e0, ha, .inl ca, hv, rv, h⟩
  · exact h.elim
theorem ps_appM (hN : X.N[i]? = some x) (hv : Vis X.env.scope x) (hd : (x == ("__debug__" : Str)) = false) (hcd : (x == ("__classdict__" : Str)) = false) (he : PE X e (tM C W m)) (hst : noStar e = true) (hl : (apos.endLine == cpos.line) = true) :
    PS X (.Expr (.Call (.Attribute (.Name x px) "append" apos) [e] [] cpos) pos) (tS C W io (sApp i m)) :=
  PS.weak (ps_expr (pe_bm PySem.F.plainAttrs_list PySem.F.slot_list_append PySem.F.type_list_append mt_append (pe_var hN hv hd hcd) (pa_cons he pa_nil (starEach_cons hst)) rfl (by rw [starEach_cons hst]; rfl) hl (starEach_cons hst) rfl) rfl) fun E σ H ⟨ρ, c, S, sr, h⟩ => by
    obtain ⟨ds, a, vs, e0, ha, ca, hv, rv, h⟩ := onL_ok sr h
    refine ⟨.ref a, ha, .inl ⟨rfl, vs, SqL.of hv⟩, ρ, c, S, sr, (SW.rw sr h).imp fun v H1 ⟨r, x1, r1, q⟩ => ?_⟩
    split at q
    · next d e3 =>
      split at q
      · next hz =>
        refine ⟨a, vs, v, rfl, rfl, x1 _ _ hv, by rw [rv.length]; exact lim_lt hz, ?_⟩
        obtain ⟨s1, s2⟩ := (sr.ex x1).upd (io := io) (a := a) (o := .lst (vs ++ [v])) (d' := .lst (ds ++ [d])) e0 ha ⟨vs ++ [v], upd_same, ((rv.ex x1).append (Rps.one (r1.froz e3))).upd ca⟩
        exact q.nx s1 s2
      · exact q.elim
    · exact q.elim
theorem ps_extM (hN : X.N[i]? = some x) (hv : Vis X.env.scope x) (hd : (x == ("__debug__" : Str)) = false) (hcd : (x == ("__classdict__" : Str)) = false) (he : PE X e (tM C W m)) (hst : noStar e = true) (hl : (apos.endLine == cpos.line) = true) :
    PS X (.Expr (.Call (.Attribute (.Name x px) "extend" apos) [e] [] cpos) pos) (tS C W io (sExt i m)) :=
  PS.weak (ps_expr (pe_bm PySem.F.plainAttrs_list PySem.F.slot_list_extend PySem.F.type_list_extend mt_extend (pe_var hN hv hd hcd) (pa_cons he pa_nil (starEach_cons hst)) rfl (by rw [starEach_cons hst]; rfl) hl (starEach_cons hst) rfl) rfl) fun E σ H ⟨ρ, c, S, sr, h⟩ => by
    obtain ⟨ds, a, vs, e0, ha, ca, hv, rv, h⟩ := onL_ok sr h
    refine ⟨.ref a, ha, .inl ⟨rfl, vs, SqL.of hv⟩, ρ, c, S, sr, (SW.rw sr h).imp fun v H1 ⟨r, x1, r1, q⟩ => ?_⟩
    split at q
    · next es e3 =>
      split at q
      · next hz =>
        have rz := r1.froz e3
        simp only [Rp] at rz
        obtain ⟨b, zs, rfl, _, hb, rz⟩ := rz
        refine ⟨a, b, vs, zs, rfl, rfl, x1 _ _ hv, hb, by rw [rv.length, rz.length]; exact lim_ok hz, ?_⟩
        obtain ⟨s1, s2⟩ := (sr.ex x1).upd (io := io) (a := a) (o := .lst (vs ++ zs)) (d' := .lst (ds ++ es)) e0 ha ⟨vs ++ zs, upd_same, ((rv.ex x1).append rz).upd ca⟩
        exact q.nx s1 s2
      · exact q.elim
    · exact q.elim
theorem ps_clrM (hN : X.N[i]? = some x) (hv : Vis X.env.scope x) (hd : (x == ("__debug__" : Str)) = false) (hcd : (x == ("__classdict__" : Str)) = false) (hl : (apos.endLine == cpos.line) = true) :
    PS X (.Expr (.Call (.Attribute (.Name x px) "clear" apos) [] [] cpos) pos) (tS C W io (sClr i)) :=
  PS.weak (ps_expr (pe_bm0 PySem.F.plainAttrs_list PySem.F.slot_list_clear PySem.F.type_list_clear mt_clear (pe_var hN hv hd hcd) rfl hl) rfl) fun E σ H ⟨ρ, c, S, sr, h⟩ => by
    obtain ⟨ds, a, vs, e0, ha, ca, hv, rv, h⟩ := onL_ok sr h
    refine ⟨.ref a, ha, .inl ⟨rfl, vs, SqL.of hv⟩, a, vs, rfl, rfl, hv, ?_⟩
    obtain ⟨s1, s2⟩ := sr.upd (io := io) (a := a) (o := .lst []) (d' := .lst []) e0 ha ⟨[], upd_same, by simp [Rps]⟩
    exact h.nx s1 s2
end

section
variable {K : PySem.W.Frag} {io : List Nat} {σ : L2.St} {H H' : Hp} {ρ : Env} {c : Nat → List Addr} {S S' : Addr → Prop} {i : Nat}
theorem SR.less (h : SR K σ H ρ c S') (n : ∀ a, S a → S' a) : SR K σ H ρ c S :=
  ⟨h.len, fun i r e => let ⟨v, h1, h2⟩ := h.rep i r e; ⟨v, h1, h2.move (fun _ _ _ q => q) (fun _ _ n _ => n) (fun _ _ _ q => q) (fun _ _ m _ z => m (z.imp id (n _))) fun _ _ => rfl⟩, h.off, h.dis, fun i a q z => h.sep i a q (n a z), fun a z => h.trk a (z.imp id (n a))⟩
theorem SR.lend (h : SR K σ H ρ c S) {ds : List D} {a : Addr} {vs : List V} (e : ρ[i]? = some (some (.own (.lst ds)))) (ha : σ[i]? = some (some (.ref a))) (hc : c i = [a]) (hv : H a = some (.lst vs)) (r : Rps H (Mp.Own c S) vs ds) :
    SR K σ H (ρ.set i (some (.bor (.lst ds)))) (cut c i) (fun x => S x ∨ x = a) where
  len := by simp [h.len]
  rep := fun j r' ej => by
    have ow : ∀ x, Mp.Own (cut c i) (fun x => S x ∨ x = a) x → Mp.Own c S x := fun x z => by
      rcases z with z | z | z
      · exact .inl (cut_cel z)
      · exact .inr z
      · subst z; exact .inl ⟨i, by rw [hc]; simp⟩
    by_cases hj : i = j
    · subst hj
      rw [List.getElem?_set_self (List.getElem?_eq_some_iff.mp e).1] at ej
      cases ej
      refine ⟨.ref a, ha, by unfold cut; rw [if_pos rfl], a, vs, rfl, .inl ⟨fun z => ?_, .inl hv⟩, r.less ow⟩
      obtain ⟨j, hj⟩ := z
      unfold cut at hj
      split at hj
      · cases hj
      · next n => exact n (h.dis j i a hj (by rw [hc]; simp))
    · rw [List.getElem?_set_ne hj] at ej
      obtain ⟨w, w1, w2⟩ := h.rep j r' ej
      refine ⟨w, w1, ?_⟩
      rw [show cut c i j = c j by unfold cut; rw [if_neg (fun z => hj z.symm)]]
      exact w2.move (fun _ _ _ q => q) (fun _ _ n _ z => n (cut_cel z)) (fun _ _ _ q => q) (fun _ _ n _ z => n (ow _ z)) fun _ _ => rfl
  off := fun j ej => by
    unfold cut
    split
    · rfl
    · next n => exact h.off j fun r' z => ej r' (by rw [List.getElem?_set_ne (fun w => n w.symm)]; exact z)
  dis := fun j k x h1 h2 => (h.drop i).dis j k x h1 h2
  sep := fun j x h1 z => by
    unfold cut at h1
    split at h1
    · cases h1
    · next n =>
      rcases z with z | z
      · exact h.sep j x h1 z
      · subst z; exact n (h.dis j i x h1 (by rw [hc]; simp))
  trk := fun x z => by
    rcases z with z | z | z
    · exact h.trk x (.inl (cut_cel z))
    · exact h.trk x (.inr z)
    · subst z; exact ⟨_, hv⟩
end
section
variable {C : Cn} {W : WX} {io : List Nat} {E : Ends} {σ : L2.St} {H : Hp} {ρ : Env} {c : Nat → List Addr} {S : Addr → Prop} {i : Nat} {ds : List D} {o : Out}
end
section
variable {X : Cx} {C : Cn} {W : WX} {io : List Nat} {tg : Expr} {t : Tg} {mb : Env → Out} {sb : List Stmt} {pos px : Pos} {x : Str} {i : Nat}
end
end Mp

namespace Mp
open PySem L2

section
variable {M : Model} {A : Around} {E : Value → Shared → Prop} {s : Shared} {env : PySem.Env} {outer : List PySem.Env} {B : Heap} {a L : Addr} {Z : Obj → Prop}
theorem note_env {e : Value} {env env' : PySem.Env} (h : env.frame = env'.frame) : noteFrame e env = noteFrame e env' := by
  unfold noteFrame PySem.frameOf
  rw [h]
theorem note_any {fl : Value} {Q : Unit → Shared → Prop} (hZ : HandSPX.Steady Z) (fr : A.frames = some (env :: outer)) (hf : env.frame = some L) (k1 : B.StaysIn s.heap) (k2 : B.get? a = none)
    (k3 : s.heap.FunFrames B (env :: outer)) (tr : HandSPX.TracedZ s.heap B a Z fl) (hQ : ∀ h1, HandSPX.HeldZ B (env :: outer) a Z L h1 → s.heap.UpToSlots h1 → Q () { s with heap := h1 }) :
    wpAny M A (noteFrame (.ref a) env) Q E s := by
  by_cases hfl : (fl == rawInt L) = true
  · have e : fl = rawInt L := by simpa using hfl
    subst e
    exact HandSPX.againZ hf tr (hQ s.heap ⟨k1, k2, k3, tr⟩ (Heap.UpToSlots.refl _))
  · obtain ⟨oa, ws, Tb, oTb, us, q1, q2, q3, q4, q5, q6, q7, q8, q9⟩ := tr
    unfold noteFrame
    simp only [hf]
    refine wpAny_bind (wpAny_field q1 q3 q4 ?_)
    rw [if_pos (by simp)]
    refine wpAny_bind (wpAny_field q7 q8 q9 ?_)
    rw [if_neg hfl]
    refine wpAny_bind (wpAny_setField q7 q8 (Array.getElem?_eq_some_iff.mp q9).1 ?_)
    have oth : ∀ b, b ≠ Tb → (s.heap.update Tb (Obj.mapFields (·.setIfInBounds 3 Value.none))).get? b = s.heap.get? b := fun b nb => Heap.get?_update_other _ _ (Ne.symm nb)
    have nrec : ∀ b o, s.heap.get? b = some o → (∀ xs, o.data ≠ .fields xs) → b ≠ Tb := fun b o e nf z => by
      subst z
      rw [q7] at e
      cases e
      exact nf us q8
    refine HandSPX.wpAny_entryZ hZ fr (k3.of_keeps fun b o e nf => ⟨o, (oth b (nrec b o e nf)).trans e, rfl⟩) hf ((oth a (Ne.symm q6)).trans q1)
      (fun b o e => (oth b fun z => by subst z; rw [q5] at e; cases e).trans (k1 b o e)) k2 q3 (Array.getElem?_eq_some_iff.mp q4).1 q2 fun h1 n1 => ?_
    obtain ⟨n2, n3, n4, n5⟩ := n1
    exact hQ h1 ⟨n2, k2, n3, n4⟩ fun b o e nf => n5 b o ((oth b (nrec b o e nf)).trans e) nf
theorem sky_note {L0 : Addr} {Q : Unit → Shared → Prop} (hZ : HandSPX.Steady Z) (fr : A.frames = some (env :: outer)) (hf : env.frame = some L) (x : Sky B (env :: outer) a Z L0 s.heap)
    (hQ : ∀ h1, HandSPX.HeldZ B (env :: outer) a Z L h1 → s.heap.UpToSlots h1 → Q () { s with heap := h1 }) : wpAny M A (noteFrame (.ref a) env) Q E s := by
  rcases x with ⟨x1, x2, x3, oa, ws, x4, x5, x6, x7⟩ | x | x
  · exact HandSPX.look_newZ hZ fr x3 hf x4 x1 x2 x6 x7 x5 hQ
  · exact note_any hZ fr hf x.1 x.2.1 x.2.2.1 x.2.2.2 hQ
  · exact note_any hZ fr hf x.1 x.2.1 x.2.2.1 x.2.2.2 hQ

def cErr (M : Model) (A : Around) (E : Value → Shared → Prop) (c : Addr) (fr : Option Addr) (x : Value) (s : Shared) : Prop :=
  ∃ m, s.heap.Ns c m ∧ ∀ h1, Heap.SameBut c s.heap h1 → ∀ ce : PySem.Env, ce.locals = c → ce.frame = fr → wpAny M A (passOn "comprehension.variables-let-go" x ce : Sem Value) (fun _ _ => False) E { s with heap := h1 }
def cPost (M : Model) (A : Around) (E : Value → Shared → Prop) (use : Option (Value → Sem Unit)) (Q : Value → Shared → Prop) (acc : Value) (c : Addr) (fr : Option Addr) : Result → Shared → Prop
  | .ok f, s => compPost M A E use Q acc c (.ok f) s
  | .error x, s => cErr M A E c fr x s
theorem comp_rule {e : Expr} {scope : Scope} {pos : Pos} {mk first : Sem Value} {g : Comprehension} {gs : List Comprehension} {cl : List (Str × Addr)} {use : Option (Value → Sem Unit)} {Q : Value → Shared → Prop}
    (k1 : clausesOf e = g :: gs) (k2 : ∀ x, foldedSetIterable g.iter env x = pure x) (k3 : closureFor scope env = pure cl) (k4 : scope.kind = .function)
    (k5 : ∀ y ∈ scope.names, y.2 = .local → scope.names.lookup y.1 = some .local)
    (h : wpAny M A first (fun x s1 => wpAny M A (pyIter x) (fun it s2 => wpAny M A mk (fun acc s3 => wpAny M A (newFunctionEnv scope env.globals cl [] env.qual none .none (some env)) (fun ce s4 =>
      codeAny M A (.compStart e 0 it acc { ce with scope := relabel scope env }) (cPost M A E use Q acc ce.locals ce.frame) s4) E s3) E s2) E s1) E s) :
    wpAny M A (comprehension e scope env pos mk false first use) Q E s := by
  unfold comprehension
  rw [k3, k1]
  refine wpAny_bind (wpAny_mono h (fun x s1 h1 => ?_) fun _ _ z => z)
  refine wpAny_bind (wpAny_standAt (wpAny_bind (wpAny_of_eq (k2 x) (wpAny_bind (wpAny_holding (wpAny_mono h1 (fun it s2 h2 => ?_) fun _ _ z => z))))))
  refine wpAny_standIf (wpAny_bind (wpAny_mono h2 (fun acc s3 h3 => ?_) fun _ _ z => z))
  refine wpAny_bind (wpAny_pure (wpAny_bind (wpAny_mono h3 (fun ce s4 h4 => ?_) fun _ _ z => z)))
  dsimp only
  generalize hl : (scope.names.filter fun y => (y.2 == .local || y.2 == .cell) && y.1 != (".0" : Str)).reverse = vars
  have v1 : ∀ y ∈ vars, y.2 = .local → PySem.Env.kindOf { ce with scope := relabel scope env } y.1 = some .local := fun y hy e => by
    subst hl
    exact lookup_relabel_local (k5 y (List.mem_filter.mp (List.mem_reverse.mp hy)).1 e)
  have v2 : ∀ y ∈ vars.drop 1 ++ vars.take 1, y.2 = .local → PySem.Env.kindOf { ce with scope := relabel scope env } y.1 = some .local := fun y hy => v1 y ((List.mem_append.mp hy).elim List.mem_of_mem_drop List.mem_of_mem_take)
  refine wpAny_holding (wpAny_bind (wpAny_attempt (wpAny_holding (wpAny_run (codeAny_mono h4 fun r s5 h5 => ?_)))))
  cases r with
  | ok f =>
    cases use with
    | none =>
      obtain ⟨m, n1, n2⟩ := h5
      exact wpAny_bind (wpAny_holding (wpAny_comp_letGo (cenv := { ce with scope := relabel scope env }) k4 vars s5 m v1 n1 fun h6 m6 _ b6 => wpAny_pure (n2 h6 b6)))
    | some u =>
      refine wpAny_bind (wpAny_rule (wpAny_bind (wpAny_holding (wpAny_mono h5 (fun _ s6 h6 => ?_) fun _ _ z => z))))
      obtain ⟨m, n1, n2⟩ := h6
      exact wpAny_bind (wpAny_comp_letGo (cenv := { ce with scope := relabel scope env }) k4 _ s6 m v2 n1 fun h7 m7 _ b7 => wpAny_pure (n2 h7 b7))
  | error x =>
    have h6 : cErr M A E ce.locals ce.frame x s5 := by cases use <;> exact h5
    obtain ⟨m, n1, n2⟩ := h6
    exact wpAny_bind (wpAny_holding (wpAny_comp_letGo (cenv := { ce with scope := relabel scope env }) k4 vars s5 m v1 n1 fun h7 m7 _ b7 =>
      wpAny_mono (n2 h7 b7 _ rfl rfl) (fun _ _ z => z.elim) fun _ _ z => z))
end

structure Top (X : Cx) (F : Addr) : Prop where
  fr : X.env.frame = some F
  st : ∃ e0 r, X.stack = e0 :: r ∧ e0.frame = some F
def XEL (X : Cx) (W : WX) (F : Addr) (u : Value) (s : Shared) : Prop :=
  ∃ (a : Addr) (B : Heap) (sI : Shared) (pins : List (Addr × Obj)) (σ : L2.St) (H : Hp) (cls : Value) (d : Option Addr), u = .ref a ∧ Inv X pins σ H sI ∧ (∀ b o, sI.heap.get? b = some o → b ∉ frs X.stack → B.get? b = some o) ∧ sI.heap.UpToSlots s.heap ∧
    HandSPX.HeldZ B X.stack a (Zc cls d) F s.heap ∧ H a = none ∧ s.os = sI.os ∧ PyProof.Rows.AllBare s.gens ∧ W cls d σ H
def TkF (X : Cx) (W : WX) : Prop := ∀ F, Top X F → ∀ u s, XEL X W F u s → X.xe u s
theorem tkF_of {X : Cx} {W : WX} (hf : X.env.frame = some X.env.locals) (tk : Takes X W) : TkF X W := fun F t u s ⟨a, B, sI, pins, σ, H, cls, d, e, I, nb, up, hh, na, os, ag, w⟩ => by
  have eF : F = X.env.locals := by
    have z := t.fr
    rw [hf] at z
    cases z
    rfl
  subst eF
  exact tk u s ⟨a, B, sI, pins, σ, H, cls, d, e, I, nb, up, .inr (.inr hh), na, os, ag, w⟩
section
variable {X : Cx} {W : WX} {pins : List (Addr × Obj)} {σ : L2.St} {H3 : Hp} {s3 s' : Shared} {scope : Scope} {ce : PySem.Env} {fp : List Addr} {F : Addr}
theorem blk_err {E : Value → Shared → Prop} {u : Value} {L0 : Addr} (I3 : Inv X pins σ H3 s3) (top : Top X F) (tkf : TkF X W) (cL : ce.locals = s3.heap.objs.size) (cF : ce.frame = X.env.frame) (f3 : ∀ b ∈ fp, FpOk X pins H3 b ∧ b < s3.heap.objs.size)
    (x : ∃ (a : Addr) (B : Heap) (sI : Shared) (pins' : List (Addr × Obj)) (σ' : L2.St) (H' : Hp) (cls : Value) (d : Option Addr), u = .ref a ∧ Inv (X.blk s3 H3 scope ce fp) pins' σ' H' sI ∧ (∀ b o, sI.heap.get? b = some o → b ∉ frs X.stack → B.get? b = some o) ∧
      sI.heap.UpToSlots s'.heap ∧ Sky B X.stack a (Zc cls d) L0 s'.heap ∧ H' a = none ∧ s'.os = sI.os ∧ PyProof.Rows.AllBare s'.gens ∧ W cls d σ H') :
    wpAny (model X.prog X.w) X.A (noteFrame u ce) (fun _ s1 => cErr (model X.prog X.w) X.A X.xe s3.heap.objs.size X.env.frame u s1) E s' := by
  obtain ⟨a, B, sI, pins', σ', H', cls, d, rfl, J, nb, up, sky, na, os, ag, w⟩ := x
  have top' := top
  obtain ⟨hfrm, e0, r, hst, h0⟩ := top
  have fr : X.A.frames = some (e0 :: r) := by rw [I3.ok.frames, hst]
  rw [note_env (env' := e0) (by rw [cF, hfrm, h0])]
  rw [hst] at sky
  refine sky_note Zc.steady fr h0 sky fun h1 hh up1 => ?_
  obtain ⟨m, hn, _⟩ := J.loc
  have hn : sI.heap.Ns ce.locals m := hn
  have nC : H' ce.locals = none := J.free
  rw [cL] at hn nC
  have fpC : FpOk X pins H' s3.heap.objs.size := I3.fpOk (Nat.le_refl _) nC
  have frlt : ∀ b ∈ frs X.stack, b < s3.heap.objs.size := fun b hb => by
    obtain ⟨_, o, e, _⟩ := I3.stack.mem hb
    exact Heap.lt_size e
  have I7 : Inv X pins σ H' sI := I3.call' (ch := fp) J.os J.base J.hok J.bare fun b hb => by
    obtain ⟨⟨_, z1, _, z3, z4, z5⟩, _⟩ := f3 b hb
    exact ⟨z3, z1, z4, z5⟩
  generalize s3.heap.objs.size = c at hn nC fpC frlt
  have cst : c ∉ frs X.stack := fun z => Nat.lt_irrefl _ (frlt c z)
  obtain ⟨oc, es, ep, hoc, hrest⟩ := hn
  have hBc : B.get? c = some oc := nb c oc hoc cst
  refine ⟨m, ⟨oc, es, ep, hh.1 c oc hBc, hrest⟩, fun h2 sb ce2 c1 c2 => ?_⟩
  obtain ⟨G, g1, g2⟩ := restrict B fun b => decide (b ≠ c)
  have og : ∀ b o, G.get? b = some o → b ≠ c ∧ B.get? b = some o := fun b o e => by
    by_cases z : b = c
    · rw [g2 b (by simp [z])] at e; cases e
    · rw [g1 b (by simp [z])] at e; exact ⟨z, e⟩
  have ga : ∀ b, B.get? b = none → G.get? b = none := fun b e => by
    cases q : G.get? b with
    | none => rfl
    | some o => rw [(og b o q).2] at e; cases e
  have nec : ∀ b, B.get? b = none → b ≠ c := fun b e z => by subst z; rw [hBc] at e; cases e
  obtain ⟨t1, t2, t3, oa, ws, Tb, oTb, us, q1, q2, q3, q4, q5, q6, q7, q8, q9⟩ := hh
  have ff : h2.FunFrames G (e0 :: r) := by
    refine funFrames_none (base := B) ?_ fun b hb => ga b ?_
    · have z : ∀ {l : List PySem.Env}, (∀ b ∈ frs l, b ≠ c) → h1.FunFrames B l → h2.FunFrames B l := by
        intro l
        induction l with
        | nil => exact fun _ _ => trivial
        | cons en l ih =>
          rintro hne ⟨z1, ⟨L1, o1, z2, z3, z4, z5⟩, z6⟩
          have ef : frs (en :: l) = L1 :: frs l := by simp [frs, z2]
          rw [ef] at hne
          exact ⟨z1, ⟨L1, o1, z2, z3, (sb.2 L1 (hne L1 List.mem_cons_self)).trans z4, z5⟩, ih (fun b hb => hne b (List.mem_cons_of_mem _ hb)) z6⟩
      exact z (fun b hb e => cst (by rw [hst, ← e]; exact hb)) t3
    · exact (t3.mem hb).1
  have hh2 : HandSPX.HeldZ G (e0 :: r) a (Zc cls d) F h2 := ⟨fun b o e => (sb.2 b (og b o e).1).trans (t1 b o (og b o e).2), ga a t2, ff, oa, ws, Tb, oTb, us, (sb.2 a (nec a t2)).trans q1, q2, q3, q4, ga Tb q5, q6, (sb.2 Tb (nec Tb q5)).trans q7, q8, q9⟩
  have fin : wpAny (model X.prog X.w) X.A (setFlight (.ref a) ce2.frame) (fun _ s4 => wpAny (model X.prog X.w) X.A (throw (.ref a) : Sem Value) (fun _ _ => False) X.xe s4) X.xe { s' with heap := h2 } := by
    rw [c2, hfrm]
    refine HandSPX.setFlight_onZ hh2 fun h3 hh3 up3 => wpAny_throw (tkf F top' _ _ ?_)
    obtain ⟨G2, k1, k2⟩ := restrict sI.heap fun b => decide (b ≠ c)
    have ok : ∀ b o, G2.get? b = some o → b ≠ c ∧ sI.heap.get? b = some o := fun b o e => by
      by_cases z : b = c
      · rw [k2 b (by simp [z])] at e; cases e
      · rw [k1 b (by simp [z])] at e; exact ⟨z, e⟩
    obtain ⟨f0, f1, f2, f3, f4, f5⟩ := fpC
    have JJ : Inv X pins σ H' { sI with heap := G2, toks := sI.toks } := I7.turned (it := c) (fun b o hb e => by rw [k1 b (by simp [hb])]; exact e) f0 f1 f3 f4 f5
    refine ⟨a, G, { sI with heap := G2, toks := sI.toks }, pins, σ, H', cls, d, rfl, JJ, fun b o e hb => ?_, fun b o e nf => ?_, by rw [hst]; exact hh3, na, os, ag, w⟩
    · obtain ⟨z1, z2⟩ := ok b o e
      rw [g1 b (by simp [z1])]
      exact nb b o z2 hb
    · obtain ⟨z1, z2⟩ := ok b o e
      obtain ⟨sl, z3⟩ := (up.trans up1) b o z2 nf
      exact up3 b { o with slots := sl } ((sb.2 b z1).trans z3) nf
  unfold PySem.passOn
  refine wpAny_bind (wpAny_field ((sb.2 a (nec a t2)).trans q1) q3 q4 ?_)
  rw [if_neg (show ¬ ((Value.ref Tb == Value.none) = true) from by simp)]
  first
    | exact wpAny_bind (wpAny_pure (wpAny_bind fin))
    | exact wpAny_bind fin
end

abbrev BlkE (X : Cx) (scope : Scope) (W : WX) (f : Cx → Prop) : Prop := ∀ (s : Shared) (H : Hp) (C : Addr) (cl : List (Str × Addr)) (fp : List Addr) (E : Value → Shared → Prop),
  Takes ((X.blk s H scope (compEnvC scope cl C X.env) fp).wish E) W → TkF ((X.blk s H scope (compEnvC scope cl C X.env) fp).wish E) W → f ((X.blk s H scope (compEnvC scope cl C X.env) fp).wish E)
section
variable {X : Cx} {W : WX}
theorem lc_coreX {pins : List (Addr × Obj)} {s : Shared} {σ : L2.St} {H : Hp} {Q : VK} {elt tg iter : Expr} {ifs : List Expr} {scope : Scope} {own : List (Str × Nat)} {pos pos' : Pos} {wi : TI} {g : TG} {tt : TT} {te : TE} {use : Option (Value → Sem Unit)} {Qf : Value → Shared → Prop} {F : Addr}
    (hc : X.calm = true) (nd : X.N.Nodup) (top : Top X F) (tkf : TkF X W) (I : Inv X pins σ H s) (hi : PI X tg iter wi) (bk : BlkOk X.N X.env.scope scope own)
    (hg : BlkE X scope (WBl W σ) fun B => PG B tg g) (ht : BlkE X scope (WBl W σ) fun B => PTs B ifs tt) (he : BlkE X scope (WBl W σ) fun B => PE B elt te) (hs : ∀ x, foldedSetIterable iter X.env x = pure x)
    (h : tLc wi g tt te (own.map (·.2)) σ H Q)
    (fin : ∀ D c s1 m H1, Inv X pins σ H1 s1 → Q (.ref D) H1 → s1.heap.Ns c m → FpOk X pins H1 c → compPost (model X.prog X.w) X.A X.xe use Qf (.ref D) c (.ok .next) s1) :
    wpAny (model X.prog X.w) X.A (comprehension (.ListComp elt [⟨tg, iter, ifs, 0⟩] scope pos) scope X.env pos' (newList []) false (eval iter X.env) use) Qf X.xe s := by
  have free : ∀ y ∈ scope.names, y.2 = .free → ∃ c, X.env.cells.lookup y.1 = some c := fun y hy e => (bk.free y hy e).elim (fun k => I.ok.has _ (.inl k)) (fun k => I.ok.has _ (.inr k))
  refine comp_rule (use := use) rfl hs (closure_ok free) bk.kind (fun y hy e => (bk.uniq y hy).trans (congrArg some e)) (thn (hi.run pins s σ H _ I h) fun xv s1 hx => thn hx fun itv s2 h2 => ?_)
  obtain ⟨it, fp, tn, J, H2, e, I2, T, st2, f2, q⟩ := h2
  subst e
  refine wpAny_newObj_type (newEnv_comp ?_) (by show 0 ≤ sizeLine; decide)
  generalize eD : s2.heap.objs.size = D
  obtain ⟨Wm, ⟨m0, w0⟩, turn⟩ := q D (I2.hok.fresh (Nat.le_of_eq eD))
  generalize e3 : ({ s2 with heap := s2.heap.push { cls := .type "list", data := .seq ([] : List Value).toArray } } : Shared) = s3
  have h3 : s3.heap = s2.heap.push { cls := .type "list", data := .seq ([] : List Value).toArray } := by rw [← e3]
  have I3 : Inv X pins σ (upd H2 D (.lst [])) s3 := by
    rw [← e3]
    refine I2.laid (t' := s2.toks) (fun b o z => Heap.get?_push_of_some _ z) (Nat.le_of_eq eD) ⟨Nat.zero_le _, [], 0, .nil, ?_⟩
    rw [← eD]
    exact Heap.get?_push_size _ rfl
  have f3 : ∀ b ∈ fp, FpOk X pins (upd H2 D (.lst [])) b ∧ b < s3.heap.objs.size := fun b hb => by
    obtain ⟨o, z, _⟩ := T.obj _ _ st2 b hb
    have hlt := Heap.lt_size z
    refine ⟨⟨?_, (f2 b hb).2⟩, by rw [h3, Heap.size_push]; exact Nat.lt_succ_of_lt hlt⟩
    rw [upd_ne (by rw [← eD]; exact Nat.ne_of_lt hlt)]
    exact (f2 b hb).1
  have st3 : tn 0 s3.heap := T.keep _ _ _ st2 fun b _ o z => by rw [h3]; exact Heap.get?_push_of_some _ z
  have I4 := block_start I3 bk nd f3
  have pg := hg s3 (upd H2 D (.lst [])) s3.heap.objs.size (cellsFrom (s3.heap.objs.size + 1) scope.names (cloFrom X.env.cells scope.names [])) fp
  have pt := ht s3 (upd H2 D (.lst [])) s3.heap.objs.size (cellsFrom (s3.heap.objs.size + 1) scope.names (cloFrom X.env.cells scope.names [])) fp
  have pe := he s3 (upd H2 D (.lst [])) s3.heap.objs.size (cellsFrom (s3.heap.objs.size + 1) scope.names (cloFrom X.env.cells scope.names [])) fp
  show codeAny _ _ (.compStart (.ListComp elt [⟨tg, iter, ifs, 0⟩] scope pos) 0 (.ref it) (.ref D) (compEnvC scope (cellsFrom (s3.heap.objs.size + 1) scope.names (cloFrom X.env.cells scope.names [])) s3.heap.objs.size X.env))
    (cPost (model X.prog X.w) X.A X.xe use Qf (.ref D) s3.heap.objs.size X.env.frame) { s3 with heap := pushCells (s3.heap.push { cls := .type "dict", data := .dict #[] }) scope.names }
  have nfp : ∀ b ∈ fp, (upd H2 D (.lst [])) b = none := fun b hb => (f3 b hb).1.1
  generalize ece : compEnvC scope (cellsFrom (s3.heap.objs.size + 1) scope.names (cloFrom X.env.cells scope.names [])) s3.heap.objs.size X.env = ce at I4 pg pt pe ⊢
  have cL : ce.locals = s3.heap.objs.size := by subst ece; rfl
  have cF : ce.frame = X.env.frame := by subst ece; rfl
  generalize eH3 : upd H2 D (.lst []) = H3 at I3 I4 pg pt pe w0 nfp f3
  generalize e4 : ({ s3 with heap := pushCells (s3.heap.push { cls := .type "dict", data := .dict #[] }) scope.names } : Shared) = s4 at I4 ⊢
  have st4 : tn 0 s4.heap := T.keep _ _ _ st3 fun b _ o z => by rw [← e4]; exact pushCells_keeps _ _ _ _ (Heap.get?_push_of_some _ z)
  -- the block's errors
  generalize eE : (notedBy (model X.prog X.w) X.A ce fun e s' => cPost (model X.prog X.w) X.A X.xe use Qf (.ref D) s3.heap.objs.size X.env.frame (.error e) s') = E
  have tkB : Takes ((X.blk s3 H3 scope ce fp).wish E) (WBl W σ) := fun u s5 x => by
    obtain ⟨a, B, sI, pins', σ', H', cls, d, eu, J', nb, up, sky, na, os, ag, w⟩ := x
    show E u s5
    rw [← eE]
    exact blk_err I3 top tkf cL cF f3 ⟨a, B, sI, pins', σ', H', cls, d, eu, J'.unwish, nb, up, sky, na, os, ag, w⟩
  have tfB : TkF ((X.blk s3 H3 scope ce fp).wish E) (WBl W σ) := fun F' _ u s5 x => by
    obtain ⟨a, B, sI, pins', σ', H', cls, d, eu, J', nb, up, hh, na, os, ag, w⟩ := x
    show E u s5
    rw [← eE]
    exact blk_err (L0 := F') I3 top tkf cL cF f3 ⟨a, B, sI, pins', σ', H', cls, d, eu, J'.unwish, nb, up, .inr (.inr hh), na, os, ag, w⟩
  have pg := pg E tkB tfB
  have pt := pt E tkB tfB
  have pe := pe E tkB tfB
  have stat : ∀ {σ' : L2.St} {H' : Hp} {s' : Shared}, Inv ((X.blk s3 H3 scope ce fp).wish E) [] σ' H' s' → (∀ b ∈ fp, H' b = none) → ∀ b ∈ fp, FpOk ((X.blk s3 H3 scope ce fp).wish E) [] H' b := fun {σ' H' s'} I' hn b hb =>
    ⟨hn b hb, (I'.ok.exf b hb).1, I'.ok.exfs b hb, .inl hb, fun x c z => (I'.ok.exf b hb).2 x c z, fun p hp => absurd (show p ∈ ([] : List (Addr × Obj)) ++ [] from hp) (by simp)⟩
  have loop : codeAny (model X.prog X.w) X.A (.compLoop (.ListComp elt [⟨tg, iter, ifs, 0⟩] scope pos) 0 (.ref it) (.ref D) ce) (cPost (model X.prog X.w) X.A X.xe use Qf (.ref D) s3.heap.objs.size X.env.frame) s4 := by
    refine compLoop_any (fun n s' => ∃ i H', Inv ((X.blk s3 H3 scope ce fp).wish E) [] (L2.wipe σ (own.map (·.2))) H' s' ∧ tn i s'.heap ∧ (∀ b ∈ fp, H' b = none) ∧ Wm i n H') ?_ m0 ⟨0, H3, I4.wish E, st4, nfp, w0⟩
    rintro n s5 ⟨i, H5, I5, st5, n5, w5⟩
    rw [eE]
    rcases turn i n H5 w5 with ⟨stop, qq⟩ | ⟨go, Nx, hNx, step⟩
    · refine thnF (T.done ((X.blk s3 H3 scope ce fp).wish E) rfl rfl rfl hc i [] s5 _ H5 (fun _ _ => False) I5 (stat I5 n5) st5 stop) fun r s6 ⟨hr, I6⟩ => ?_
      subst hr
      have I7 : Inv X pins σ H5 s6 := I3.call' (ch := fp) I6.os I6.base I6.hok I6.bare fun b hb => by
        obtain ⟨⟨_, z1, _, z3, z4, z5⟩, _⟩ := f3 b hb
        exact ⟨z3, z1, z4, z5⟩
      have nC : H5 ce.locals = none := I6.free
      obtain ⟨m, hn, _⟩ := I6.loc
      have hn : s6.heap.Ns ce.locals m := hn
      rw [cL] at hn nC
      exact fin D s3.heap.objs.size s6 m H5 I7 qq hn (I3.fpOk (Nat.le_refl _) nC)
    · refine thnF (T.item ((X.blk s3 H3 scope ce fp).wish E) rfl rfl rfl hc i [] s5 _ H5 (fun _ _ => False) I5 (stat I5 n5) st5 go) fun r s6 ⟨u, hr, h6⟩ => ?_
      subst hr
      refine thnF h6 fun _ s7 ⟨x, H7, I7, r7, y7, st7, n7⟩ => ?_
      have I7' := I7.pinned (stat I7 n7) (T.obj _ _ st7)
      refine wpAny_mono (pg.run _ s7 _ H7 x u _ I7' r7 (step x H7 y7)) (fun _ s8 ⟨σ8, H8, I8, hw8, q8⟩ => ?_) fun _ _ z => z
      refine wpAny_mono (pt.run _ s8 σ8 H8 _ I8 q8) (fun b s9 ⟨H9, I9, q9⟩ => ?_) fun _ _ z => z
      have on : ∀ {s' : Shared} {H' : Hp}, Inv ((X.blk s3 H3 scope ce fp).wish E) ([] ++ pinsAt fp s7.heap) σ8 H' s' → Nx H' → ∃ m, m < n ∧ ∃ i H', Inv ((X.blk s3 H3 scope ce fp).wish E) [] (L2.wipe σ (own.map (·.2))) H' s' ∧ tn i s'.heap ∧ (∀ b ∈ fp, H' b = none) ∧ Wm i m H' := fun {s' H'} I' nx => by
        obtain ⟨m', hm, w'⟩ := hNx H' nx
        have pin' : ∀ b ∈ fp, ∀ o, s7.heap.get? b = some o → s'.heap.get? b = some o ∧ H' b = none := fun b hb o z => by
          have y := I'.pin (b, o) (List.mem_append_right _ (List.mem_append_right _ (mem_pinsAt hb z)))
          exact ⟨y.1, y.2.1⟩
        refine ⟨m', hm, i + 1, H', (I'.unpinned (pins := [])).weak (by rw [← hw8, L2.wipe_length]) (fun j v z => ?_), T.keep _ _ _ st7 fun b hb o z => (pin' b hb o z).1, fun b hb => ?_, w'⟩
        · rw [← hw8] at z
          exact (L2.wipe_some z).1
        · obtain ⟨o, z, _⟩ := T.obj _ _ st7 b hb
          exact (pin' b hb o z).2
      cases b with
      | false =>
        simp only [Bool.false_eq_true, if_false] at q9 ⊢
        exact on I9 q9
      | true =>
        simp only [if_true] at q9 ⊢
        refine wpAny_mono (pe.run _ s9 σ8 H9 _ I9 q9) (fun z s10 ⟨yv, H10, I10, r10, acc, hD10, hz10, nx⟩ => ?_) fun _ _ z => z
        exact app_ok (X := (X.blk s3 H3 scope ce fp).wish E) I10 hD10 hz10 r10 fun s11 I11 => on I11 nx
  exact codeAny_compStart_list loop (T.self X.A 0 _ _ _ st4 loop)
theorem pe_lcX {elt tg iter : Expr} {ifs : List Expr} {scope : Scope} {own : List (Str × Nat)} {pos : Pos} {wi : TI} {g : TG} {tt : L2.St → TT} {te : L2.St → TE} {F : Addr} (hc : X.calm = true) (nd : X.N.Nodup) (top : Top X F) (tkf : TkF X W) (hi : PI X tg iter wi)
    (bk : BlkOk X.N X.env.scope scope own) (hg : ∀ σ, BlkE X scope (WBl W σ) fun B => PG B tg g) (ht : ∀ σ, BlkE X scope (WBl W σ) fun B => PTs B ifs (tt σ)) (he : ∀ σ, BlkE X scope (WBl W σ) fun B => PE B elt (te σ))
    (hs : ∀ x, foldedSetIterable iter X.env x = pure x) : PE X (.ListComp elt [⟨tg, iter, ifs, 0⟩] scope pos) (fun σ H Q => tLc wi g (tt σ) (te σ) (own.map (·.2)) σ H Q) := by
  refine ⟨fun pins s σ H Q I h => ?_⟩
  rw [eval_ListComp]
  refine lc_coreX hc nd top tkf I hi bk (hg σ) (ht σ) (he σ) hs h fun D c s1 m H1 I1 q hn f => ⟨m, hn, fun h2 sb => ?_⟩
  obtain ⟨f0, f1, f2, f3, f4, f5⟩ := f
  exact ⟨.ref D, H1, I1.turned (t' := s1.toks) (fun b o hb e => (sb.2 b hb).trans e) f0 f1 f3 f4 f5, rfl, q⟩
theorem ps_setLcX {i : Nat} {y : Str} {py : Pos} {elt tg iter : Expr} {ifs : List Expr} {scope : Scope} {own : List (Str × Nat)} {pos spos : Pos} {wi : TI} {g : TG} {tt : L2.St → TT} {te : L2.St → TE} {F : Addr} (hc : X.calm = true) (nd : X.N.Nodup) (top : Top X F) (tkf : TkF X W)
    (hy : X.N[i]? = some y) (hyl : X.env.scope.names.lookup y = some .local) (hsw : swapsWith (.ListComp elt [⟨tg, iter, ifs, 0⟩] scope pos) (some (.Name y py)) spos.line X.env = pure true) (hi : PI X tg iter wi)
    (bk : BlkOk X.N X.env.scope scope own) (hg : ∀ σ, BlkE X scope (WBl W σ) fun B => PG B tg g) (ht : ∀ σ, BlkE X scope (WBl W σ) fun B => PTs B ifs (tt σ)) (he : ∀ σ, BlkE X scope (WBl W σ) fun B => PE B elt (te σ))
    (hs : ∀ x, foldedSetIterable iter X.env x = pure x) :
    PS X (.Assign [.Name y py] (.ListComp elt [⟨tg, iter, ifs, 0⟩] scope pos) spos) (tAsg (fun σ H Q => tLc wi g (tt σ) (te σ) (own.map (·.2)) σ H Q) (gName i)) := by
  refine ⟨fun pins s σ H D I h => ?_⟩
  rw [exec_Assign_Name_used _ _ _ _ hsw]
  refine wpAny_bind (wpAny_standAt (wpAny_bind ?_))
  show wpAny _ X.A (do let _ ← comprehension (.ListComp elt [⟨tg, iter, ifs, 0⟩] scope pos) scope X.env (firstIterPos [⟨tg, iter, ifs, 0⟩] pos) (newList []) false (eval iter X.env) (some (PySem.assign (.Name y py) X.env))) _ _ s
  have h' : tLc wi g (tt σ) (te σ) (own.map (·.2)) σ H (fun x H1 => gName i x σ H1 D.nx) := h
  refine wpAny_bind (thn (lc_coreX (Qf := fun _ s1 => SP X pins D .next s1) hc nd top tkf I hi bk (hg σ) (ht σ) (he σ) hs h' fun L c s1 m H1 I1 q hn f => ?_) fun _ s1 hq => wpAny_pure (wpAny_pure hq))
  show wpAny _ _ (PySem.assign (.Name y py) X.env (.ref L)) _ _ _
  refine wpAny_assign_Name (store_ok2 (v := V.ref L) I1 nd hy (.inl hyl) rfl (fun s2 I2 ⟨a, sb, ha⟩ => ?_) (.inr hyl))
  obtain ⟨f0, f1, f2, f3, f4, f5⟩ := f
  have hac : c ≠ a := fun e => by
    rcases ha with z | z
    · exact f1 (e.trans z)
    · exact f4 y a z e.symm
  refine ⟨m, hn.sameBut sb hac, fun h3 sb3 => ?_⟩
  exact ⟨_, H1, I2.turned (t' := s2.toks) (fun b o hb e => (sb3.2 b hb).trans e) f0 f1 f3 f4 f5, q⟩
end
end Mp

namespace Mp
open PySem L2

def AR (K : PySem.W.Frag) (H : Hp) (P : Addr → Prop) (v : V) : R → Prop
  | .val d => Rp H P v d
  | .bor d => Lent K H P v d
  | .own _ => False
def R.arg : R → R
  | .own d => .val d
  | r => r
theorem RR.toAR {K : PySem.W.Frag} {H0 H : Hp} {P : Addr → Prop} {v : V} {r : R} (h : RR K H0 H P v r) : AR K H P v r.arg := by
  cases r with
  | val d => exact h
  | own d => exact RR.froz (r := .own d) h rfl
  | bor d => exact h
theorem Pd.toAR {K : PySem.W.Frag} {H0 H : Hp} {P : Addr → Prop} {vs : List V} {rs : List R} (h : Paired (RR K H0 H P) vs rs) : Paired (AR K H P) vs (rs.map R.arg) := by
  induction h with
  | nil => exact .nil
  | cons r _ ih => exact .cons r.toAR ih
def spP (C : Cn) (n : Nat) (run : List R → Res R) : Sp := fun vs H Q E => vs.length = n ∧ ∃ rs P, (∀ a, P a → ∃ o, H a = some o) ∧ Paired (AR C.K H P) vs rs ∧ RW C (fun cls d _ H' => E cls d H') P [] H (run rs) Q
def eCall (run : List R → Res R) (ms : List (Env → Res R)) (ρ : Env) : Res R := (eArgs ms ρ).bind fun rs => run (rs.map R.arg)
def scV : D → V
  | .non => .non
  | .bl b => .bl b
  | .int i => .int i
  | .str x => .str x
  | _ => .non
def scOk : D → Bool
  | .non => true
  | .bl _ => true
  | .int _ => true
  | .str x => strOk x
  | _ => false
theorem rp_scV {H : Hp} {P : Addr → Prop} {d : D} (h : scOk d = true) : Rp H P (scV d) d := by
  cases d <;> first | (simp [scOk] at h; done) | (simp [scV, Rp]; done) | (simp only [scV, Rp]; exact ⟨trivial, h⟩)
theorem rr_scVs {K : PySem.W.Frag} {H0 H : Hp} {P : Addr → Prop} : ∀ {dd : List D}, dd.all scOk = true → Paired (RR K H0 H P) (dd.map scV) (dd.map R.val)
  | [], _ => .nil
  | d :: dd, h => by
    rw [List.all_cons, Bool.and_eq_true] at h
    exact .cons (show Rp H P (scV d) d from rp_scV h.1) (rr_scVs h.2)
theorem Paired.app {α β : Type} {F : α → β → Prop} : ∀ {as : List α} {bs : List β} {as' : List α} {bs' : List β}, Paired F as bs → Paired F as' bs' → Paired F (as ++ as') (bs ++ bs')
  | _, _, _, _, .nil, h => h
  | _, _, _, _, .cons a t, h => .cons a (Paired.app t h)
def CallOk (X : Cx) (C : Cn) (n : Nat) (dd : List D) (run : List R → Res R) (x : Str) : Prop :=
  ∃ (j : Nat) (f : Addr) (fd : FuncData) (ps : List Str) (us : List Value), FnOk X.prog X.w X.K X.mg X.base (L2.CX X.prog X.w) j f fd ps (spP C n run) ∧ Room j X.A ∧ X.mg x = some (.ref f) ∧ PySem.W.keepIn X.K (.ref f) = true ∧ Binds X.K fd ps us ∧ Vals (dd.map scV) us ∧ dd.all scOk = true
theorem eArgs_len : ∀ {ms : List (Env → Res R)} {ρ : Env} {rs : List R}, eArgs ms ρ = .ok rs → rs.length = ms.length
  | [], _, _, e => by simp [eArgs] at e; subst e; rfl
  | m :: ms, ρ, rs, e => by
    unfold eArgs at e
    split at e
    · split at e
      · next r _ rs' e2 => cases e; rw [List.length_cons, List.length_cons, eArgs_len e2]
      · cases e
      · cases e
    · cases e
    · cases e
theorem RWs.bindE {C : Cn} {W : WX} {P : Addr → Prop} {σ : L2.St} {H : Hp} {res : Res (List R)} {f : List R → Res R} {Q : VK} (h : RW C W P σ H (res.bind f) Q) : RWs C W P σ H res (fun vs H' => ∃ rs, res = .ok rs ∧ Ex H H' ∧ Paired (RR C.K H H' P) vs rs ∧ RW C W P σ H' (f rs) Q) := by
  cases res with
  | ok r => exact fun v H' e q => ⟨r, rfl, e, q, RW.mono e h⟩
  | exc c pl => exact h
  | stuck => exact h
section
variable {X : Cx} {C : Cn} {W : WX} {e : Expr} {es : List Expr} {ms : List (Env → Res R)} {pos p : Pos} {x : Str}
theorem pe_ownM {n : Nat} {dd : List D} {run : List R → Res R} (hK : X.K = C.K) (tk : Takes X W) (F : CallOk X C n dd run x) (hg : Gl X x) (hdb : (x == ("__debug__" : Str)) = false) (ha : PA X (e :: es) (tMs C W (eArgs ms))) (hst : (e :: es).all noStar = true) (hn : ms.length + dd.length = n) :
    PE X (.Call (.Name x p) (e :: es) [] pos) (tM C W (eCall (fun rs => run (rs ++ dd.map .val)) ms)) := by
  have h1 := hst
  rw [List.all_cons, Bool.and_eq_true] at h1
  obtain ⟨j, f, fd, ps, us, F, hr, hm, hk, hb, hv, hsc⟩ := F
  exact PE.weak (pe_callSD F hr hg hm hk hb hv (passAt tk) ha hdb (starEach_cons h1.1) (starEach_any h1.2)) fun σ H Q ⟨ρ, c, S, sr, q⟩ => ⟨ρ, c, S, sr, (RWs.bindE q).imp fun vs H1 ⟨rs, er, x1, r1, q1⟩ => by
    refine ⟨by rw [List.length_append, List.length_map, Paired.length r1, eArgs_len er, hn], rs.map R.arg ++ dd.map .val, Mp.Own c S, (sr.ex x1).trk, ?_, ?_⟩
    · have a1 := Pd.toAR r1
      have a2 := Pd.toAR (rr_scVs (K := C.K) (H0 := H) (H := H1) (P := Mp.Own c S) hsc)
      rw [List.map_map] at a2
      exact Paired.app a1 a2
    · dsimp only at q1
      cases e2 : run (rs.map R.arg ++ dd.map .val) with
      | stuck => rw [e2] at q1; exact q1.elim
      | ok r => rw [e2] at q1; exact q1
      | exc k pl => rw [e2] at q1; exact q1⟩

theorem pe_lcM {elt tg iter : Expr} {ifs : List Expr} {scope : Scope} {own : List (Str × Nat)} {src : Env → Res (List D)} {t : Tg} {tt : Option (Env → Res R)} {me : Env → Res R} {F : Addr} (hK : X.K = C.K) (hc : X.calm = true) (hN : X.N.Nodup) (top : Top X F) (tkf : TkF X W)
    (hi : PI X tg iter (tI C W false src)) (ok : BlkOk X.N X.env.scope scope own) (ho : own.map (·.2) = t.slots)
    (hg : ∀ σ, BlkE X scope (WBl W σ) fun B => PG B tg (tgT X.K t)) (ht : ∀ σ, BlkE X scope (WBl W σ) fun B => PTs B ifs (tTt C (WBl W σ) tt)) (he : ∀ σ, BlkE X scope (WBl W σ) fun B => PE B elt (tM C (WBl W σ) me)) (hs : plainIter iter = true) :
    PE X (.ListComp elt [⟨tg, iter, ifs, 0⟩] scope pos) (tM C W (eLc t src tt me)) :=
  PE.weak (pe_lcX hc hN top tkf hi ok hg ht he (folded_of hs)) fun σ H Q h => by
    rw [ho, hK]
    exact lc_read h
theorem ps_setLcM {io : List Nat} {i : Nat} {y : Str} {py spos : Pos} {ow : Bool} {elt tg iter : Expr} {ifs : List Expr} {scope : Scope} {own : List (Str × Nat)} {src : Env → Res (List D)} {t : Tg} {tt : Option (Env → Res R)} {me : Env → Res R} {F : Addr} (hK : X.K = C.K) (hc : X.calm = true) (hN : X.N.Nodup) (top : Top X F) (tkf : TkF X W)
    (hy : X.N[i]? = some y) (hyl : X.env.scope.names.lookup y = some .local) (hk : X.env.scope.kind = .function) (hl : (py.line == pos.line) = true) (hsc : (scope.names.any fun (n, k) => n == y && (k == .local || k == .cell)) = false) (hio : i ∉ io)
    (hi : PI X tg iter (tI C W false src)) (ok : BlkOk X.N X.env.scope scope own) (ho : own.map (·.2) = t.slots)
    (hg : ∀ σ, BlkE X scope (WBl W σ) fun B => PG B tg (tgT X.K t)) (ht : ∀ σ, BlkE X scope (WBl W σ) fun B => PTs B ifs (tTt C (WBl W σ) tt)) (he : ∀ σ, BlkE X scope (WBl W σ) fun B => PE B elt (tM C (WBl W σ) me)) (hs : plainIter iter = true) :
    PS X (.Assign [.Name y py] (.ListComp elt [⟨tg, iter, ifs, 0⟩] scope pos) spos) (tS C W io (sSet ow i (eLc t src tt me))) :=
  PS.weak (ps_setLcX hc hN top tkf hy hyl (sw_true hk hyl hl hsc) hi ok hg ht he (folded_of hs)) (tAsg_set (fun σ H Q h => by
    rw [ho, hK]
    exact lc_read h) hio)
end

def IoC (ios : List Nat) (as : Nat → Addr) (b : Addr) : Prop := ∃ p, p ∈ ios ∧ b = as p
def PIo (P : Addr → Prop) (ios : List Nat) (as : Nat → Addr) (b : Addr) : Prop := P b ∨ IoC ios as b
structure Bk (P : Addr → Prop) (ios : List Nat) (as : Nat → Addr) (H H' : Hp) (ρ' : Env) : Prop where
  fr : Fr (IoC ios as) H H'
  tr : ∀ x o, H x = some o → ∃ o', H' x = some o'
  cl : ∀ p ∈ ios, ∀ d, ρ'[p]? = some (some (.own d)) → Cell H' (PIo P ios as) (as p) d
def OwnAll (ios : List Nat) (ρ' : Env) : Prop := ∀ p ∈ ios, ∃ d, ρ'[p]? = some (some (.own d))
def WG (C : Cn) (P : Addr → Prop) (ios : List Nat) (as : Nat → Addr) (H : Hp) (Q : VK) (E : XK) : Out → Prop
  | .nx ρ' => OwnAll ios ρ' ∧ ∀ H', Bk P ios as H H' ρ' → Q .non H'
  | .rt r ρ' => OwnAll ios ρ' ∧ ∀ v H', Bk P ios as H H' ρ' → RR C.K H H' (PIo P ios as) v r → Q v H'
  | .ex k pl ρ' => OwnAll ios ρ' ∧ ∀ H' d, Bk P ios as H H' ρ' → XP H' (PIo P ios as) d pl → E (.ref (C.ca k)) d H'
  | _ => False
def AG (K : PySem.W.Frag) (H : Hp) (B P : Addr → Prop) (v : V) : R → Prop
  | .val d => Rp H P v d
  | .bor d => LentB K H B P v d
  | .own _ => False
structure GArgs (K : PySem.W.Frag) (n : Nat) (ios : List Nat) (vs : List V) (H : Hp) (rs : List R) (P : Addr → Prop) (as : Nat → Addr) : Prop where
  ln : rs.length = n
  tk : ∀ x, P x → ∃ o, H x = some o
  io : ∀ p ∈ ios, ¬ P (as p) ∧ vs[p]? = some (.ref (as p)) ∧ ∃ d, rs[p]? = some (.own d) ∧ Cell H (PIo P ios as) (as p) d
  inj : ∀ p q, p ∈ ios → q ∈ ios → as p = as q → p = q
  re : ∀ (i : Nat) (r : R), i ∉ ios → rs[i]? = some r → ∃ v, vs[i]? = some v ∧ AG K H (IoC ios as) (PIo P ios as) v r
def spG (C : Cn) (n : Nat) (ios : List Nat) (run : List R → Out) : Sp := fun vs H Q E => vs.length = n ∧ ∃ rs P as, GArgs C.K n ios vs H rs P as ∧ WG C P ios as H Q E (run rs)
inductive Ar where
  | v | io (j : Nat) | le (j : Nat)
  deriving DecidableEq
def iosFrom : Nat → List Ar → List Nat
  | _, [] => []
  | p, .io _ :: ms => p :: iosFrom (p + 1) ms
  | p, .v :: ms => iosFrom (p + 1) ms
  | p, .le _ :: ms => iosFrom (p + 1) ms
def iosOf (ms : List Ar) : List Nat := iosFrom 0 ms
def jsOf : List Ar → List Nat
  | [] => []
  | .io j :: ms => j :: jsOf ms
  | .v :: ms => jsOf ms
  | .le _ :: ms => jsOf ms
def lesOf : List Ar → List Nat
  | [] => []
  | .le j :: ms => j :: lesOf ms
  | .v :: ms => lesOf ms
  | .io _ :: ms => lesOf ms
def lentR : R → R
  | .own d => .bor d
  | r => r
def arg1 (ρ : Env) (r : R) : Ar → Option R
  | .v => r.froz.map .val
  | .io j => (match ρ[j]? with
    | some (some (.own d)) => some (.own d)
    | _ => none)
  | .le j => (match ρ[j]? with
    | some (some r) => some (lentR r)
    | _ => none)
def argM (ρ : Env) : List Ar → List R → Option (List R)
  | [], [] => some []
  | m :: ms, r :: rs => (match arg1 ρ r m, argM ρ ms rs with
    | some x, some ys => some (x :: ys)
    | _, _ => none)
  | _, _ => none
def backM : List Ar → List D → Env → Option Env
  | [], [], ρ => some ρ
  | .io j :: ms, d :: ds, ρ => backM ms ds (ρ.set j (some (.own d)))
  | .v :: ms, ds, ρ => backM ms ds ρ
  | .le _ :: ms, ds, ρ => backM ms ds ρ
  | _, _, _ => none
def pick (ρ : Env) : List Nat → Option (List D)
  | [] => some []
  | p :: ps => (match ρ[p]?, pick ρ ps with
    | some (some (.own d)), some ds => some (d :: ds)
    | _, _ => none)
inductive CR where
  | ok (r : R) (ds : List D) | exc (k : Nat) (pl : List (Str × D)) (ds : List D) | stuck
def Out.cr (ios : List Nat) : Out → CR
  | .nx ρ => (match pick ρ ios with
    | some ds => .ok (.val .non) ds
    | none => .stuck)
  | .rt r ρ => (match pick ρ ios with
    | some ds => .ok r ds
    | none => .stuck)
  | .ex k pl ρ => (match pick ρ ios with
    | some ds => .exc k pl ds
    | none => .stuck)
  | _ => .stuck
def CR.fin : CR → Res R
  | .ok r _ => .ok r
  | .exc k pl _ => .exc k pl
  | .stuck => .stuck
inductive Rt where
  | no | to (i : Nat) | back
def retK (ret : Rt) (r : R) (ρ : Env) : Out := match ret with
  | .no => .nx ρ
  | .to i => setR false i r ρ
  | .back => .rt r ρ
def callG (run : List R → CR) (ret : Rt) (ms : List Ar) (ρ : Env) (rs : List R) : Out := match argM ρ ms rs with
  | some rs' => (match run rs' with
    | .ok r ds => (match backM ms ds ρ with
      | some ρ' => retK ret r ρ'
      | none => .stuck)
    | .exc k pl ds => (match backM ms ds ρ with
      | some ρ' => .ex k pl ρ'
      | none => .stuck)
    | .stuck => .stuck)
  | none => .stuck
def oBs (x : Res (List R)) (ρ : Env) (f : List R → Out) : Out := match x with
  | .ok r => f r
  | .exc k pl => .ex k pl ρ
  | .stuck => .stuck
def onO (i : Nat) (ρ : Env) (f : D → Out) : Out := match ρ[i]? with
  | some (some (.own d)) => f d
  | _ => .stuck
def sCallG (run : List R → CR) (ret : Rt) (es : List (Env → Res R)) (dd : List D) (ms : List Ar) (ρ : Env) : Out := oBs (eArgs es ρ) ρ fun rs => callG run ret ms ρ (rs ++ dd.map .val)
theorem iosFrom_mem : ∀ {ms : List Ar} {p q : Nat}, q ∈ iosFrom p ms ↔ ∃ i j, q = p + i ∧ ms[i]? = some (.io j)
  | [], p, q => by simp [iosFrom]
  | m :: ms, p, q => by
    have ih := iosFrom_mem (ms := ms) (p := p + 1) (q := q)
    have step : (∃ i j, q = p + i ∧ (m :: ms)[i]? = some (.io j)) ↔ (q = p ∧ ∃ j, m = .io j) ∨ q ∈ iosFrom (p + 1) ms := by
      rw [ih]
      constructor
      · rintro ⟨i, j, e1, e2⟩
        cases i with
        | zero => exact .inl ⟨by omega, j, by simpa using e2⟩
        | succ i => exact .inr ⟨i, j, by omega, by simpa using e2⟩
      · rintro (⟨e1, j, e2⟩ | ⟨i, j, e1, e2⟩)
        · exact ⟨0, j, by omega, by simp [e2]⟩
        · exact ⟨i + 1, j, by omega, by simpa using e2⟩
    rw [step]
    cases m <;> simp [iosFrom]
theorem iosOf_mem {ms : List Ar} {q : Nat} : q ∈ iosOf ms ↔ ∃ j, ms[q]? = some (.io j) := by
  unfold iosOf
  rw [iosFrom_mem]
  constructor
  · rintro ⟨i, j, e1, e2⟩; exact ⟨j, by rw [e1, Nat.zero_add]; exact e2⟩
  · rintro ⟨j, e⟩; exact ⟨q, j, by omega, e⟩
theorem jsOf_mem : ∀ {ms : List Ar} {p j : Nat}, ms[p]? = some (.io j) → j ∈ jsOf ms
  | [], _, _, e => by simp at e
  | m :: ms, 0, j, e => by
    simp only [List.getElem?_cons_zero, Option.some.injEq] at e
    subst e; simp [jsOf]
  | m :: ms, p + 1, j, e => by
    have ih := jsOf_mem (ms := ms) (p := p) (j := j) (by simpa using e)
    cases m <;> simp [jsOf, ih]
theorem jsOf_at : ∀ {ms : List Ar} {i : Nat}, i ∈ jsOf ms → ∃ p : Nat, ms[p]? = some (.io i)
  | [], _, hi => by simp [jsOf] at hi
  | .v :: ms, _, hi => by obtain ⟨p, hp⟩ := jsOf_at (ms := ms) (by simpa [jsOf] using hi); exact ⟨p + 1, by simpa using hp⟩
  | .le j :: ms, _, hi => by obtain ⟨p, hp⟩ := jsOf_at (ms := ms) (by simpa [jsOf] using hi); exact ⟨p + 1, by simpa using hp⟩
  | .io j :: ms, i, hi => by
    simp only [jsOf, List.mem_cons] at hi
    rcases hi with rfl | hi
    · exact ⟨0, by simp⟩
    · obtain ⟨p, hp⟩ := jsOf_at hi; exact ⟨p + 1, by simpa using hp⟩
theorem jsOf_inj : ∀ {ms : List Ar} {p q j : Nat}, (jsOf ms).Nodup → ms[p]? = some (.io j) → ms[q]? = some (.io j) → p = q
  | [], _, _, _, _, e, _ => by simp at e
  | m :: ms, 0, 0, _, _, _, _ => rfl
  | m :: ms, 0, q + 1, j, n, e, e2 => by
    simp only [List.getElem?_cons_zero, Option.some.injEq] at e
    subst e
    simp only [jsOf, List.nodup_cons] at n
    exact absurd (jsOf_mem (by simpa using e2)) n.1
  | m :: ms, p + 1, 0, j, n, e, e2 => by
    simp only [List.getElem?_cons_zero, Option.some.injEq] at e2
    subst e2
    simp only [jsOf, List.nodup_cons] at n
    exact absurd (jsOf_mem (by simpa using e)) n.1
  | m :: ms, p + 1, q + 1, j, n, e, e2 => by
    have n' : (jsOf ms).Nodup := by cases m <;> simp [jsOf] at n <;> first | exact n | exact n.2
    exact congrArg (· + 1) (jsOf_inj (ms := ms) (p := p) (q := q) (j := j) n' (by simpa using e) (by simpa using e2))
theorem lesOf_mem : ∀ {ms : List Ar} {p j : Nat}, ms[p]? = some (.le j) → j ∈ lesOf ms
  | [], _, _, e => by simp at e
  | m :: ms, 0, j, e => by
    simp only [List.getElem?_cons_zero, Option.some.injEq] at e
    subst e; simp [lesOf]
  | m :: ms, p + 1, j, e => by
    have ih := lesOf_mem (ms := ms) (p := p) (j := j) (by simpa using e)
    cases m <;> simp [lesOf, ih]
theorem argM_get {ρ : Env} : ∀ {ms : List Ar} {rs rs' : List R}, argM ρ ms rs = some rs' → ms.length = rs.length ∧ rs'.length = rs.length ∧ ∀ (p : Nat) (r' : R), rs'[p]? = some r' → ∃ m r, ms[p]? = some m ∧ rs[p]? = some r ∧ arg1 ρ r m = some r'
  | [], [], rs', e => by simp [argM] at e; subst e; exact ⟨rfl, rfl, fun p r' h => by simp at h⟩
  | [], _ :: _, rs', e => by simp [argM] at e
  | _ :: _, [], rs', e => by simp [argM] at e
  | m :: ms, r :: rs, rs', e => by
    unfold argM at e
    split at e
    · next x ys e1 e2 =>
      cases e
      obtain ⟨l1, l2, g⟩ := argM_get e2
      refine ⟨by simp [l1], by simp [l2], fun p r' h => ?_⟩
      cases p with
      | zero => simp at h; subst h; exact ⟨m, r, by simp, by simp, e1⟩
      | succ p =>
        obtain ⟨m', r0, h1, h2, h3⟩ := g p r' (by simpa using h)
        exact ⟨m', r0, by simpa using h1, by simpa using h2, h3⟩
    · cases e
theorem paired_getL {α β : Type} {F : α → β → Prop} : ∀ {vs : List α} {rs : List β} {i : Nat} {r : β}, Paired F vs rs → rs[i]? = some r → ∃ v, vs[i]? = some v ∧ F v r
  | _, _, _, _, .nil, e => by simp at e
  | _, _, 0, _, .cons h _, e => by simp at e; subst e; exact ⟨_, rfl, h⟩
  | _, _, i + 1, _, .cons _ t, e => by
    obtain ⟨v, h1, h2⟩ := paired_getL (i := i) t (by simpa using e)
    exact ⟨v, by simpa using h1, h2⟩
def asOf (ms : List Ar) (c : Nat → List Addr) (p : Nat) : Addr := match ms[p]? with
  | some (.io j) => (c j).headD 0
  | _ => 0
section
variable {K : PySem.W.Frag} {io : List Nat} {σ : L2.St} {H H' : Hp} {ρ : Env} {c : Nat → List Addr} {S : Addr → Prop} {ms : List Ar}
theorem asOf_io {p j : Nat} {a : Addr} (e : ms[p]? = some (.io j)) (h : c j = [a]) : asOf ms c p = a := by
  unfold asOf
  rw [e]
  show (c j).headD 0 = a
  rw [h]
  rfl
theorem SR.own1 (h : SR K σ H ρ c S) {j : Nat} {d : D} (e : ρ[j]? = some (some (.own d))) : ∃ a, σ[j]? = some (some (.ref a)) ∧ c j = [a] ∧ Cell H (Mp.Own c S) a d := by
  obtain ⟨v, h1, a, rfl, h2, h3⟩ := h.rep j _ e
  exact ⟨a, h1, h2, h3⟩
theorem gargs {n : Nat} {H1 : Hp} {vs : List V} {rs rs' : List R} (sr : SR K σ H1 ρ c S) (r1 : Paired (RR K H H1 (Mp.Own c S)) vs rs) (ea : argM ρ ms rs = some rs') (hn : rs.length = n) (nd : (jsOf ms).Nodup) (hle : ∀ j, j ∈ lesOf ms → j ∉ jsOf ms)
    (hv : ∀ (p j : Nat) (v : V), (ms[p]? = some (.io j) ∨ ms[p]? = some (.le j)) → σ[j]? = some (some v) → vs[p]? = some v) : GArgs K n (iosOf ms) vs H1 rs' (fun b => Mp.Own c S b ∧ ¬ IoC (iosOf ms) (asOf ms c) b) (asOf ms c) ∧ PIo (fun b => Mp.Own c S b ∧ ¬ IoC (iosOf ms) (asOf ms c) b) (iosOf ms) (asOf ms c) = Mp.Own c S := by
  obtain ⟨l1, l2, g⟩ := argM_get ea
  have at' : ∀ p ∈ iosOf ms, ∃ j d a, ms[p]? = some (.io j) ∧ rs'[p]? = some (.own d) ∧ ρ[j]? = some (some (.own d)) ∧ σ[j]? = some (some (.ref a)) ∧ c j = [a] ∧ asOf ms c p = a ∧ Cell H1 (Mp.Own c S) a d := fun p hp => by
    obtain ⟨j, e⟩ := iosOf_mem.mp hp
    have hlt : p < rs'.length := by have := (List.getElem?_eq_some_iff.mp e).1; omega
    obtain ⟨m, r, h1, h2, h3⟩ := g p _ (List.getElem?_eq_getElem hlt)
    rw [e] at h1
    cases h1
    unfold arg1 at h3
    simp only at h3
    split at h3
    · next d e2 =>
      obtain ⟨a, a1, a2, a3⟩ := sr.own1 e2
      exact ⟨j, d, a, e, by rw [List.getElem?_eq_getElem hlt, ← h3], e2, a1, a2, asOf_io e a2, a3⟩
    · cases h3
  have sub : ∀ b, IoC (iosOf ms) (asOf ms c) b → Mp.Own c S b := fun b ⟨p, hp, e⟩ => by
    obtain ⟨j, d, a, _, _, _, _, h4, h5, _⟩ := at' p hp
    exact .inl ⟨j, by rw [h4, e, h5]; simp⟩
  have eq : PIo (fun b => Mp.Own c S b ∧ ¬ IoC (iosOf ms) (asOf ms c) b) (iosOf ms) (asOf ms c) = Mp.Own c S := by
    funext b
    apply propext
    constructor
    · rintro (z | z)
      · exact z.1
      · exact sub b z
    · intro z
      by_cases h : IoC (iosOf ms) (asOf ms c) b
      · exact .inr h
      · exact .inl ⟨z, h⟩
  refine ⟨⟨by omega, fun x z => sr.trk x z.1, fun p hp => ?_, fun p q hp hq e => ?_, fun i r' hi hr => ?_⟩, eq⟩
  · obtain ⟨j, d, a, e1, e2, e3, e4, e5, e6, e7⟩ := at' p hp
    refine ⟨fun z => z.2 ⟨p, hp, rfl⟩, by rw [e6]; exact hv p j _ (.inl e1) e4, d, e2, ?_⟩
    rw [eq, e6]
    exact e7
  · obtain ⟨j, d, a, e1, e2, e3, e4, e5, e6, e7⟩ := at' p hp
    obtain ⟨j', d', a', f1, f2, f3, f4, f5, f6, f7⟩ := at' q hq
    rw [e6, f6] at e
    subst e
    have := sr.dis j j' a (by rw [e5]; simp) (by rw [f5]; simp)
    subst this
    exact jsOf_inj nd e1 f1
  · obtain ⟨m, r, h1, h2, h3⟩ := g i r' hr
    obtain ⟨v, v1, v2⟩ := paired_getL r1 h2
    cases m with
    | v =>
      simp only [arg1, Option.map_eq_some_iff] at h3
      obtain ⟨d, h4, rfl⟩ := h3
      refine ⟨v, v1, ?_⟩
      show Rp _ _ _ _
      rw [eq]
      exact v2.froz h4
    | io j => exact absurd (iosOf_mem.mpr ⟨j, h1⟩) hi
    | le j =>
      simp only [arg1] at h3
      split at h3
      · next r0 e0 =>
        cases h3
        obtain ⟨w, w1, w2⟩ := sr.rep j _ e0
        have hw := hv i j w (.inr h1) w1
        refine ⟨w, hw, ?_⟩
        have nj : j ∉ jsOf ms := hle j (lesOf_mem h1)
        cases r0 with
        | val d => show Rp _ _ _ _; rw [eq]; exact w2.2
        | own d =>
          obtain ⟨a, rfl, a2, a3⟩ := w2
          have na : ¬ IoC (iosOf ms) (asOf ms c) a := fun ⟨p, hp, e⟩ => by
            obtain ⟨j', d', a', f1, f2, f3, f4, f5, f6, f7⟩ := at' p hp
            rw [f6] at e
            subst e
            have := sr.dis j j' a (by rw [a2]; simp) (by rw [f5]; simp)
            subst this
            exact nj (jsOf_mem f1)
          show LentB _ _ _ _ _ _
          rw [eq]
          cases d with
          | lst ds => obtain ⟨vs, z1, z2⟩ := a3; exact ⟨a, vs, rfl, .inl ⟨na, .inl z1⟩, z2⟩
          | dct tk ks ds =>
            cases tk with
            | false => obtain ⟨kvs, z1, z2, z3, z4⟩ := a3; exact ⟨a, kvs, rfl, na, .inl z1, z2, z3, z4⟩
            | true => obtain ⟨kvs, z1, z2, z3, z4⟩ := a3; exact ⟨a, kvs, rfl, na, .inl z1, z2, z3, z4⟩
          | obj C ns ds => obtain ⟨dx, fvs, z1, z2, z3⟩ := a3; exact ⟨a, dx, fvs, rfl, na, z1, z2, z3⟩
          | _ => exact a3.elim
        | bor d =>
          show LentB _ _ _ _ _ _
          rw [eq]
          refine w2.2.move (fun _ _ _ q => q) (fun x o n q z => ?_) (fun _ _ _ q => q) (fun _ _ n _ => n)
          obtain ⟨p, hp, e⟩ := z
          obtain ⟨j', d', a', f1, f2, f3, f4, f5, f6, f7⟩ := at' p hp
          exact n ⟨j', by rw [f5, e, f6]; simp⟩
      · cases h3
theorem SR.chgs (h : SR K σ H ρ c S) {B : Addr → Prop} (hB : ∀ a, B a → Cel c a) (fr : Fr B H H') (tr : ∀ x o, H x = some o → ∃ o', H' x = some o') {ρ' : Env} (hl : ρ'.length = ρ.length)
    (hs : ∀ i, (ρ'[i]? = ρ[i]? ∧ ∀ a, a ∈ c i → ¬ B a) ∨ ∃ a d d', ρ[i]? = some (some (.own d)) ∧ σ[i]? = some (some (.ref a)) ∧ c i = [a] ∧ ρ'[i]? = some (some (.own d')) ∧ Cell H' (Mp.Own c S) a d') :
    SR K σ H' ρ' c S ∧ Stp io σ ρ c H σ ρ' c H' := by
  refine ⟨⟨by rw [hl, h.len], fun i r' ei => ?_, fun i ei => ?_, h.dis, h.sep, fun x z => ?_⟩, ⟨fun x o n q => fr x o (fun z => n (hB x z)) q, tr, fun x z => .inl z, fun i d q => ?_, fun _ _ => rfl⟩⟩
  · rcases hs i with ⟨e, nb⟩ | ⟨a, d, d', e1, e2, e3, e4, e5⟩
    · rw [e] at ei
      obtain ⟨w, w1, w2⟩ := h.rep i r' ei
      refine ⟨w, w1, w2.move (fun x u n q => fr x u (fun z => n (hB x z)) q) (fun _ _ n _ => n) (fun x u n q => fr x u (fun z => n (.inl (hB x z))) q) (fun _ _ n _ => n) (fun x hx => ?_)⟩
      obtain ⟨o, q⟩ := h.trk x (.inl ⟨i, hx⟩)
      rw [q]
      exact fr x o (nb x hx) q
    · rw [e4] at ei
      cases ei
      exact ⟨.ref a, e2, a, rfl, e3, e5⟩
  · rcases hs i with ⟨e, nb⟩ | ⟨a, d, d', e1, e2, e3, e4, e5⟩
    · exact h.off i fun r z => ei r (e.trans z)
    · exact absurd e4 (ei _)
  · obtain ⟨o, q⟩ := h.trk x z
    exact tr x o q
  · rcases hs i with ⟨e, nb⟩ | ⟨a, d, d', e1, e2, e3, e4, e5⟩
    · exact ⟨e ▸ q, rfl⟩
    · rw [e4] at q; cases q
end
theorem pick_get {ρ : Env} : ∀ {ps : List Nat} {ds : List D}, pick ρ ps = some ds → OwnAll ps ρ ∧ ds.length = ps.length ∧ ∀ (k : Nat) (p : Nat), ps[k]? = some p → ∃ d, ds[k]? = some d ∧ ρ[p]? = some (some (.own d))
  | [], ds, e => by simp [pick] at e; subst e; exact ⟨fun p hp => by simp at hp, rfl, fun k p h => by simp at h⟩
  | p :: ps, ds, e => by
    unfold pick at e
    split at e
    · next d ds' e1 e2 =>
      cases e
      obtain ⟨h1, h2, h3⟩ := pick_get e2
      refine ⟨fun q hq => ?_, by simp [h2], fun k q hk => ?_⟩
      · rcases List.mem_cons.mp hq with rfl | hq
        · exact ⟨d, e1⟩
        · exact h1 q hq
      · cases k with
        | zero => simp at hk; subst hk; exact ⟨d, by simp, e1⟩
        | succ k =>
          obtain ⟨d', a, b⟩ := h3 k q (by simpa using hk)
          exact ⟨d', by simpa using a, b⟩
    · cases e
theorem backM_get : ∀ {ms : List Ar} {ds : List D} {ρ ρ' : Env} (p0 : Nat), backM ms ds ρ = some ρ' → (jsOf ms).Nodup → ρ'.length = ρ.length ∧ (∀ j, j ∉ jsOf ms → ρ'[j]? = ρ[j]?) ∧
    ∀ (k p : Nat), (iosFrom p0 ms)[k]? = some p → ∃ i j d, p = p0 + i ∧ ms[i]? = some (.io j) ∧ ds[k]? = some d ∧ (j < ρ.length → ρ'[j]? = some (some (.own d)))
  | [], [], ρ, ρ', p0, e, _ => by simp [backM] at e; subst e; exact ⟨rfl, fun _ _ => rfl, fun k p h => by simp [iosFrom] at h⟩
  | [], _ :: _, ρ, ρ', p0, e, _ => by simp [backM] at e
  | .io j :: ms, [], ρ, ρ', p0, e, _ => by simp [backM] at e
  | .io j :: ms, d :: ds, ρ, ρ', p0, e, nd => by
    simp only [backM] at e
    simp only [jsOf, List.nodup_cons] at nd
    obtain ⟨h1, h2, h3⟩ := backM_get (p0 + 1) e nd.2
    refine ⟨by simpa using h1, fun i hi => ?_, fun k p hk => ?_⟩
    · simp only [jsOf, List.mem_cons, not_or] at hi
      rw [h2 i hi.2, List.getElem?_set_ne fun z => hi.1 z.symm]
    · simp only [iosFrom] at hk
      cases k with
      | zero =>
        simp at hk
        refine ⟨0, j, d, by omega, by simp, by simp, fun hj => ?_⟩
        rw [h2 j nd.1, List.getElem?_set_self hj]
      | succ k =>
        obtain ⟨i, j', d', e1, e2, e3, e4⟩ := h3 k p (by simpa using hk)
        exact ⟨i + 1, j', d', by omega, by simpa using e2, by simpa using e3, fun hj => e4 (by simpa using hj)⟩
  | .v :: ms, ds, ρ, ρ', p0, e, nd => by
    simp only [backM] at e
    obtain ⟨h1, h2, h3⟩ := backM_get (p0 + 1) e (by simpa [jsOf] using nd)
    refine ⟨h1, fun i hi => h2 i (by simpa [jsOf] using hi), fun k p hk => ?_⟩
    obtain ⟨i, j', d', e1, e2, e3, e4⟩ := h3 k p (by simpa [iosFrom] using hk)
    exact ⟨i + 1, j', d', by omega, by simpa using e2, e3, e4⟩
  | .le _ :: ms, ds, ρ, ρ', p0, e, nd => by
    simp only [backM] at e
    obtain ⟨h1, h2, h3⟩ := backM_get (p0 + 1) e (by simpa [jsOf] using nd)
    refine ⟨h1, fun i hi => h2 i (by simpa [jsOf] using hi), fun k p hk => ?_⟩
    obtain ⟨i, j', d', e1, e2, e3, e4⟩ := h3 k p (by simpa [iosFrom] using hk)
    exact ⟨i + 1, j', d', by omega, by simpa using e2, e3, e4⟩
def tMsG (C : Cn) (W : WX) (ms : List Ar) (m : Env → Res (List R)) : TA := fun σ H Q => ∃ ρ c S, SR C.K σ H ρ c S ∧ RWs C W (Mp.Own c S) σ H (m ρ) fun vs H' => (∀ (p j : Nat) (v : V), (ms[p]? = some (.io j) ∨ ms[p]? = some (.le j)) → σ[j]? = some (some v) → vs[p]? = some v) → Q vs H'
def CallOkG (X : Cx) (C : Cn) (n : Nat) (ios : List Nat) (dd : List D) (run : List R → Out) (x : Str) : Prop :=
  ∃ (k : Nat) (f : Addr) (fd : FuncData) (ps : List Str) (us : List Value), FnOk X.prog X.w X.K X.mg X.base (L2.CX X.prog X.w) k f fd ps (spG C n ios run) ∧ Room k X.A ∧ X.mg x = some (.ref f) ∧ PySem.W.keepIn X.K (.ref f) = true ∧ Binds X.K fd ps us ∧ Vals (dd.map scV) us ∧ dd.all scOk = true
section
variable {X : Cx} {C : Cn} {W : WX} {io : List Nat} {e : Expr} {es : List Expr} {m : Env → Res R} {mes : List (Env → Res R)} {pos cpos p' px : Pos} {x y : Str} {run : List R → Out} {n : Nat} {ms : List Ar} {dd : List D}
theorem callG_ok {E : Ends} {σ : L2.St} {H H1 : Hp} {ρ : Mp.Env} {c : Nat → List Addr} {S : Addr → Prop} {vs : List V} {rs : List R} {ret : Rt} {Q : VK} (sr : SR C.K σ H ρ c S) (x1 : Ex H H1) (r1 : Paired (RR C.K H H1 (Mp.Own c S)) vs rs) (hn : rs.length = n)
    (nd : (jsOf ms).Nodup) (hle : ∀ j, j ∈ lesOf ms → j ∉ jsOf ms) (hv : ∀ (p j : Nat) (v : V), (ms[p]? = some (.io j) ∨ ms[p]? = some (.le j)) → σ[j]? = some (some v) → vs[p]? = some v) (hio : ∀ i, ret = .to i → i ∉ io)
    (hQ : ∀ v H2, (∀ i, ret = .to i → E.nx (σ.set i (some v)) H2) → (ret = .no → E.nx σ H2) → (ret = .back → E.rt v H2) → Q v H2) (q : SW C W io E σ ρ c S H (callG (fun rs => (run rs).cr (iosOf ms)) ret ms ρ rs)) : spG C n (iosOf ms) run vs H1 Q (WE W σ) := by
  unfold callG at q
  split at q
  · next rs' ea =>
    have srx := sr.ex x1
    obtain ⟨ga, eq⟩ := gargs srx r1 ea hn nd hle hv
    refine ⟨by rw [Paired.length r1, hn], rs', _, _, ga, ?_⟩
    obtain ⟨_, _, gg⟩ := argM_get ea
    -- the slots behind the call
    have back : ∀ (ρ2 ρ' : Mp.Env) (ds : List D), pick ρ2 (iosOf ms) = some ds → backM ms ds ρ = some ρ' → ∀ H2, Bk (fun b => Mp.Own c S b ∧ ¬ IoC (iosOf ms) (asOf ms c) b) (iosOf ms) (asOf ms c) H1 H2 ρ2 → SR C.K σ H2 ρ' c S ∧ Stp io σ ρ c H σ ρ' c H2 := by
      intro ρ2 ρ' ds ep eb H2 bk
      obtain ⟨_, pl, pg⟩ := pick_get ep
      obtain ⟨b1, b2, b3⟩ := backM_get 0 eb nd
      have sub : ∀ a, IoC (iosOf ms) (asOf ms c) a → Cel c a := fun a ⟨p, hp, e⟩ => by
        obtain ⟨j, hj⟩ := iosOf_mem.mp hp
        obtain ⟨_, _, d, hd, _⟩ := ga.io p hp
        obtain ⟨m', r0, h1, h2, h3⟩ := gg p _ hd
        rw [hj] at h1; cases h1
        simp only [arg1] at h3
        split at h3
        · next d2 e2 =>
          obtain ⟨a', _, a2, _⟩ := srx.own1 e2
          exact ⟨j, by rw [a2, e, asOf_io hj a2]; simp⟩
        · cases h3
      have key := srx.chgs (io := io) (B := IoC (iosOf ms) (asOf ms c)) sub bk.fr bk.tr (ρ' := ρ') b1 (fun i => by
        by_cases hi : i ∈ jsOf ms
        · -- which argument it is
          obtain ⟨p, hp⟩ := jsOf_at hi
          have hpm := iosOf_mem.mpr ⟨i, hp⟩
          obtain ⟨_, _, d, hd, _⟩ := ga.io p hpm
          obtain ⟨m', r0, h1, h2, h3⟩ := gg p _ hd
          rw [hp] at h1; cases h1
          simp only [arg1] at h3
          split at h3
          · next d2 e2 =>
            obtain ⟨a', a1, a2, _⟩ := srx.own1 e2
            obtain ⟨k, hk⟩ := List.getElem?_of_mem hpm
            obtain ⟨d3, g1, g2⟩ := pg k p hk
            obtain ⟨i', j', d4, e4, e5, e6, e7⟩ := b3 k p hk
            have ei : i' = p := by omega
            subst ei
            rw [hp] at e5; cases e5
            rw [g1] at e6; cases e6
            have ilt : i < ρ.length := (List.getElem?_eq_some_iff.mp e2).1
            refine .inr ⟨a', d2, d3, e2, a1, a2, e7 ilt, ?_⟩
            have cl := bk.cl i' hpm d3 g2
            rw [eq, asOf_io hp a2] at cl
            exact cl
          · cases h3
        · refine .inl ⟨b2 i hi, fun a ha ⟨p, hp, e⟩ => ?_⟩
          obtain ⟨j, hj⟩ := iosOf_mem.mp hp
          obtain ⟨_, _, d, hd, _⟩ := ga.io p hp
          obtain ⟨m', r0, h1, h2, h3⟩ := gg p _ hd
          rw [hj] at h1; cases h1
          simp only [arg1] at h3
          split at h3
          · next d2 e2 =>
            obtain ⟨a', _, a2, _⟩ := srx.own1 e2
            rw [asOf_io hj a2] at e
            subst e
            have := sr.dis i j a ha (by rw [a2]; simp)
            subst this
            exact hi (jsOf_mem hj)
          · cases h3)
      exact ⟨key.1, (Stp.ex x1).trans key.2⟩
    -- the result's way
    have fin : ∀ (r : R) (ρ2 : Mp.Env), SW C W io E σ ρ c S H (match pick ρ2 (iosOf ms) with | some ds => (match backM ms ds ρ with | some ρ' => retK ret r ρ' | none => .stuck) | none => .stuck) → OwnAll (iosOf ms) ρ2 ∧ ∀ v H2, Bk (fun b => Mp.Own c S b ∧ ¬ IoC (iosOf ms) (asOf ms c) b) (iosOf ms) (asOf ms c) H1 H2 ρ2 → RR C.K H1 H2 (Mp.Own c S) v r → Q v H2 := by
      intro r ρ2 q
      split at q
      · next ds ep =>
        split at q
        · next ρ' eb =>
          refine ⟨(pick_get ep).1, fun v H2 bk rv => ?_⟩
          obtain ⟨s1, s2⟩ := back ρ2 ρ' ds ep eb H2 bk
          refine hQ v H2 (fun i hi => ?_) (fun hi => ?_) (fun hi => ?_)
          · subst hi
            simp only [retK, setR] at q
            split at q
            · next dd ed => exact q.nx (s1.setV' (rv.froz ed)) (s2.trans (Stp.setV (hio i rfl)))
            · exact q.elim
          · subst hi
            exact q.nx s1 s2
          · subst hi
            exact q v σ H2 c s1 s2 (RT.of_rr (rv.mono (x1) (Ex.refl _)))
        · exact q.elim
      · exact q.elim
    dsimp only at q
    cases e2 : run rs' with
    | stuck => rw [e2] at q; exact q.elim
    | bk ρ' => rw [e2] at q; exact q.elim
    | ct ρ' => rw [e2] at q; exact q.elim
    | nx ρ2 =>
      rw [e2] at q
      have q' : SW C W io E σ ρ c S H (match pick ρ2 (iosOf ms) with | some ds => (match backM ms ds ρ with | some ρ' => retK ret (.val .non) ρ' | none => .stuck) | none => .stuck) := by
        simp only [Out.cr] at q
        cases ep : pick ρ2 (iosOf ms) <;> rw [ep] at q <;> exact q
      obtain ⟨o, k⟩ := fin _ _ q'
      exact ⟨o, fun H2 bk => k .non H2 bk (by simp [RR, Rp])⟩
    | rt r ρ2 =>
      rw [e2] at q
      have q' : SW C W io E σ ρ c S H (match pick ρ2 (iosOf ms) with | some ds => (match backM ms ds ρ with | some ρ' => retK ret r ρ' | none => .stuck) | none => .stuck) := by
        simp only [Out.cr] at q
        cases ep : pick ρ2 (iosOf ms) <;> rw [ep] at q <;> exact q
      obtain ⟨o, k⟩ := fin _ _ q'
      exact ⟨o, fun v H2 bk rv => k v H2 bk (by rw [eq] at rv; exact rv)⟩
    | ex k pl ρ2 =>
      rw [e2] at q
      simp only [Out.cr] at q
      cases ep : pick ρ2 (iosOf ms) with
      | none => rw [ep] at q; exact q.elim
      | some ds =>
        rw [ep] at q
        simp only at q
        split at q
        · next ρ' eb =>
          refine ⟨(pick_get ep).1, fun H2 d bk xp => ?_⟩
          obtain ⟨s1, s2⟩ := back ρ2 ρ' ds ep eb H2 bk
          rw [eq] at xp
          exact q σ H2 c d s1 s2 xp
        · exact q.elim
  · exact q.elim
theorem sCallG_read {E : Ends} {σ : L2.St} {H : Hp} {ret : Rt} {Q : VK} (hlen : mes.length + dd.length = n) (hml : ms.length = n) (hsc : dd.all scOk = true) (nd : (jsOf ms).Nodup) (hle : ∀ j, j ∈ lesOf ms → j ∉ jsOf ms) (hdv : ∀ p, mes.length ≤ p → p < n → ms[p]? = some .v) (hio : ∀ i, ret = .to i → i ∉ io)
    (hQ : ∀ v H2, (∀ i, ret = .to i → E.nx (σ.set i (some v)) H2) → (ret = .no → E.nx σ H2) → (ret = .back → E.rt v H2) → Q v H2) (h : tS C W io (sCallG (fun rs => (run rs).cr (iosOf ms)) ret mes dd ms) E σ H) :
    tCallSD (spG C n (iosOf ms) run) (dd.map scV) (WE W) (tMsG C W ms (eArgs mes)) σ H Q := by
  obtain ⟨ρ, c, S, sr, h⟩ := h
  unfold sCallG at h
  refine ⟨ρ, c, S, sr, ?_⟩
  cases e1 : eArgs mes ρ with
  | stuck => rw [e1] at h; exact h.elim
  | exc k pl => rw [e1] at h; exact fun H1 d x q => h σ H1 c d (sr.ex x) (Stp.ex x) q
  | ok rs =>
    rw [e1] at h
    refine fun vs H1 x1 r1 hv => callG_ok sr x1 (Paired.app r1 (rr_scVs hsc)) (by rw [List.length_append, List.length_map, eArgs_len e1, hlen]) nd hle (fun p j v hm hσ => ?_) hio hQ h
    have hl : vs.length = mes.length := by rw [Paired.length r1, eArgs_len e1]
    by_cases hp : p < vs.length
    · rw [List.getElem?_append_left hp]
      exact hv p j v hm hσ
    · have : ms[p]? = some .v := by
        by_cases hpn : p < n
        · exact hdv p (by omega) hpn
        · rcases hm with hm | hm <;> (have := (List.getElem?_eq_some_iff.mp hm).1; omega)
      rcases hm with hm | hm <;> (rw [this] at hm; cases hm)
theorem ps_callGM (tk : Takes X W) (F : CallOkG X C n (iosOf ms) dd run x) (hg : Gl X x) (hdb : (x == ("__debug__" : Str)) = false) (ha : PA X (e :: es) (tMsG C W ms (eArgs mes))) (hst : (e :: es).all noStar = true) (hlen : mes.length + dd.length = n) (hml : ms.length = n)
    (nd : (jsOf ms).Nodup) (hle : ∀ j, j ∈ lesOf ms → j ∉ jsOf ms) (hdv : ∀ p, mes.length ≤ p → p < n → ms[p]? = some .v) : PS X (.Expr (.Call (.Name x px) (e :: es) [] cpos) pos) (tS C W io (sCallG (fun rs => (run rs).cr (iosOf ms)) .no mes dd ms)) := by
  have h1 := hst
  rw [List.all_cons, Bool.and_eq_true] at h1
  obtain ⟨k, f, fd, ps, us, F, hr, hm, hk, hb, hd, hsc⟩ := F
  exact PS.weak (ps_expr (pe_callSD F hr hg hm hk hb hd (passAt tk) ha hdb (starEach_cons h1.1) (starEach_any h1.2)) rfl) fun E σ H h => sCallG_read (ret := .no) hlen hml hsc nd hle hdv (fun i z => by cases z) (fun v H2 _ z _ => z rfl) h
theorem ps_setCallGM {i : Nat} {py : Pos} (hN : X.N.Nodup) (hi : X.N[i]? = some y) (hx : L2.Loc X.env.scope y) (hf : X.fn y = true ∨ X.env.scope.names.lookup y = some .local) (hio : i ∉ io) (tk : Takes X W) (F : CallOkG X C n (iosOf ms) dd run x) (hg : Gl X x) (hdb : (x == ("__debug__" : Str)) = false)
    (ha : PA X (e :: es) (tMsG C W ms (eArgs mes))) (hst : (e :: es).all noStar = true) (hlen : mes.length + dd.length = n) (hml : ms.length = n)
    (nd : (jsOf ms).Nodup) (hle : ∀ j, j ∈ lesOf ms → j ∉ jsOf ms) (hdv : ∀ p, mes.length ≤ p → p < n → ms[p]? = some .v) :
    PS X (.Assign [.Name y py] (.Call (.Name x px) (e :: es) [] cpos) pos) (tS C W io (sCallG (fun rs => (run rs).cr (iosOf ms)) (.to i) mes dd ms)) := by
  have h1 := hst
  rw [List.all_cons, Bool.and_eq_true] at h1
  obtain ⟨k, f, fd, ps, us, F, hr, hm, hk, hb, hd, hsc⟩ := F
  exact PS.weak (ps_set hN hi hx (pe_callSD F hr hg hm hk hb hd (passAt tk) ha hdb (starEach_cons h1.1) (starEach_any h1.2)) rfl hf) fun E σ H h => sCallG_read (ret := .to i) hlen hml hsc nd hle hdv (fun i' z => by cases z; exact hio) (fun v H2 z _ _ => z i rfl) h
theorem ps_retCallGM (tk : Takes X W) (F : CallOkG X C n (iosOf ms) dd run x) (hg : Gl X x) (hdb : (x == ("__debug__" : Str)) = false) (ha : PA X (e :: es) (tMsG C W ms (eArgs mes))) (hst : (e :: es).all noStar = true) (hlen : mes.length + dd.length = n) (hml : ms.length = n)
    (nd : (jsOf ms).Nodup) (hle : ∀ j, j ∈ lesOf ms → j ∉ jsOf ms) (hdv : ∀ p, mes.length ≤ p → p < n → ms[p]? = some .v) : PS X (.Return (some (.Call (.Name x px) (e :: es) [] cpos)) pos) (tS C W io (sCallG (fun rs => (run rs).cr (iosOf ms)) .back mes dd ms)) := by
  have h1 := hst
  rw [List.all_cons, Bool.and_eq_true] at h1
  obtain ⟨k, f, fd, ps, us, F, hr, hm, hk, hb, hd, hsc⟩ := F
  exact PS.weak (ps_ret (pe_callSD F hr hg hm hk hb hd (passAt tk) ha hdb (starEach_cons h1.1) (starEach_any h1.2))) fun E σ H h => sCallG_read (ret := .back) hlen hml hsc nd hle hdv (fun i z => by cases z) (fun v H2 _ _ z => z rfl) h
theorem pa_nilG : PA X [] (tMsG C W [] (eArgs [])) := PA.weak pa_nil fun σ H Q ⟨ρ, c, S, sr, q⟩ => (RWs.nil q) (fun p j v h => by simp at h)
theorem eVar_rr {K : PySem.W.Frag} {σ : L2.St} {H : Hp} {ρ : Mp.Env} {c : Nat → List Addr} {S : Addr → Prop} {i : Nat} {r : R} (sr : SR K σ H ρ c S) (e : eVar i ρ = .ok r) : ∃ v, σ[i]? = some (some v) ∧ RR K H H (Mp.Own c S) v r := by
  unfold eVar at e
  split at e
  · next d e1 =>
    cases e
    obtain ⟨v, h1, h2⟩ := sr.rep i _ e1
    exact ⟨v, h1, h2.2⟩
  · next d e1 =>
    cases e
    obtain ⟨v, h1, a, rfl, h2, h3⟩ := sr.rep i _ e1
    exact ⟨_, h1, h3.lent⟩
  · next d e1 =>
    cases e
    obtain ⟨v, h1, h2⟩ := sr.rep i _ e1
    exact ⟨v, h1, h2.2.lent⟩
  · cases e
theorem pa_varG {i : Nat} {a : Ar} (ha : a = .io i ∨ a = .le i) (hN : X.N[i]? = some x) (hv : Vis X.env.scope x) (hd : (x == ("__debug__" : Str)) = false) (hcd : (x == ("__classdict__" : Str)) = false) (hr : PA X es (tMsG C W ms (eArgs mes))) :
    PA X (.Name x px :: es) (tMsG C W (a :: ms) (eArgs (eVar i :: mes))) :=
  PA.weak (pa_cons (pe_var hN hv hd hcd) hr (starEach_cons rfl)) fun σ H Q ⟨ρ, c, S, sr, q⟩ => by
    simp only [eArgs] at q
    cases e1 : eVar i ρ with
    | stuck => rw [e1] at q; exact q.elim
    | exc k pl => unfold eVar at e1; split at e1 <;> cases e1
    | ok r =>
      obtain ⟨v, hv, rv⟩ := eVar_rr sr e1
      rw [e1] at q
      simp only at q
      refine ⟨v, hv, ρ, c, S, sr, ?_⟩
      cases e2 : eArgs mes ρ with
      | stuck => rw [e2] at q; exact q.elim
      | exc k pl => rw [e2] at q; exact q
      | ok rs =>
        rw [e2] at q
        intro vs H2 x2 r2 hvs
        refine q (v :: vs) H2 x2 (.cons (rv.mono (Ex.refl _) x2) r2) fun p j w hm hw => ?_
        cases p with
        | zero =>
          have : j = i := by
            simp only [List.getElem?_cons_zero, Option.some.injEq] at hm
            rcases ha with rfl | rfl <;> rcases hm with hm | hm <;> cases hm <;> rfl
          subst this
          rw [hv] at hw
          cases hw
          rfl
        | succ p => simpa using hvs p j w (by simpa using hm) hw
theorem pa_consG (ha : PE X e (tM C W m)) (hr : PA X es (tMsG C W ms (eArgs mes))) (hs : noStar e = true) : PA X (e :: es) (tMsG C W (.v :: ms) (eArgs (m :: mes))) :=
  PA.weak (pa_cons ha hr (starEach_cons hs)) fun σ H Q ⟨ρ, c, S, sr, q⟩ => by
    simp only [eArgs] at q
    refine ⟨ρ, c, S, sr, ?_⟩
    cases e1 : m ρ with
    | stuck => rw [e1] at q; exact q.elim
    | exc k pl => rw [e1] at q; exact q
    | ok r =>
      rw [e1] at q
      simp only at q
      intro v H1 x1 r1
      refine ⟨ρ, c, S, sr.ex x1, ?_⟩
      cases e2 : eArgs mes ρ with
      | stuck => rw [e2] at q; exact q.elim
      | exc k pl => rw [e2] at q; exact fun H' d x2 p => q H' d (x1.trans x2) p
      | ok rs =>
        rw [e2] at q
        intro vs H2 x2 r2 hvs
        refine q (v :: vs) H2 (x1.trans x2) (.cons (r1.mono (Ex.refl _) x2) (Pd.mono x1 (Ex.refl _) r2)) fun p j w hm hw => ?_
        cases p with
        | zero => simp at hm
        | succ p => simpa using hvs p j w (by simpa using hm) hw
theorem PA.padG {k : Nat} (h : PA X es (tMsG C W ms (eArgs mes))) : PA X es (tMsG C W (ms ++ List.replicate k .v) (eArgs mes)) :=
  PA.weak h fun σ H Q ⟨ρ, c, S, sr, q⟩ => ⟨ρ, c, S, sr, q.imp fun vs H' k1 hv => k1 fun p j v hm hw => hv p j v (by
    rcases hm with hm | hm <;> (
      by_cases hp : p < ms.length
      · rw [List.getElem?_append_left hp] at hm
        first | exact .inl hm | exact .inr hm
      · rw [List.getElem?_append_right (by omega), List.getElem?_replicate] at hm
        split at hm <;> cases hm)) hw⟩
end

structure ExcAt (X : Cx) (x : Str) (a : Addr) : Prop where
  mg : X.mg x = some (.ref a)
  kp : PySem.W.keepIn X.K (.ref a) = true
  sub : PySem.W.subIn X.K (.ref a) (.type "BaseException") = some true
  ty : PySem.W.typeIn X.K (.ref a) = some (.type "type")
  ex : ∃ (B newId initId : String) (bmB : List Value), ExcBaseFacts B newId initId bmB ∧ PySem.W.excIn X.K a bmB newId = true
def sRaise (k : Nat) (ρ : Env) : Out := .ex k [] ρ
def catchGo (t : Nat → Nat → Option Bool) (k : Nat) (pl : List (Str × D)) (ρ : Env) : List (Nat × (Env → Out)) → Out
  | [] => .ex k pl ρ
  | (j, ms) :: r => match t k j with
    | some true => (match ms ρ with
      | .ex _ _ _ => .stuck
      | o => o)
    | some false => catchGo t k pl ρ r
    | none => .stuck
def sTry (t : Nat → Nat → Option Bool) (mb : Env → Out) (hs : List (Nat × (Env → Out))) (ρ : Env) : Out := match mb ρ with
  | .ex k pl ρ' => catchGo t k pl ρ' hs
  | o => o
section
variable {X : Cx} {C : Cn} {W : WX} {io : List Nat} {x : Str} {p p2 pos pos' : Pos} {m : Str} {j k : Nat}
theorem ps_raiseM (hc : X.calm = true) (tk : Takes X W) (hg : Gl X x) (hdb : (x == ("__debug__" : Str)) = false) (e : ExcAt X x (C.ca k)) : PS X (.Raise (some (.Call (.Name x p) [.Constant (.str m) j p2] [] pos)) none pos') (tS C W io (sRaise k)) := by
  obtain ⟨B, newId, initId, bmB, F, q⟩ := e.ex
  exact PS.weak (ps_raise hc tk (pmk_own F q e.mg e.kp (raises_own e.sub e.ty) hg hdb)) fun E σ H ⟨ρ, c, S, sr, h⟩ => h σ H c none sr Stp.refl (.inl ⟨rfl, rfl⟩)
inductive HdsM (X : Cx) (C : Cn) (io : List Nat) : List ExceptHandler → List (Nat × (Env → Out)) → Prop
  | nil : HdsM X C io [] []
  | cons {x : Str} {j : Nat} {m : Env → Out} {b₀ : Stmt} {suite : List Stmt} {np pos' : Pos} {hds : List ExceptHandler} {l : List (Nat × (Env → Out))} (hc : Names X x (.ref (C.ca j))) (hsu : ∀ (a : Addr) (pn : List (Addr × Obj)), PSs (X.suite a pn) (b₀ :: suite) (tS C WN io m)) (r : HdsM X C io hds l) :
      HdsM X C io (.ExceptHandler (some (.Name x np)) none (b₀ :: suite) pos' :: hds) ((j, m) :: l)
def hdT (C : Cn) (io : List Nat) (l : List (Nat × (Env → Out))) : List (Value × (Addr → Value → Option Addr → TS)) := l.map fun p => (.ref (C.ca p.1), fun _ _ _ => tS C WN io p.2)
theorem HdsM.ok {hds : List ExceptHandler} {l : List (Nat × (Env → Out))} (h : HdsM X C io hds l) : HdsOk X hds (hdT C io l) := by
  induction h with
  | nil => exact .nil
  | cons hc hsu _ ih => exact .cons hc (fun a oe _ _ pn _ _ => hsu a ((a, oe) :: pn)) ih
theorem catch_ok {K : PySem.W.Frag} {t : Nat → Nat → Option Bool} {E : Ends} {σ' : L2.St} {ρ' : Mp.Env} {c' : Nat → List Addr} {S : Addr → Prop} {H' : Hp} {k : Nat} {pl : List (Str × D)} {d : Option Addr} (ht : ∀ k j b, t k j = some b → PySem.W.exmOne K (.ref (C.ca k)) (.ref (C.ca j)) = some b)
    (sr' : SR C.K σ' H' ρ' c' S) (xp : XP H' (Mp.Own c' S) d pl) : ∀ l : List (Nat × (Env → Out)), SW C W io E σ' ρ' c' S H' (catchGo t k pl ρ' l) → wMany K W E (hdT C io l) (.ref (C.ca k)) d σ' H'
  | [], h' => h' σ' H' c' d sr' Stp.refl xp
  | (j, ms) :: r, h' => by
    unfold catchGo at h'
    split at h'
    · next e2 =>
      refine ⟨true, ht _ _ _ e2, fun _ a _ => ⟨ρ', c', S, sr', ?_⟩, fun z => by cases z⟩
      show SW C WN io E σ' ρ' c' S H' (ms ρ')
      cases e3 : ms ρ' with
      | nx ρ2 => rw [e3] at h'; exact h'
      | rt r ρ2 => rw [e3] at h'; exact h'
      | bk ρ2 => rw [e3] at h'; exact h'
      | ct ρ2 => rw [e3] at h'; exact h'
      | stuck => rw [e3] at h'; exact h'
      | ex k2 pl2 ρ2 => rw [e3] at h'; exact h'.elim
    · next e2 => exact ⟨false, ht _ _ _ e2, fun z => (by cases z), fun _ => catch_ok ht sr' xp r h'⟩
    · exact h'.elim
theorem ps_tryM {body : List Stmt} {hds : List ExceptHandler} {h₀ : ExceptHandler} {mb : Env → Out} {l : List (Nat × (Env → Out))} {t : Nat → Nat → Option Bool} (hs : X.stack = X.env :: X.outer) (hf : X.env.frame = some X.env.locals) (tk : Takes X W)
    (ht : ∀ k j b, t k j = some b → PySem.W.exmOne X.K (.ref (C.ca k)) (.ref (C.ca j)) = some b)
    (hb : ∀ (W : WX) (pn : List (Addr × Obj)) (xe : Value → Shared → Prop), Takes (X.tr pn xe) W → PassesOwn (model X.prog X.w) X.A X.env xe → PSs (X.tr pn xe) body (tS C W io mb))
    (hh : HdsM X C io (h₀ :: hds) l) : PS X (.Try body (h₀ :: hds) [] [] pos) (tS C W io (sTry t mb l)) :=
  PS.weak (ps_try_many (tb := fun W => tS C W io mb) hs hf tk hb hh.ok) fun E σ H ⟨ρ, c, S, sr, h⟩ => by
    refine ⟨ρ, c, S, sr, ?_⟩
    unfold sTry at h
    cases e1 : mb ρ with
    | nx ρ' => rw [e1] at h; exact h
    | rt r ρ' => rw [e1] at h; exact h
    | bk ρ' => rw [e1] at h; exact h
    | ct ρ' => rw [e1] at h; exact h
    | stuck => rw [e1] at h; exact h
    | ex k pl ρ' =>
      rw [e1] at h
      exact fun σ' H' c' d sr' st' xp => catch_ok ht sr' xp l (SW.after st' h)
end

def dctPutK (ks : List D) (k : D) : List D := if (ks.any fun x => keq x k) = true then ks else ks ++ [k]
def dctPutV (ks vs : List D) (k v : D) : List D := if (ks.any fun x => keq x k) = true then List.zipWith (fun k' v' => if keq k' k = true then v else v') ks vs else vs ++ [v]
theorem put_rel {H : Hp} {P : Addr → Prop} {κ : Type} [DecidableEq κ] {f : κ → D} (hf : ∀ a b, keq (f a) (f b) = decide (a = b)) (k : κ) {v : V} {d : D} (rv : Rp H P v d) {kvs : List (κ × V)} {ds : List D} (r : Rps H P (kvs.map (·.2)) ds) :
    (putK kvs k v).map (fun p => f p.1) = dctPutK (kvs.map fun p => f p.1) (f k) ∧ Rps H P ((putK kvs k v).map (·.2)) (dctPutV (kvs.map fun p => f p.1) ds (f k) d) := by
  have ea : ((kvs.map fun p => f p.1).any fun x => keq x (f k)) = kvs.any fun kv => decide (kv.1 = k) := by
    rw [List.any_map]
    congr 1
    funext p
    exact hf _ _
  unfold putK dctPutK dctPutV
  rw [ea]
  by_cases h : (kvs.any fun kv => decide (kv.1 = k)) = true
  · rw [if_pos h, if_pos h, if_pos h]
    refine ⟨?_, ?_⟩
    · rw [List.map_map]
      refine List.map_congr_left fun p _ => ?_
      simp only [Function.comp]
      split <;> rfl
    · clear ea h
      induction kvs generalizing ds with
      | nil => cases ds with
        | nil => simp [Rps]
        | cons _ _ => simp [Rps] at r
      | cons p kvs ih => cases ds with
        | nil => simp [Rps] at r
        | cons d' ds =>
          simp only [List.map_cons, Rps, List.zipWith_cons_cons, hf] at r ⊢
          refine ⟨?_, ih r.2⟩
          by_cases e : p.1 = k
          · rw [if_pos e, if_pos (decide_eq_true e)]; exact rv
          · rw [if_neg e, if_neg (by simp [e])]; exact r.1
  · rw [if_neg h, if_neg h, if_neg h, List.map_append, List.map_append]
    exact ⟨rfl, r.append (Rps.one rv)⟩
theorem putK_mem {κ : Type} [DecidableEq κ] {kvs : List (κ × V)} {k : κ} {v : V} {p : κ × V} (h : p ∈ putK kvs k v) : p.1 = k ∨ ∃ q ∈ kvs, q.1 = p.1 := by
  unfold putK at h
  split at h
  · obtain ⟨q, hq, e⟩ := List.mem_map.mp h
    refine .inr ⟨q, hq, ?_⟩
    rw [← e]
    split <;> rfl
  · rcases List.mem_append.mp h with h | h
    · exact .inr ⟨p, h, rfl⟩
    · rw [List.mem_singleton] at h; subst h; exact .inl rfl
theorem key_K {K : PySem.W.Frag} {H0 H : Hp} {P : Addr → Prop} {u : V} {k : R} {kk : D} (hu : RR K H0 H P u k) (ek : dKey false k = some kk) : ∃ key, kk = kD key ∧ u = kV key ∧ ∀ x, key = .inr x → strOk x = true := by
  unfold dKey at ek
  simp only at ek
  split at ek
  · next hs =>
    cases ek
    obtain ⟨key, hk⟩ := Option.isSome_iff_exists.mp hs
    have ekk := keyD_some hk
    have hu' := hu.sc (by rw [ekk]; cases key <;> rfl)
    rw [ekk] at hu' ⊢
    refine ⟨key, rfl, ?_⟩
    cases key with
    | inl i => simp only [kD, Rp] at hu'; exact ⟨hu', fun x z => by cases z⟩
    | inr x => simp only [kD, Rp] at hu'; exact ⟨hu'.1, fun y z => by cases z; exact hu'.2⟩
  · cases ek
theorem key_T {K : PySem.W.Frag} {H0 H : Hp} {P : Addr → Prop} {u : V} {k : R} {kk : D} (hu : RR K H0 H P u k) (ek : dKey true k = some kk) : ∃ key b, kk = ksD key ∧ u = .ref b ∧ H b = some (.tup (key.map kV)) ∧ ∀ x, Sum.inr x ∈ key → strOk x = true := by
  unfold dKey at ek
  simp only at ek
  split at ek
  · next es =>
    split at ek
    · next hs =>
      cases ek
      obtain ⟨key, hk⟩ := Option.isSome_iff_exists.mp hs
      have ekk := keysD_some hk
      have hu' : Rp H P u (.tup es) := hu
      simp only [Rp] at hu'
      obtain ⟨b, vs, rfl, _, hb, hr⟩ := hu'
      have ev : vs = key.map kV ∧ ∀ x, Sum.inr x ∈ key → strOk x = true := by
        rw [ekk] at hr
        clear ekk hk hs hb hu
        induction key generalizing vs with
        | nil => cases vs with
          | nil => exact ⟨rfl, fun x z => by cases z⟩
          | cons _ _ => simp [Rps] at hr
        | cons k r ih => cases vs with
          | nil => simp [Rps] at hr
          | cons v vs =>
            simp only [List.map_cons, Rps] at hr
            obtain ⟨i1, i2⟩ := ih vs hr.2
            cases k with
            | inl i =>
              have h1 := hr.1
              simp only [kD, Rp] at h1
              refine ⟨by rw [List.map_cons, ← i1, h1]; rfl, fun x z => ?_⟩
              rcases List.mem_cons.mp z with z | z
              · cases z
              · exact i2 x z
            | inr y =>
              have h1 := hr.1
              simp only [kD, Rp] at h1
              refine ⟨by rw [List.map_cons, ← i1, h1.1]; rfl, fun x z => ?_⟩
              rcases List.mem_cons.mp z with z | z
              · cases z; exact h1.2
              · exact i2 x z
      exact ⟨key, b, by rw [ekk]; rfl, rfl, by rw [hb, ev.1], ev.2⟩
    · cases ek
  · cases ek
def eDct0 (tk : Bool) (_ : Env) : Res R := .ok (.own (.dct tk [] []))
def sDput (j : Nat) (mk mv : Env → Res R) (ρ : Env) : Out := onO j ρ fun d => match d with
  | .dct tk ks ds => oB (mv ρ) ρ fun rv => oB (mk ρ) ρ fun rk => (match dKey tk rk, rv.froz with
    | some kk, some dd => if ds.length < LIM then .nx (ρ.set j (some (.own (.dct tk (dctPutK ks kk) (dctPutV ks ds kk dd))))) else .stuck
    | _, _ => .stuck)
  | _ => .stuck
section
variable {X : Cx} {C : Cn} {W : WX} {io : List Nat} {pos pos' px : Pos} {x : Str} {i value : Expr} {mk mv : Env → Res R} {j : Nat}
theorem pe_dct0M (tk : Bool) : PE X (.Dict [] [] pos) (tM C W (eDct0 tk)) := by
  cases tk with
  | false =>
    refine PE.weak pe_dnewK fun σ H Q ⟨ρ, c, S, sr, h⟩ p hp => h (.ref p) _ (Ex.new hp) ⟨p, rfl, hp, fun z => ?_, [], upd_same, rfl, (fun _ z => (by cases z)), (by simp [Rps])⟩
    obtain ⟨o, q⟩ := sr.trk p z
    rw [hp] at q; cases q
  | true =>
    refine PE.weak pe_dnewT fun σ H Q ⟨ρ, c, S, sr, h⟩ p hp => h (.ref p) _ (Ex.new hp) ⟨p, rfl, hp, fun z => ?_, [], upd_same, rfl, (fun _ z => (by cases z)), (by simp [Rps])⟩
    obtain ⟨o, q⟩ := sr.trk p z
    rw [hp] at q; cases q
theorem ps_dputM (hu : X.A.units + 200 < cLine) (hN : X.N[j]? = some x) (hv : Vis X.env.scope x) (hd : (x == ("__debug__" : Str)) = false) (hcd : (x == ("__classdict__" : Str)) = false) (hi : PE X i (tM C W mk)) (hval : PE X value (tM C W mv)) (hc : noComp value = true) :
    PS X (.Assign [.Subscript (.Name x px) i pos'] value pos) (tS C W io (sDput j mk mv)) :=
  PS.weak (ps_dput (by omega) (pe_var hN hv hd hcd) hi hval (swaps_no hc)) fun E σ H ⟨ρ, c, S, sr, h⟩ => by
    unfold sDput onO at h
    split at h
    · next d e0 =>
      dsimp only at h
      split at h
      · next tk ks ds =>
        refine ⟨ρ, c, S, sr, (SW.rw sr h).imp fun v H1 ⟨rv, x1, r1, h1⟩ => ?_⟩
        obtain ⟨v0, hs, a, rfl, hcell, hc0⟩ := sr.rep j _ e0
        refine ⟨.ref a, hs, ρ, c, S, sr.ex x1, (SW.rw (sr.ex x1) h1).imp fun u H2 ⟨rk, x2, r2, h2⟩ => ?_⟩
        have sr2 := (sr.ex x1).ex x2
        have P : Mp.Own c S a := .inl ⟨j, by rw [hcell]; simp⟩
        have hc2 := (hc0.ex x1).ex x2
        split at h2
        · next kk dd ek ed =>
          split at h2
          · next hz =>
            have rd := (r1.mono (Ex.refl _) x2).froz ed
            have h3 := h2
            cases tk with
            | false =>
              obtain ⟨kvs, hH, rfl, hok, hr⟩ := hc2
              obtain ⟨key, rfl, rfl, hk⟩ := key_K r2 ek
              obtain ⟨p1, p2⟩ := put_rel keq_kD key rd hr
              have hz' : kvs.length < sizeLine := by have := hr.length; rw [List.length_map] at this; rw [this]; exact lim_lt hz
              obtain ⟨s1, s2⟩ := sr2.upd (io := io) (a := a) (o := .dK (putK kvs key v)) (d' := .dct false (dctPutK (kvs.map fun p => kD p.1) (kD key)) (dctPutV (kvs.map fun p => kD p.1) ds (kD key) dd)) e0 hs
                ⟨putK kvs key v, upd_same, p1.symm, (fun p hp y hy => by
                  rcases putK_mem hp with e | ⟨q, hq, e⟩
                  · exact hk y (e ▸ hy)
                  · exact hok q hq y (e.trans hy)), p2.upd P⟩
              exact ⟨a, _, rfl, DPut.k hH hz', h3.nx s1 s2⟩
            | true =>
              obtain ⟨kvs, hH, rfl, hok, hr⟩ := hc2
              obtain ⟨key, b, rfl, rfl, hb, hk⟩ := key_T r2 ek
              obtain ⟨p1, p2⟩ := put_rel keq_ksD key rd hr
              have hz' : kvs.length < sizeLine := by have := hr.length; rw [List.length_map] at this; rw [this]; exact lim_lt hz
              obtain ⟨s1, s2⟩ := sr2.upd (io := io) (a := a) (o := .dT (putK kvs key v)) (d' := .dct true (dctPutK (kvs.map fun p => ksD p.1) (ksD key)) (dctPutV (kvs.map fun p => ksD p.1) ds (ksD key) dd)) e0 hs
                ⟨putK kvs key v, upd_same, p1.symm, (fun p hp y hy => by
                  rcases putK_mem hp with e | ⟨q, hq, e⟩
                  · exact hk y (e ▸ hy)
                  · exact hok q hq y (by rw [e]; exact hy)), p2.upd P⟩
              exact ⟨a, _, rfl, DPut.t hH hb hz', h3.nx s1 s2⟩
          · exact h2.elim
        · exact h2.elim
      · exact h.elim
    · exact h.elim
end
def opDin (neg : Bool) (x y : R) : Res R := match y.d with
  | .dct tk ks ds => (match dKey tk x with
    | some k => .ok (.val (.bl (if neg then !(dctGet ks ds k).isSome else (dctGet ks ds k).isSome)))
    | none => .stuck)
  | _ => .stuck
def opAnyIn (neg : Bool) (x y : R) : Res R := if isDct y.d then opDin neg x y else opCmp (if neg then .NotIn else .In) x y
def eDin (neg : Bool) (ma mb : Env → Res R) (ρ : Env) : Res R := (ma ρ).bind fun x => (mb ρ).bind fun y => opAnyIn neg x y
section
variable {X : Cx} {C : Cn} {W : WX} {pos apos : Pos} {a b o e : Expr} {ma mb mo m : Env → Res R}
theorem din_ok {P : Addr → Prop} {σ : L2.St} {Ha Hb H : Hp} {Q : VK} {v u : V} {x y : R} {neg : Bool} (rv : RR C.K Ha H P v x) (ru : RR C.K Hb H P u y) (h : RW C W P σ H (opDin neg x y) Q) :
    ∃ p o, u = .ref p ∧ DGet H p v o ∧ Q (.bl (if neg then !o.isSome else o.isSome)) H := by
  unfold opDin at h
  split at h
  · next tk ks ds e =>
    split at h
    · next k ek =>
      obtain ⟨p, o, hv, hg, hr⟩ := look_ok (ru.mono (H0' := fun _ => none) (fun _ _ z => nomatch z) (Ex.refl _)) e (rv.mono (H0' := fun _ => none) (fun _ _ z => nomatch z) (Ex.refl _)) ek
      refine ⟨p, o, hv, hg, ?_⟩
      rw [hr.isSome]
      exact h _ H (Ex.refl _) rr_bl
    · exact h.elim
  · exact h.elim
def eDinD (neg : Bool) (ma mb : Env → Res R) (ρ : Env) : Res R := (ma ρ).bind fun x => (mb ρ).bind fun y => opDin neg x y
theorem din_two (neg : Bool) (ma mb : Env → Res R) (ρ : Env) : eDin neg ma mb ρ = eDinD neg ma mb ρ ∨ eDin neg ma mb ρ = eCmp (if neg then .NotIn else .In) ma mb ρ := by
  unfold eDin eDinD eCmp
  cases ma ρ with
  | ok x =>
    cases mb ρ with
    | ok y =>
      simp only [Res.bind_ok, opAnyIn]
      by_cases h : isDct y.d = true
      · rw [if_pos h]; exact .inl rfl
      · rw [if_neg h]; exact .inr rfl
    | exc _ _ => exact .inl rfl
    | stuck => exact .inl rfl
  | exc _ _ => exact .inl rfl
  | stuck => exact .inl rfl
theorem PT.or {t t' : TT} (h : PT X e t) (h' : PT X e t') : PT X e (fun σ H Q => t σ H Q ∨ t' σ H Q) := ⟨fun pins s σ H Q I q => q.elim (h.run pins s σ H Q I) (h'.run pins s σ H Q I)⟩
theorem pe_two {m1 m2 m3 : Env → Res R} (h : ∀ ρ, m3 ρ = m1 ρ ∨ m3 ρ = m2 ρ) (h1 : PE X e (tM C W m1)) (h2 : PE X e (tM C W m2)) : PE X e (tM C W m3) :=
  PE.weak (PE.or h1 h2) fun σ H Q ⟨ρ, c, S, sr, q⟩ => (h ρ).elim (fun z => .inl ⟨ρ, c, S, sr, by rw [← z]; exact q⟩) (fun z => .inr ⟨ρ, c, S, sr, by rw [← z]; exact q⟩)
theorem pt_two {m1 m2 m3 : Env → Res R} (h : ∀ ρ, m3 ρ = m1 ρ ∨ m3 ρ = m2 ρ) (h1 : PT X e (tMt C W m1)) (h2 : PT X e (tMt C W m2)) : PT X e (tMt C W m3) :=
  PT.weak (PT.or h1 h2) fun σ H Q ⟨ρ, c, S, sr, q⟩ => (h ρ).elim (fun z => .inl ⟨ρ, c, S, sr, by rw [← z]; exact q⟩) (fun z => .inr ⟨ρ, c, S, sr, by rw [← z]; exact q⟩)
theorem pe_dinD (hu : X.A.units + 200 < cLine) (ha : PE X a (tM C W ma)) (hb : PE X b (tM C W mb)) (hm : behindInMarks .In b = false) : PE X (.Compare a [.In] [b] pos) (tM C W (eDinD false ma mb)) :=
  PE.weak (pe_cmp (pc_din (by omega) ha hb) hm) fun σ H Q ⟨ρ, c, S, sr, h⟩ => ⟨ρ, c, S, sr, (RW.bind h).imp fun v H1 ⟨x, e1, rx, h1⟩ => ⟨ρ, c, S, sr.ex e1, (RW.bind h1).imp fun u H2 ⟨y, e2, ry, h2⟩ => din_ok (rx.mono (Ex.refl _) e2) ry h2⟩⟩
theorem pe_dninD (hu : X.A.units + 200 < cLine) (ha : PE X a (tM C W ma)) (hb : PE X b (tM C W mb)) (hm : behindInMarks .NotIn b = false) : PE X (.Compare a [.NotIn] [b] pos) (tM C W (eDinD true ma mb)) :=
  PE.weak (pe_cmp (pc_dnotin (by omega) ha hb) hm) fun σ H Q ⟨ρ, c, S, sr, h⟩ => ⟨ρ, c, S, sr, (RW.bind h).imp fun v H1 ⟨x, e1, rx, h1⟩ => ⟨ρ, c, S, sr.ex e1, (RW.bind h1).imp fun u H2 ⟨y, e2, ry, h2⟩ => din_ok (rx.mono (Ex.refl _) e2) ry h2⟩⟩
theorem pt_dinD (hu : X.A.units + 200 < cLine) (ha : PE X a (tM C W ma)) (hb : PE X b (tM C W mb)) (hm : behindInMarks .In b = false) : PT X (.Compare a [.In] [b] pos) (tMt C W (eDinD false ma mb)) :=
  PT.weak (pt_cmp (pc_din (by omega) ha hb) hm) fun σ H Q ⟨ρ, c, S, sr, h⟩ => ⟨ρ, c, S, sr, (RW.bind h).imp fun v H1 ⟨x, e1, rx, h1⟩ => ⟨ρ, c, S, sr.ex e1, (RW.bind h1).imp fun u H2 ⟨y, e2, ry, h2⟩ => din_ok (rx.mono (Ex.refl _) e2) ry h2⟩⟩
theorem pt_dninD (hu : X.A.units + 200 < cLine) (ha : PE X a (tM C W ma)) (hb : PE X b (tM C W mb)) (hm : behindInMarks .NotIn b = false) : PT X (.Compare a [.NotIn] [b] pos) (tMt C W (eDinD true ma mb)) :=
  PT.weak (pt_cmp (pc_dnotin (by omega) ha hb) hm) fun σ H Q ⟨ρ, c, S, sr, h⟩ => ⟨ρ, c, S, sr, (RW.bind h).imp fun v H1 ⟨x, e1, rx, h1⟩ => ⟨ρ, c, S, sr.ex e1, (RW.bind h1).imp fun u H2 ⟨y, e2, ry, h2⟩ => din_ok (rx.mono (Ex.refl _) e2) ry h2⟩⟩
theorem pe_dinM (hK : X.K = C.K) (hu : X.A.units + 200 < cLine) (ha : PE X a (tM C W ma)) (hb : PE X b (tM C W mb)) (hm : behindInMarks .In b = false) : PE X (.Compare a [.In] [b] pos) (tM C W (eDin false ma mb)) :=
  pe_two (din_two false ma mb) (pe_dinD hu ha hb hm) (pe_cmpM hK hu ha hb hm)
theorem pt_dinM (hK : X.K = C.K) (hu : X.A.units + 200 < cLine) (ha : PE X a (tM C W ma)) (hb : PE X b (tM C W mb)) (hm : behindInMarks .In b = false) : PT X (.Compare a [.In] [b] pos) (tMt C W (eDin false ma mb)) :=
  pt_two (din_two false ma mb) (pt_dinD hu ha hb hm) (pt_cmpM hK hu ha hb hm)
theorem pe_dninM (hK : X.K = C.K) (hu : X.A.units + 200 < cLine) (ha : PE X a (tM C W ma)) (hb : PE X b (tM C W mb)) (hm : behindInMarks .NotIn b = false) : PE X (.Compare a [.NotIn] [b] pos) (tM C W (eDin true ma mb)) :=
  pe_two (din_two true ma mb) (pe_dninD hu ha hb hm) (pe_cmpM hK hu ha hb hm)
theorem pt_dninM (hK : X.K = C.K) (hu : X.A.units + 200 < cLine) (ha : PE X a (tM C W ma)) (hb : PE X b (tM C W mb)) (hm : behindInMarks .NotIn b = false) : PT X (.Compare a [.NotIn] [b] pos) (tMt C W (eDin true ma mb)) :=
  pt_two (din_two true ma mb) (pt_dninD hu ha hb hm) (pt_cmpM hK hu ha hb hm)
theorem pe_get1M (hu : X.A.units + 200 < cLine) (ho : PE X o (tM C W mo)) (he : PE X e (tM C W m)) (hb : plainBase o = true) (hst : noStar e = true) (hl : (apos.endLine == pos.line) = true) :
    PE X (.Call (.Attribute o "get" apos) [e] [] pos) (tM C W (eGet1 mo m)) := by
  refine PE.weak (pe_dget1 (by omega) ho he (m1_of hb hst hl)) fun σ H Q ⟨ρ, c, S, sr, h⟩ => ⟨ρ, c, S, sr, (RW.bind h).imp fun v H1 ⟨x, x1, r1, q1⟩ => ?_⟩
  split at q1
  · next hd =>
    obtain ⟨a, rfl, ha⟩ := r1.isD hd
    refine ⟨a, rfl, ha, ρ, c, S, sr.ex x1, (RW.bind q1).imp fun u H2 ⟨y, x2, r2, q2⟩ => ?_⟩
    obtain ⟨a', o', ea, hg, hq⟩ := get2_ok (Ex.refl _) (r1.mono (Ex.refl _) x2) r2 (show RR _ _ _ _ .non (.val .non) from (by simp [RR, Rp])) q2
    cases ea
    exact ⟨o', hg, hq⟩
  · exact q1.elim
end
end Mp

namespace Mp
open PySem L2

structure XiK (K : PySem.W.Frag) (B : Addr) (mc : Value) : Prop where
  rd : PySem.W.readsIn K B mc = true
  ga : PySem.W.specialIn K (.ref B) "__getattribute__" = some (some (.builtin "type.__getattribute__"))
  vV : PySem.W.findCls K (.ref B) mc "__init__" = some (.val (.builtin "ValueError.__init__"))
section
variable {X : Cx} {x : Str} {B : Addr} {mc : Value} {e : Expr} {es : List Expr} {ta : TA} {p1 p2 pos : Pos}
theorem pe_xinit {pl : Sem Bool} (hg : Gl X x) (hm : X.mg x = some (.ref B)) (hdb : (x == ("__debug__" : Str)) = false) (T0 : XiK X.K B mc) (ha : PA X (e :: es) ta)
    (hc : eval (.Call (.Attribute (.Name x p1) "__init__" p2) (e :: es) [] pos) X.env = (do
      let ov ← eval (.Name x p1) X.env
      standAt p2.atName
      let (f, first) ← holding [ov] (getMethod ov "__init__" pl)
      callWith pos f first (backTo pos (starEach (e :: es) X.env)) (backToKw pos (keywordEach [] X.env))) := by rfl)
    (he : starEach (e :: es) X.env = (false, eval e X.env) :: starEach es X.env := by rfl) (hpl : (backTo pos (starEach es X.env)).any (·.1) = false := by rfl) :
    PE X (.Call (.Attribute (.Name x p1) "__init__" p2) (e :: es) [] pos) (tVeI X.K ta) := by
  refine ⟨fun pins s σ H Q I h => ?_⟩
  refine PySem.W.methodCall_KW (ld_glob I hg hm ?_ hdb) hc
  refine PySem.W.method_cls I.kIn T0.ga (PySem.W.cls_value I.kIn T0.rd T0.vV (by decide +kernel) ?_)
  show wpAny _ _ (callWith pos (Value.builtin "ValueError.__init__") [] (backTo pos (starEach (e :: es) X.env)) []) _ _ _
  refine PyProof.Rows.callWith_method1 (thn (ha.run pos pins _ σ H _ (I.tok _) h) fun us s1 ⟨vs, H1, I1, r1, a, C, ws, ev, hl, T, ea, q⟩ => ?_) he hpl
  subst ev
  cases r1 with
  | @cons _ u0 _ ur ra rw' =>
    obtain rfl : u0 = Value.ref a := ra
    have hlen : ur.length ≤ sizeLine := by
      rw [← Paired.length rw', sizeLine_eq]
      omega
    exact oinit_ok T I1 ea hlen fun s' J => ⟨.non, H1, J, rfl, q⟩
end
def xiN : List Str := ["self", "part", "name", "due", "found"]
def xiF (y1 y2 y3 y4 : V) : List (Str × V) := [("found", y4), ("due", y3), ("name", y2), ("part", y1)]
def spXi (K : PySem.W.Frag) : Sp := fun vs H Q _ => vs.length = 5 ∧ ∃ a C y1 y2 y3 y4, vs = [.ref a, y1, y2, y3, y4] ∧ OexC K C ∧ (∀ f ∈ (["part", "name", "due", "found"] : List Str), PySem.W.findIn K (.ref C) f = some none) ∧ H a = some (exo a C none) ∧
  ∀ dx H2, H dx = none → dx ≠ a → H2 a = some (exo a C (some dx)) → H2 dx = some (exd dx (xiF y1 y2 y3 y4)) → (∀ c, c ≠ a → c ≠ dx → H2 c = H c) → Q .non H2
def xiPl : List D → Option (List (Str × D))
  | [d1, d2, d3, d4] => some [("found", d4), ("due", d3), ("name", d2), ("part", d1)]
  | _ => none
def xiOut (k : Nat) (ρ : Env) : Res (List R) → Out
  | .ok rs => (match (frozs rs).bind xiPl with
    | some pl => .ex k pl ρ
    | none => .stuck)
  | .exc c pl => .ex c pl ρ
  | .stuck => .stuck
def sRaiseF (k : Nat) (ms : List (Env → Res R)) (ρ : Env) : Out := xiOut k ρ (eArgs ms ρ)
theorem xiPl_some {ds : List D} {pl : List (Str × D)} (h : xiPl ds = some pl) : ∃ d1 d2 d3 d4, ds = [d1, d2, d3, d4] ∧ pl = ([("found", d4), ("due", d3), ("name", d2), ("part", d1)] : List (Str × D)) := by
  unfold xiPl at h
  split at h
  · cases h; exact ⟨_, _, _, _, rfl, rfl⟩
  · cases h
theorem Rps.four {H : Hp} {P : Addr → Prop} {vs : List V} {d1 d2 d3 d4 : D} (h : Rps H P vs [d1, d2, d3, d4]) : ∃ y1 y2 y3 y4, vs = [y1, y2, y3, y4] ∧ Rp H P y1 d1 ∧ Rp H P y2 d2 ∧ Rp H P y3 d3 ∧ Rp H P y4 d4 := by
  match vs, h with
  | [y1, y2, y3, y4], h =>
    simp only [Rps] at h
    exact ⟨_, _, _, _, rfl, h.1, h.2.1, h.2.2.1, h.2.2.2.1⟩
  | [], h => simp [Rps] at h
  | [_], h => simp [Rps] at h
  | [_, _], h => simp [Rps] at h
  | [_, _, _], h => simp [Rps] at h
  | _ :: _ :: _ :: _ :: _ :: _, h => simp [Rps] at h
section
variable {X : Cx} {C : Cn} {W : WX} {io : List Nat} {x : Str} {p pos pos' : Pos} {k kk : Nat} {fI : Addr} {fd : FuncData} {e : Expr} {es : List Expr} {ms : List (Env → Res R)}
theorem ps_raiseXi (hc : X.calm = true) (tk : Takes X W) (T : OexC X.K (C.ca k)) (nf : ∀ f ∈ (["part", "name", "due", "found"] : List Str), PySem.W.findIn X.K (.ref (C.ca k)) f = some none)
    (iC : PySem.W.findIn X.K (.ref (C.ca k)) "__init__" = some (some (.ref fI))) (tI : PySem.W.typeIn X.K (.ref fI) = some (.type "function")) (F1 : FnOk X.prog X.w X.K X.mg X.base (L2.CX X.prog X.w) kk fI fd xiN (spXi X.K)) (hr : Room (kk + 1) X.A) (hb : Binds X.K fd xiN [])
    (hg : Gl X x) (hdb : (x == ("__debug__" : Str)) = false) (hm : X.mg x = some (.ref (C.ca k))) (ha : PA X (e :: es) (tMs C W (eArgs ms)))
    (he : starEach (e :: es) X.env = (false, eval e X.env) :: starEach es X.env) (hpl : (backTo pos (starEach es X.env)).any (·.1) = false) :
    PS X (.Raise (some (.Call (.Name x p) (e :: es) [] pos)) none pos') (tS C W io (sRaiseF k ms)) := by
  refine PS.weak (ps_raise hc tk (pmk_oex T iC tI F1 hr hb .nil (passes_call tk fun _ _ _ _ z => False.elim z) hg hm ha hdb he hpl)) fun E σ H ⟨ρ, c, S, sr, h⟩ => ?_
  refine ⟨ρ, c, S, sr, ?_⟩
  unfold sRaiseF at h
  cases e1 : eArgs ms ρ with
  | stuck => rw [e1] at h; exact h.elim
  | exc j pl => rw [e1] at h; exact fun H' d x1 xp => h σ H' c d (sr.ex x1) (Stp.ex x1) xp
  | ok rs =>
    rw [e1] at h
    unfold xiOut at h
    intro vs H1 x1 r1
    simp only at h
    split at h
    · next pl ep =>
      cases ef : frozs rs with
      | none => rw [ef] at ep; cases ep
      | some ds =>
        rw [ef] at ep
        obtain ⟨d1, d2, d3, d4, rfl, rfl⟩ := xiPl_some ep
        obtain ⟨y1, y2, y3, y4, rfl, q1, q2, q3, q4⟩ := (Pd.froz r1 ef).four
        refine ⟨by simp, fun a na => ⟨by simp, a, C.ca k, y1, y2, y3, y4, rfl, T, nf, upd_same, fun dx H2 n1 n2 e1 e2 e3 => ?_⟩⟩
        rw [upd_ne n2] at n1
        have x2 : Ex H1 (upd (del H2 a) dx (.xd (xiF y1 y2 y3 y4))) := fun b o q => by
          have ba : b ≠ a := fun z => by rw [z, na] at q; cases q
          have bd : b ≠ dx := fun z => by rw [z, n1] at q; cases q
          rw [upd_ne bd, del_ne ba, e3 b ba bd, upd_ne ba]
          exact q
        refine ⟨rfl, dx, xiF y1 y2 y3 y4, e1, e2, n1, h σ _ c (some dx) (sr.ex (x1.trans x2)) (Stp.ex (x1.trans x2)) (.inr ⟨dx, xiF y1 y2 y3 y4, rfl, (fun z => by obtain ⟨o, q⟩ := (sr.ex x1).trk dx z; rw [n1] at q; cases q), upd_same, rfl, ?_⟩)⟩
        show Rps _ _ [y4, y3, y2, y1] [d4, d3, d2, d1]
        simp only [Rps]
        exact ⟨q4.ex x2, q3.ex x2, q2.ex x2, q1.ex x2, trivial⟩
    · exact h.elim
end

def sTryE (t : Nat → Nat → Option Bool) (mb : Env → Out) (hs : List (Nat × (Env → Out))) (mo : Env → Out) (ρ : Env) : Out := match mb ρ with
  | .ex k pl ρ' => catchGo t k pl ρ' hs
  | .nx ρ' => mo ρ'
  | o => o
section
variable {X : Cx} {C : Cn} {W : WX} {io : List Nat} {pos : Pos}
theorem ps_tryME {body orelse : List Stmt} {hds : List ExceptHandler} {h₀ : ExceptHandler} {mb mo : Env → Out} {l : List (Nat × (Env → Out))} {t : Nat → Nat → Option Bool} (hs : X.stack = X.env :: X.outer) (hf : X.env.frame = some X.env.locals) (tk : Takes X W)
    (ht : ∀ k j b, t k j = some b → PySem.W.exmOne X.K (.ref (C.ca k)) (.ref (C.ca j)) = some b)
    (hb : ∀ (W : WX) (pn : List (Addr × Obj)) (xe : Value → Shared → Prop), Takes (X.tr pn xe) W → PassesOwn (model X.prog X.w) X.A X.env xe → PSs (X.tr pn xe) body (tS C W io mb))
    (hh : HdsM X C io (h₀ :: hds) l) (ho : PSs X orelse (tS C W io mo)) : PS X (.Try body (h₀ :: hds) orelse [] pos) (tS C W io (sTryE t mb l mo)) :=
  PS.weak (ps_try_manyE (tb := fun W => tS C W io mb) ho hs hf tk hb hh.ok) fun E σ H ⟨ρ, c, S, sr, h⟩ => by
    refine ⟨ρ, c, S, sr, ?_⟩
    unfold sTryE at h
    cases e1 : mb ρ with
    | nx ρ' =>
      rw [e1] at h
      exact fun σ' H' c' sr' st => ⟨ρ', c', S, sr', SW.after st h⟩
    | rt r ρ' => rw [e1] at h; exact h
    | bk ρ' => rw [e1] at h; exact h
    | ct ρ' => rw [e1] at h; exact h
    | stuck => rw [e1] at h; exact h.elim
    | ex k pl ρ' =>
      rw [e1] at h
      exact fun σ' H' c' d sr' st xp => catch_ok ht sr' xp l (SW.after st h)
end

structure XfAt (X : Cx) (x : Str) (a : Addr) : Prop where
  mg : X.mg x = some (.ref a)
  oex : OexC X.K a
  nf : ∀ f ∈ (["part", "name", "due", "found"] : List Str), PySem.W.findIn X.K (.ref a) f = some none
  ex : ∃ kk fI fd, PySem.W.findIn X.K (.ref a) "__init__" = some (some (.ref fI)) ∧ PySem.W.typeIn X.K (.ref fI) = some (.type "function") ∧ FnOk X.prog X.w X.K X.mg X.base (L2.CX X.prog X.w) kk fI fd xiN (spXi X.K) ∧ Room (kk + 1) X.A ∧ Binds X.K fd xiN []
def sRaiseL (lv k : Nat) (ms : List (Env → Res R)) (ρ : Env) : Out := match lv with
  | n + 2 => sRaiseF k ms ρ
  | _ => .stuck

def dctDelK (ks : List D) (k : D) : List D := ks.filter fun x => !keq x k
def dctDelV (ks vs : List D) (k : D) : List D := ((ks.zip vs).filter fun p => !keq p.1 k).map (·.2)
theorem del_rel {H : Hp} {P : Addr → Prop} {κ : Type} [DecidableEq κ] {f : κ → D} (hf : ∀ a b, keq (f a) (f b) = decide (a = b)) (k : κ) : ∀ {kvs : List (κ × V)} {ds : List D}, Rps H P (kvs.map (·.2)) ds →
    (dropK kvs k).map (fun p => f p.1) = dctDelK (kvs.map fun p => f p.1) (f k) ∧ Rps H P ((dropK kvs k).map (·.2)) (dctDelV (kvs.map fun p => f p.1) ds (f k))
  | [], [], _ => ⟨rfl, by simp [dropK, dctDelV, Rps]⟩
  | [], _ :: _, h => by simp [Rps] at h
  | _ :: _, [], h => by simp [Rps] at h
  | p :: kvs, d :: ds, h => by
    simp only [List.map_cons, Rps] at h
    obtain ⟨i1, i2⟩ := del_rel hf k (kvs := kvs) h.2
    unfold dropK dctDelK dctDelV at *
    simp only [List.map_cons, List.zip_cons_cons, List.filter_cons, hf]
    by_cases e : p.1 = k
    · simp only [e, decide_true, Bool.not_true, ne_eq, not_true_eq_false, decide_false, Bool.false_eq_true, if_false]
      exact ⟨i1, i2⟩
    · simp only [e, decide_false, Bool.not_false, ne_eq, not_false_eq_true, decide_true, if_true, List.map_cons, Rps]
      exact ⟨by rw [i1], h.1, i2⟩
def sDpop (j : Nat) (mk : Env → Res R) (ρ : Env) : Out := onO j ρ fun d => match d with
  | .dct false ks ds => oB (mk ρ) ρ fun rk => (match dKey false rk with
    | some kk => if (ks.any fun x => keq x kk) = true then .nx (ρ.set j (some (.own (.dct false (dctDelK ks kk) (dctDelV ks ds kk))))) else .stuck
    | none => .stuck)
  | _ => .stuck
section
variable {X : Cx} {C : Cn} {W : WX} {io : List Nat} {pos px apos cpos : Pos} {x : Str} {e : Expr} {mk : Env → Res R} {j : Nat}
theorem ps_dpopM (hN : X.N[j]? = some x) (hv : Vis X.env.scope x) (hd : (x == ("__debug__" : Str)) = false) (hcd : (x == ("__classdict__" : Str)) = false) (he : PE X e (tM C W mk)) (hst : noStar e = true) (hl : (apos.endLine == cpos.line) = true) :
    PS X (.Expr (.Call (.Attribute (.Name x px) "pop" apos) [e] [] cpos) pos) (tS C W io (sDpop j mk)) :=
  PS.weak (ps_expr (pe_dpop1 (pe_var hN hv hd hcd) he (m1_of rfl hst hl)) rfl) fun E σ H ⟨ρ, c, S, sr, h⟩ => by
    unfold sDpop onO at h
    split at h
    · next d e0 =>
      dsimp only at h
      split at h
      · next ks ds =>
        obtain ⟨v0, hs, a, rfl, hcell, hc0⟩ := sr.rep j _ e0
        obtain ⟨kvs, hH, rfl, hok, hr⟩ := hc0
        refine ⟨.ref a, hs, a, rfl, .inl ⟨kvs, .inl hH⟩, ρ, c, S, sr, (SW.rw sr h).imp fun u H2 ⟨rk, x2, r2, h2⟩ => ?_⟩
        have P : Mp.Own c S a := .inl ⟨j, by rw [hcell]; simp⟩
        split at h2
        · next kk ek =>
          split at h2
          · next hz =>
            obtain ⟨key, rfl, rfl, hk⟩ := key_K r2 ek
            have hr2 := hr.ex x2
            obtain ⟨p1, p2⟩ := del_rel keq_kD key hr2
            have hany : (kvs.any fun kv => decide (kv.1 = key)) = true := by
              rw [List.any_map] at hz
              have e : ((fun x => keq x (kD key)) ∘ fun p : Key × V => kD p.1) = fun kv => decide (kv.1 = key) := by funext p; exact keq_kD p.1 key
              rw [e] at hz
              exact hz
            obtain ⟨q, hq⟩ : ∃ q, kvs.find? (fun kv => decide (kv.1 = key)) = some q := Option.isSome_iff_exists.mp (by rw [List.find?_isSome]; obtain ⟨q, h1, h2⟩ := List.any_eq_true.mp hany; exact ⟨q, h1, h2⟩)
            have sr2 := sr.ex x2
            obtain ⟨s1, s2⟩ := sr2.upd (io := io) (a := a) (o := .dK (dropK kvs key)) (d' := .dct false (dctDelK (kvs.map fun p => kD p.1) (kD key)) (dctDelV (kvs.map fun p => kD p.1) ds (kD key))) e0 hs
              ⟨dropK kvs key, upd_same, p1.symm, (fun p hp y hy => hok p (List.mem_filter.mp hp).1 y hy), p2.upd P⟩
            exact ⟨kvs, key, q.2, x2 _ _ hH, rfl, by unfold valV; rw [hq]; rfl, h2.nx s1 s2⟩
          · exact h2.elim
        · exact h2.elim
      · exact h.elim
    · exact h.elim
end
end Mp

namespace Mp
open PySem L2

def fldGet (f : Str) : List Str → List D → Option D
  | g :: ns, d :: ds => if g = f then some d else fldGet f ns ds
  | _, _ => none
def fldPutN (f : Str) : List Str → List Str
  | [] => [f]
  | g :: ns => if g = f then g :: ns else g :: fldPutN f ns
def fldPutV (f : Str) (v : D) : List Str → List D → List D
  | [], ds => v :: ds
  | g :: ns, d :: ds => if g = f then v :: ds else d :: fldPutV f v ns ds
  | _ :: _, [] => []
theorem fld_rel {H : Hp} {P : Addr → Prop} (f : Str) : ∀ {fvs : List (Str × V)} {ds : List D}, Rps H P (fvs.map (·.2)) ds → RelD H P (fvs.lookup f) (fldGet f (fvs.map (·.1)) ds)
  | [], [], _ => by simp [fldGet, RelD]
  | [], _ :: _, h => by simp [Rps] at h
  | _ :: _, [], h => by simp [Rps] at h
  | (g, x) :: fvs, d :: ds, h => by
    simp only [List.map_cons, Rps] at h
    simp only [List.map_cons, fldGet, List.lookup_cons]
    by_cases e : g = f
    · subst e
      simp only [beq_self_eq_true, if_true]
      exact h.1
    · rw [if_neg e, (beq_eq_false_iff_ne.mpr fun z => e z.symm : (f == g) = false)]
      exact fld_rel f h.2
theorem put_names (f : Str) (v : V) : ∀ fvs : List (Str × V), (putF f v fvs).map (·.1) = fldPutN f (fvs.map (·.1))
  | [] => rfl
  | (g, x) :: fvs => by
    unfold putF
    simp only [List.map_cons, fldPutN]
    by_cases e : g = f
    · rw [if_pos e, if_pos e]; rfl
    · rw [if_neg e, if_neg e, List.map_cons, put_names f v fvs]
theorem put_vals {H : Hp} {P : Addr → Prop} (f : Str) {v : V} {d : D} (r : Rp H P v d) : ∀ {fvs : List (Str × V)} {ds : List D}, Rps H P (fvs.map (·.2)) ds → Rps H P ((putF f v fvs).map (·.2)) (fldPutV f d (fvs.map (·.1)) ds)
  | [], [], _ => by simp [putF, fldPutV, Rps, r]
  | [], _ :: _, h => by simp [Rps] at h
  | _ :: _, [], h => by simp [Rps] at h
  | (g, x) :: fvs, d' :: ds, h => by
    simp only [List.map_cons, Rps] at h
    unfold putF
    simp only [List.map_cons, fldPutV]
    by_cases e : g = f
    · rw [if_pos e, if_pos e]; exact ⟨r, h.2⟩
    · rw [if_neg e, if_neg e]; exact ⟨h.1, put_vals f r h.2⟩
def opFld (C : Addr) (f : Str) (x : R) : Res R := match x.d with
  | .obj C' ns ds => if C' = C then (match fldGet f ns ds with
    | some d => .ok (.val d)
    | none => .stuck) else .stuck
  | _ => .stuck
def eFld (C : Addr) (f : Str) (m : Env → Res R) (ρ : Env) : Res R := (m ρ).bind (opFld C f)
def isObj (C : Addr) (d : D) : Bool := match d with
  | .obj C' _ _ => decide (C' = C)
  | _ => false
def eIsC (C : Addr) (m : Env → Res R) (ρ : Env) : Res R := (m ρ).bind fun r => if isObj C r.d then .ok (.val (.bl true)) else .stuck
def mkK (r : CR) : Res R := match r with
  | .ok (.val .non) [d] => .ok (.own d)
  | .exc k pl _ => .exc k pl
  | _ => .stuck
def eMk (C : Addr) (run : List R → CR) (ms : List (Env → Res R)) (ρ : Env) : Res R := (eArgs ms ρ).bind fun rs => mkK (run (.own (.obj C [] []) :: rs.map R.arg))
def sSetf (C : Addr) (i : Nat) (f : Str) (m : Env → Res R) (ρ : Env) : Out := oB (m ρ) ρ fun r => onO i ρ fun d => match d with
  | .obj C' ns ds => if C' = C then (match r.froz with
    | some v => if ds.length < 1000 then .nx (ρ.set i (some (.own (.obj C (fldPutN f ns) (fldPutV f v ns ds))))) else .stuck
    | none => .stuck) else .stuck
  | _ => .stuck
theorem RR.obj {K : PySem.W.Frag} {H0 H : Hp} {P : Addr → Prop} {v : V} {r : R} {C : Addr} {ns : List Str} {ds : List D} (h : RR K H0 H P v r) (e : r.d = .obj C ns ds) : ∃ a dx fvs, v = .ref a ∧ H a = some (.ins C dx fvs) ∧ fvs.map (·.1) = ns ∧ Rps H P (fvs.map (·.2)) ds := by
  have q := h.lent (by rw [e]; rfl)
  rw [e] at q
  exact q
theorem isObj_of {C : Addr} {d : D} (h : isObj C d = true) : ∃ ns ds, d = .obj C ns ds := by
  unfold isObj at h
  split at h
  · next C' ns ds => exact ⟨ns, ds, by rw [of_decide_eq_true h]⟩
  · cases h
structure MthAt (X : Cx) (C : Cn) (ca : Addr) (m : Str) (n : Nat) (dd : List D) (run : List R → Res R) : Prop where
  cl : Cls X.K ca
  ex : ∃ (k : Nat) (f : Addr) (fd : FuncData) (ps : List Str) (us : List Value), Meth X.K ca m f ∧ FnOk X.prog X.w X.K X.mg X.base (L2.CX X.prog X.w) k f fd ps (spP C n run) ∧ Room k X.A ∧ Binds X.K fd ps us ∧ Vals (dd.map scV) us ∧ dd.all scOk = true
structure MthAtG (X : Cx) (C : Cn) (ca : Addr) (m : Str) (n : Nat) (ios : List Nat) (dd : List D) (run : List R → Out) : Prop where
  cl : Cls X.K ca
  ex : ∃ (k : Nat) (f : Addr) (fd : FuncData) (ps : List Str) (us : List Value), Meth X.K ca m f ∧ FnOk X.prog X.w X.K X.mg X.base (L2.CX X.prog X.w) k f fd ps (spG C n ios run) ∧ Room k X.A ∧ Binds X.K fd ps us ∧ Vals (dd.map scV) us ∧ dd.all scOk = true
structure MkAt (X : Cx) (C : Cn) (ca : Addr) (x : Str) (n : Nat) (dd : List D) (run : List R → Out) : Prop where
  mg : X.mg x = some (.ref ca)
  ex : ∃ (k : Nat) (f : Addr) (fd : FuncData) (ps : List Str) (us : List Value), Mk X.K ca f ∧ FnOk X.prog X.w X.K X.mg X.base (L2.CX X.prog X.w) k f fd ps (spG C n [0] run) ∧ Room (k + 1) X.A ∧ Binds X.K fd ps us ∧ Vals (dd.map scV) us ∧ dd.all scOk = true
theorem meth_ht {o : Expr} {m : Str} {apos pos : Pos} {es : List Expr} {env : PySem.Env} (hb : plainBase o = true) (hst : es.all noStar = true) (hn : es.length < 29) (hl : (apos.endLine == pos.line) = true) :
    eval (.Call (.Attribute o m apos) es [] pos) env = (do
      let ov ← eval o env
      standAt apos.atName
      let (f, first) ← holding [ov] (getMethod ov m (do return (← importBound o env).getD true))
      callWith pos f first (backTo pos (starEach es env)) (backToKw pos (keywordEach [] env))) := by
  rw [arm_eval_Call, base_ok hb]
  have h1 : (backTo pos (starEach es env)).all (fun x => !x.1) = true := by
    have := starEach_any (pos := pos) (env := env) hst
    rw [List.all_eq_true]
    rw [List.any_eq_false] at this
    exact fun x hx => by simpa using this x hx
  have hform : methodCallForm (es.length + ([] : List Keyword).length) (backTo pos (starEach es env)) (backToKw pos (keywordEach [] env)) = true := by
    unfold methodCallForm
    rw [h1]
    have : (backToKw pos (keywordEach [] env)) = [] := rfl
    rw [this]
    simp
    omega
  have hpos : methodCallPos true o env apos pos = pure pos := by unfold methodCallPos; simp [hl]
  unfold methodCall
  rw [hform]
  simp only [calleeOf, if_true, hpos, pure_bind]
section
variable {X : Cx} {CX : CXT} {k : Nat} {f C : Addr} {fd : FuncData} {ps : List Str} {sp : Sp} {dvs : List V} {ds : List Value} {E : L2.St → XK} {x m : Str} {p pos apos : Pos} {e o : Expr} {es : List Expr} {ta : TE} {t : TA}
def tMethS (C : Addr) (m : Str) (sp : Sp) (dvs : List V) (E : L2.St → XK) (ta : TE) (t : TA) : TE := fun σ H Q => ta σ H fun x H1 => ∃ a dx fs, x = .ref a ∧ H1 a = some (.ins C dx fs) ∧ fs.lookup m = none ∧
  t σ H1 fun vs H2 => sp (x :: (vs ++ dvs)) H2 Q (E σ)
theorem pe_methS {pl : Sem Bool} (he : PE X o ta) (c : Cls X.K C) (hm : Meth X.K C m f) (F : FnOk X.prog X.w X.K X.mg X.base CX k f fd ps sp) (hr : Room k X.A) (hb : Binds X.K fd ps ds) (hd : Vals dvs ds) (hx : ∀ σ, PassesAt CX X σ (E σ)) (ha : PA X (e :: es) t)
    (hst : starEach (e :: es) X.env = (false, eval e X.env) :: starEach es X.env) (hpl : (backTo pos (starEach es X.env)).any (·.1) = false)
    (ht : eval (.Call (.Attribute o m apos) (e :: es) [] pos) X.env = (do
      let ov ← eval o X.env
      standAt apos.atName
      let (f, first) ← holding [ov] (getMethod ov m pl)
      callWith pos f first (backTo pos (starEach (e :: es) X.env)) (backToKw pos (keywordEach [] X.env))) := by rfl) :
    PE X (.Call (.Attribute o m apos) (e :: es) [] pos) (tMethS C m sp dvs E ta t) := by
  refine ⟨fun pins s σ H Q I h => ?_⟩
  refine PySem.W.methodCall_KW (pl := pl) (thn (he.run pins s σ H _ I h) fun u s1 ⟨x, H1, I1, rx, a, dx, fs, ex, ea, l, q⟩ => ?_) ht
  subst ex
  obtain rfl : u = Value.ref a := rx
  refine getmeth_ok I1 ea c hm l ?_
  refine PySem.W.callWith_K (first := [.ref a]) (h₀ := X.base) I.ok.mod.kin hm.kp (thn (ha.run pos pins s1 σ H1 _ I1 q) fun us s2 ⟨vs, H2, I2, r, q2⟩ => ⟨I2.kIn, ?_⟩) hst hpl
  exact run_fnSD (us := .ref a :: us) (vs := .ref a :: vs) F hr hb hd (hx σ) I2 (.cons rfl r) q2
theorem pe_methS0 {pl : Sem Bool} (he : PE X o ta) (c : Cls X.K C) (hm : Meth X.K C m f) (F : FnOk X.prog X.w X.K X.mg X.base CX k f fd ps sp) (hr : Room k X.A) (hb : Binds X.K fd ps ds) (hd : Vals dvs ds) (hx : ∀ σ, PassesAt CX X σ (E σ))
    (ht : eval (.Call (.Attribute o m apos) [] [] pos) X.env = (do
      let ov ← eval o X.env
      standAt apos.atName
      let (f, first) ← holding [ov] (getMethod ov m pl)
      callWith pos f first (backTo pos (starEach [] X.env)) (backToKw pos (keywordEach [] X.env))) := by rfl) :
    PE X (.Call (.Attribute o m apos) [] [] pos) (tMethS C m sp dvs E ta tNil) := by
  refine ⟨fun pins s σ H Q I h => ?_⟩
  refine PySem.W.methodCall_KW (pl := pl) (thn (he.run pins s σ H _ I h) fun u s1 ⟨x, H1, I1, rx, a, dx, fs, ex, ea, l, q⟩ => ?_) ht
  subst ex
  obtain rfl : u = Value.ref a := rx
  refine getmeth_ok I1 ea c hm l ?_
  exact PySem.W.callWith_K0 (first := [.ref a]) I1.kIn hm.kp (run_fnSD (us := [.ref a]) (vs := [.ref a]) F hr hb hd (hx σ) I1 (.cons rfl .nil) q)
def tMakeS (C : Addr) (sp : Sp) (dvs : List V) (E : L2.St → XK) (t : TA) : TE := fun σ H Q => t σ H fun vs H1 => ∀ x dx, H1 x = none → H1 dx = none → dx ≠ x →
  sp (.ref x :: (vs ++ dvs)) (upd (upd H1 dx (.own x)) x (.ins C dx [])) (fun v H2 => v = .non ∧ Q (.ref x) H2) (E σ)
theorem run_makeS {pins : List (Addr × Obj)} {σ : L2.St} {H : Hp} {s : Shared} {Q : VK} {us : List Value} {vs : List V} (M : Mk X.K C f) (F : FnOk X.prog X.w X.K X.mg X.base CX k f fd ps sp) (hr : Room (k + 1) X.A) (hb : Binds X.K fd ps ds) (hd : Vals dvs ds)
    (hx : PassesAt CX X σ (E σ)) (I : Inv X pins σ H s) (r : Vals vs us)
    (h : ∀ x dx, H x = none → H dx = none → dx ≠ x → sp (.ref x :: (vs ++ dvs)) (upd (upd H dx (.own x)) x (.ins C dx [])) (fun v H2 => v = .non ∧ Q (.ref x) H2) (E σ)) :
    wpAny (model X.prog X.w) X.A (call (.ref C) us) (EP X pins σ Q) X.xe s := by
  have hq := h (s.heap.objs.size + 1) s.heap.objs.size (I.hok.fresh (Nat.le_succ _)) (I.hok.fresh (Nat.le_refl _)) (Nat.ne_of_lt (Nat.lt_succ_self _))
  have I2 := Inv.made (C := C) I
  have r2 : Vals (V.ref (s.heap.objs.size + 1) :: (vs ++ dvs)) (Value.ref (s.heap.objs.size + 1) :: (us ++ ds)) := .cons rfl (r.append hd)
  have hl : (Value.ref (s.heap.objs.size + 1) :: us ++ ds).length = ps.length := by
    have e := r2.length
    rw [F.len _ _ _ _ hq] at e
    exact e.symm
  refine wpAny_call (make_map (f := f) I.kIn M.makes M.init (beq_iff_eq.mp M.fn) (codeAny_mono (F.run _ X.stack _ _ ⟨Value.ref (s.heap.objs.size + 1) :: us, []⟩ (Value.ref (s.heap.objs.size + 1) :: (us ++ ds)) _ _ (E σ) (hr.make C us [])
    (I2.env0.make C us []) (hb _ (Value.ref (s.heap.objs.size + 1) :: us) I2.kIn hl) r2 hq) fun r s' hq' => ?_))
  cases r with
  | error e => exact hx pins _ _ e s' I2 hq'
  | ok fl =>
    cases fl with
    | ret u =>
      obtain ⟨v, H', I3, rv, ev, q3⟩ := I2.after hq'
      subst ev
      exact ⟨rv, ⟨V.ref (s.heap.objs.size + 1), H', I3, rfl, q3⟩⟩
    | next => exact False.elim hq'
    | brk => exact False.elim hq'
    | cont => exact False.elim hq'
theorem pe_makeS (M : Mk X.K C f) (F : FnOk X.prog X.w X.K X.mg X.base CX k f fd ps sp) (hr : Room (k + 1) X.A) (hg : Gl X x) (hm : X.mg x = some (.ref C)) (hb : Binds X.K fd ps ds) (hd : Vals dvs ds) (hx : ∀ σ, PassesAt CX X σ (E σ))
    (ha : PA X (e :: es) t) (hdb : (x == ("__debug__" : Str)) = false) (he : starEach (e :: es) X.env = (false, eval e X.env) :: starEach es X.env) (hpl : (backTo pos (starEach es X.env)).any (·.1) = false) :
    PE X (.Call (.Name x p) (e :: es) [] pos) (tMakeS C sp dvs E t) := by
  refine ⟨fun pins s σ H Q I h => ?_⟩
  refine wpAny_Call_Name_kw (ld_glob I hg hm ?_ hdb)
  refine PySem.W.callWith_K (h₀ := X.base) I.ok.mod.kin M.kp (thn (ha.run pos pins s σ H _ I h) fun us s1 ⟨vs, H1, I1, r, q⟩ => ⟨I1.kIn, ?_⟩) he hpl
  exact run_makeS M F hr hb hd (hx σ) I1 r q
theorem pe_makeS0 (M : Mk X.K C f) (F : FnOk X.prog X.w X.K X.mg X.base CX k f fd ps sp) (hr : Room (k + 1) X.A) (hg : Gl X x) (hm : X.mg x = some (.ref C)) (hb : Binds X.K fd ps ds) (hd : Vals dvs ds) (hx : ∀ σ, PassesAt CX X σ (E σ))
    (hdb : (x == ("__debug__" : Str)) = false) : PE X (.Call (.Name x p) [] [] pos) (tMakeS C sp dvs E tNil) := by
  refine ⟨fun pins s σ H Q I h => ?_⟩
  refine wpAny_Call_Name_kw (ld_glob I hg hm ?_ hdb)
  exact PySem.W.callWith_K0 I.kIn M.kp (run_makeS (us := []) M F hr hb hd (hx σ) I .nil h)
end
section
variable {X : Cx} {C : Cn} {W : WX} {io : List Nat} {e o : Expr} {es : List Expr} {m mo : Env → Res R} {ms : List (Env → Res R)} {pos apos px : Pos} {x f : Str} {ca : Addr}
theorem pe_fldM (c : Cls X.K ca) (hK : X.K = C.K) (hn : NoAttr X.K ca f) (he : PE X e (tM C W m)) (hb : attributeBase e f X.env (eval e X.env) = eval e X.env) : PE X (.Attribute e f pos) (tM C W (eFld ca f m)) :=
  PE.weak (pe_fld he hb) fun σ H Q ⟨ρ, c', S, sr, q⟩ => ⟨ρ, c', S, sr, (RW.bind q).imp fun v H1 ⟨r, x1, r1, q1⟩ => by
    unfold opFld at q1
    split at q1
    · next C' ns ds e1 =>
      split at q1
      · next ec =>
        subst ec
        split at q1
        · next d e2 =>
          obtain ⟨a, dx, fvs, rfl, h2, rfl, h4⟩ := r1.obj e1
          have hr := fld_rel f h4
          rw [e2] at hr
          cases e3 : fvs.lookup f with
          | none => rw [e3] at hr; exact hr.elim
          | some w => rw [e3] at hr; exact ⟨a, _, dx, fvs, w, rfl, h2, c, hn, e3, rw_val q1 hr⟩
        · exact q1.elim
      · exact q1.elim
    · exact q1.elim⟩
theorem pe_isCM {p p' : Pos} (c : C8.InsC X.K ca) (hg : Gl X "isinstance") (hm : X.mg "isinstance" = none) (hgC : Gl X x) (hmC : X.mg x = some (.ref ca)) (hdb : (x == ("__debug__" : Str)) = false) (he : PE X e (tM C W m)) (hst : noStar e = true) :
    PE X (.Call (.Name "isinstance" p) [e, .Name x p'] [] pos) (tM C W (eIsC ca m)) := by
  refine PE.weak (pe_callB (C8.call_isC c) hg hm (by decide +kernel) (pa_cons he (pa_cons (pe_glob (v := .ref ca) hgC hmC rfl hdb) pa_nil (starEach_cons rfl)) (starEach_cons hst)) (by decide) (by decide) (starEach_cons hst) (starEach_any rfl)) fun σ H Q ⟨ρ, c', S, sr, q⟩ => ?_
  refine ⟨ρ, c', S, sr, (RW.bind q).imp fun v H1 ⟨r, x1, r1, q1⟩ => ?_⟩
  split at q1
  · next ho =>
    obtain ⟨ns, ds, ed⟩ := isObj_of ho
    obtain ⟨a, dx, fvs, rfl, h2, _, _⟩ := r1.obj ed
    exact ⟨a, dx, fvs, rfl, h2, rw_bl q1⟩
  · exact q1.elim
theorem fld_no {f : Str} : ∀ {fvs : List (Str × V)}, f ∉ fvs.map (·.1) → fvs.lookup f = none
  | [], _ => rfl
  | (g, x) :: fvs, h => by
    simp only [List.map_cons, List.mem_cons, not_or] at h
    rw [List.lookup_cons, (beq_eq_false_iff_ne.mpr h.1 : (f == g) = false)]
    exact fld_no h.2
end
def rcv (C : Addr) (m : Str) (d : D) : Bool := match d with
  | .obj C' ns _ => decide (C' = C) && !ns.contains m
  | _ => false
theorem rcv_ok {K : PySem.W.Frag} {H0 H : Hp} {P : Addr → Prop} {v : V} {r : R} {C : Addr} {m : Str} (h : RR K H0 H P v r) (e : rcv C m r.d = true) : ∃ a dx fvs, v = .ref a ∧ H a = some (.ins C dx fvs) ∧ fvs.lookup m = none := by
  unfold rcv at e
  split at e
  · next C' ns ds e1 =>
    rw [Bool.and_eq_true, decide_eq_true_eq, Bool.not_eq_true'] at e
    obtain ⟨rfl, e2⟩ := e
    obtain ⟨a, dx, fvs, h1, h2, rfl, _⟩ := h.obj e1
    refine ⟨a, dx, fvs, h1, h2, fld_no fun z => ?_⟩
    rw [List.contains_iff_mem.mpr z] at e2
    cases e2
  · cases e
def eMeth (C : Addr) (m : Str) (run : List R → Res R) (mo : Env → Res R) (ms : List (Env → Res R)) (ρ : Env) : Res R := (mo ρ).bind fun x => if rcv C m x.d then (eArgs ms ρ).bind fun rs => run (x.arg :: rs.map R.arg) else .stuck
section
variable {X : Cx} {C : Cn} {W : WX} {io : List Nat} {e o : Expr} {es : List Expr} {mo : Env → Res R} {ms : List (Env → Res R)} {pos apos px p : Pos} {x m f : Str} {ca : Addr} {n : Nat} {dd : List D} {run : List R → Res R}
theorem args_AR {K : PySem.W.Frag} {H0 H : Hp} {P : Addr → Prop} {vs : List V} {rs : List R} (h : Paired (RR K H0 H P) vs rs) (hsc : dd.all scOk = true) : Paired (AR K H P) (vs ++ dd.map scV) (rs.map R.arg ++ dd.map .val) := by
  have a2 := Pd.toAR (rr_scVs (K := K) (H0 := H0) (H := H) (P := P) hsc)
  rw [List.map_map] at a2
  exact Paired.app (Pd.toAR h) a2
theorem RW.wE {P : Addr → Prop} {σ : L2.St} {H : Hp} {res : Res R} {Q : VK} (h : RW C W P σ H res Q) : RW C (fun cls d _ H' => WE W σ cls d H') P [] H res Q := by
  cases res with
  | stuck => exact h
  | ok r => exact h
  | exc k pl => exact h
theorem pe_methM (hK : X.K = C.K) (tk : Takes X W) (M : MthAt X C ca m n dd run) (ho : PE X o (tM C W mo)) (ha : PA X (e :: es) (tMs C W (eArgs ms))) (hst : (e :: es).all noStar = true) (hn : ms.length + dd.length + 1 = n)
    (hbs : plainBase o = true) (h29 : (e :: es).length < 29) (hl : (apos.endLine == pos.line) = true) :
    PE X (.Call (.Attribute o m apos) (e :: es) [] pos) (tM C W (eMeth ca m (fun rs => run (rs ++ dd.map .val)) mo ms)) := by
  have h1 := hst
  rw [List.all_cons, Bool.and_eq_true] at h1
  obtain ⟨cl, k, f, fd, ps, us, hm, F, hr, hb, hv, hsc⟩ := M
  refine PE.weak (pe_methS ho cl hm F hr hb hv (passAt tk) ha (starEach_cons h1.1) (starEach_any h1.2) (meth_ht hbs hst h29 hl)) fun σ H Q ⟨ρ, c, S, sr, q⟩ => ⟨ρ, c, S, sr, (RW.bind q).imp fun v H1 ⟨x, x1, r1, q1⟩ => ?_⟩
  split at q1
  · next hr' =>
    obtain ⟨a, dx, fvs, rfl, h2, h3⟩ := rcv_ok r1 hr'
    refine ⟨a, dx, fvs, rfl, h2, h3, ρ, c, S, sr.ex x1, (RWs.bindE q1).imp fun vs H2 ⟨rs, er, x2, r2, q2⟩ => ?_⟩
    refine ⟨by rw [List.length_cons, List.length_append, List.length_map, Paired.length r2, eArgs_len er]; omega, x.arg :: (rs.map R.arg ++ dd.map .val), Mp.Own c S, ((sr.ex x1).ex x2).trk, .cons (r1.mono (Ex.refl _) x2).toAR (args_AR r2 hsc), by dsimp only at q2; exact RW.wE q2⟩
  · exact q1.elim
theorem pe_methM0 (hK : X.K = C.K) (tk : Takes X W) (M : MthAt X C ca m n dd run) (ho : PE X o (tM C W mo)) (hn : dd.length + 1 = n)
    (hbs : plainBase o = true) (hl : (apos.endLine == pos.line) = true) :
    PE X (.Call (.Attribute o m apos) [] [] pos) (tM C W (eMeth ca m (fun rs => run (rs ++ dd.map .val)) mo [])) := by
  obtain ⟨cl, k, f, fd, ps, us, hm, F, hr, hb, hv, hsc⟩ := M
  refine PE.weak (pe_methS0 ho cl hm F hr hb hv (passAt tk) (meth_ht hbs rfl (by decide) hl)) fun σ H Q ⟨ρ, c, S, sr, q⟩ => ⟨ρ, c, S, sr, (RW.bind q).imp fun v H1 ⟨x, x1, r1, q1⟩ => ?_⟩
  split at q1
  · next hr' =>
    obtain ⟨a, dx, fvs, rfl, h2, h3⟩ := rcv_ok r1 hr'
    refine ⟨a, dx, fvs, rfl, h2, h3, ?_⟩
    refine ⟨by rw [List.length_cons, List.length_append, List.length_map, List.length_nil]; omega, x.arg :: ([].map R.arg ++ dd.map .val), Mp.Own c S, (sr.ex x1).trk, .cons r1.toAR (args_AR (H0 := H1) .nil hsc), by exact RW.wE q1⟩
  · exact q1.elim
end
def asX (x : Addr) : Nat → Addr := fun _ => x
section
variable {X : Cx} {C : Cn} {W : WX} {io : List Nat} {e o : Expr} {es : List Expr} {mo : Env → Res R} {ms : List (Env → Res R)} {pos apos px p : Pos} {x m f : Str} {ca : Addr} {n : Nat} {dd : List D} {run : List R → Out}
theorem Lent.away {K : PySem.W.Frag} {H : Hp} {B P : Addr → Prop} {v : V} {d : D} (h : Lent K H P v d) (n : ∀ a o, H a = some o → ¬ B a) : LentB K H B P v d := by
  have rd : ∀ {a u}, Rd H a u → ¬ B a := fun {a u} z => let ⟨o, q⟩ := rd_some z; n a o q
  cases d with
  | lst ds => obtain ⟨a, vs, h1, h2, r⟩ := h; exact ⟨a, vs, h1, h2.elim (fun z => .inl ⟨rd z, z⟩) (fun z => .inr fun _ => .inr z), r⟩
  | tup ds => obtain ⟨a, vs, h1, h2, r⟩ := h; exact ⟨a, vs, h1, h2.elim (fun z => .inl ⟨rd z, z⟩) (fun z => .inr fun _ => .inr z), r⟩
  | dct tk ks ds =>
    cases tk with
    | false => obtain ⟨a, vs, h1, h2, h3, h4, r⟩ := h; exact ⟨a, vs, h1, rd h2, h2, h3, h4, r⟩
    | true => obtain ⟨a, vs, h1, h2, h3, h4, r⟩ := h; exact ⟨a, vs, h1, rd h2, h2, h3, h4, r⟩
  | obj C ns ds => obtain ⟨a, dx, fvs, h1, h2, h3, r⟩ := h; exact ⟨a, dx, fvs, h1, n _ _ h2, h2, h3, r⟩
  | _ => exact False.elim h
theorem LentB.ex2 {K : PySem.W.Frag} {H H' : Hp} {B P P' : Addr → Prop} (e : Ex H H') (n : ∀ a o, ¬ P a → H a = some o → ¬ P' a) (nB : ∀ a o, H a = some o → ¬ B a) {v : V} {d : D} (h : Lent K H P v d) : LentB K H' B P' v d :=
  (h.away nB).move (fun a o _ q => e a o q) (fun a o n _ => n) (fun a o _ q => e a o q) n
theorem mk_ok {σ : L2.St} {H H1 : Hp} {c : Nat → List Addr} {ρ : Mp.Env} {S : Addr → Prop} {vs : List V} {rs : List R} {Q : VK} (sr : SR C.K σ H ρ c S) (x1 : Ex H H1) (r1 : Paired (RR C.K H H1 (Mp.Own c S)) vs rs) (hsc : dd.all scOk = true) (hn : rs.length + dd.length + 1 = n)
    (q : RW C W (Mp.Own c S) σ H1 (mkK ((run (.own (.obj ca [] []) :: (rs.map R.arg ++ dd.map .val))).cr [0])) Q) : ∀ y dx, H1 y = none → H1 dx = none → dx ≠ y →
      spG C n [0] run (.ref y :: (vs ++ dd.map scV)) (upd (upd H1 dx (.own y)) y (.ins ca dx [])) (fun v H2 => v = .non ∧ Q (.ref y) H2) (WE W σ) := by
  intro y dx ny ndx nxy
  have H2n : upd (upd H1 dx (.own y)) y (.ins ca dx []) y = some (.ins ca dx []) := upd_same
  have x2 : Ex H1 (upd (upd H1 dx (.own y)) y (.ins ca dx [])) := fun a o h => by
    rw [upd_ne (ne_of_none h ny), upd_ne (ne_of_none h ndx)]; exact h
  have srx := sr.ex x1
  have nP : ¬ Mp.Own c S y := fun z => by obtain ⟨o, h⟩ := srx.trk y z; rw [ny] at h; cases h
  have nP2 : ∀ a o, ¬ Mp.Own c S a → H1 a = some o → ¬ PIo (Mp.Own c S) [0] (asX y) a := fun a o n h z => by
    rcases z with z | ⟨p, _, e⟩
    · exact n z
    · rw [e, show asX y p = y from rfl, ny] at h; cases h
  have nB : ∀ a o, H1 a = some o → ¬ IoC [0] (asX y) a := fun a o h ⟨p, _, e⟩ => by rw [e, show asX y p = y from rfl, ny] at h; cases h
  have ar := args_AR r1 hsc
  refine ⟨by rw [List.length_cons, List.length_append, List.length_map, Paired.length r1]; exact hn, .own (.obj ca [] []) :: (rs.map R.arg ++ dd.map .val), Mp.Own c S, asX y, ⟨by rw [List.length_cons, List.length_append, List.length_map, List.length_map]; exact hn, fun a z => ?_, fun p hp => ?_, fun p q hp hq _ => ?_, fun i r hi hr => ?_⟩, ?_⟩
  · obtain ⟨o, h⟩ := srx.trk a z; exact ⟨o, x2 a o h⟩
  · have : p = 0 := by simpa using hp
    subst this
    exact ⟨nP, rfl, _, rfl, dx, [], H2n, rfl, by simp [Rps]⟩
  · have h1 : p = 0 := by simpa using hp
    have h2 : q = 0 := by simpa using hq
    rw [h1, h2]
  · cases i with
    | zero => exact absurd (by simp) hi
    | succ i =>
      obtain ⟨v, h1, h2⟩ := paired_getL ar (by simpa using hr)
      refine ⟨v, by simpa using h1, ?_⟩
      cases r with
      | val d => exact Rp.move (fun a o _ h => x2 a o h) nP2 h2
      | bor d => exact LentB.ex2 x2 nP2 nB h2
      | own d => exact h2.elim
  · cases e2 : run (.own (.obj ca [] []) :: (rs.map R.arg ++ dd.map .val)) with
    | stuck => rw [e2] at q; exact q.elim
    | bk ρ' => rw [e2] at q; exact q.elim
    | ct ρ' => rw [e2] at q; exact q.elim
    | ex k pl ρ' =>
      rw [e2] at q
      simp only [Out.cr] at q
      cases ep : pick ρ' [0] with
      | none => rw [ep] at q; exact q.elim
      | some ds =>
        rw [ep] at q
        refine ⟨(pick_get ep).1, fun H3 d bk xp => ?_⟩
        have x3 : Ex H1 H3 := fun a o h => bk.fr a o (nB a o h) (x2 a o h)
        exact q H3 d x3 (xp.imp id fun ⟨dd, fs, e1, e0, e2, e3, r⟩ => ⟨dd, fs, e1, fun z => e0 (.inl z), e2, e3, r.less fun _ z => .inl z⟩)
    | nx ρ' =>
      rw [e2] at q
      simp only [Out.cr] at q
      cases ep : pick ρ' [0] with
      | none => rw [ep] at q; exact q.elim
      | some ds =>
        rw [ep] at q
        obtain ⟨o1, o2, o3⟩ := pick_get ep
        obtain ⟨d, hd, hρ⟩ := o3 0 0 rfl
        have eds : ds = [d] := by
          rcases ds with _ | ⟨a, _ | ⟨b, l⟩⟩
          · simp at o2
          · simp at hd; rw [hd]
          · simp at o2
        subst eds
        refine ⟨o1, fun H3 bk => ⟨rfl, ?_⟩⟩
        have x3 : Ex H1 H3 := fun a o h => bk.fr a o (nB a o h) (x2 a o h)
        refine q (.ref y) H3 x3 ⟨y, rfl, ny, nP, ?_⟩
        refine (bk.cl 0 (by simp) d hρ).less fun b z => ?_
        rcases z with z | z
        · exact .inl z
        · exact .inr ⟨0, by simp, z⟩
    | rt r ρ' =>
      rw [e2] at q
      simp only [Out.cr] at q
      cases ep : pick ρ' [0] with
      | none => rw [ep] at q; exact q.elim
      | some ds =>
        rw [ep] at q
        obtain ⟨o1, o2, o3⟩ := pick_get ep
        obtain ⟨d, hd, hρ⟩ := o3 0 0 rfl
        have eds : ds = [d] := by
          rcases ds with _ | ⟨a, _ | ⟨b, l⟩⟩
          · simp at o2
          · simp at hd; rw [hd]
          · simp at o2
        subst eds
        cases r with
        | own d' => exact q.elim
        | bor d' => exact q.elim
        | val d' =>
          cases d' <;> first | exact q.elim | skip
          refine ⟨o1, fun v H3 bk rv => ⟨by simpa [RR, Rp] using rv, ?_⟩⟩
          have x3 : Ex H1 H3 := fun a o h => bk.fr a o (nB a o h) (x2 a o h)
          refine q (.ref y) H3 x3 ⟨y, rfl, ny, nP, ?_⟩
          refine (bk.cl 0 (by simp) d hρ).less fun b z => ?_
          rcases z with z | z
          · exact .inl z
          · exact .inr ⟨0, by simp, z⟩
theorem pe_mkM (tk : Takes X W) (M : MkAt X C ca x n dd run) (hg : Gl X x) (hdb : (x == ("__debug__" : Str)) = false) (ha : PA X (e :: es) (tMs C W (eArgs ms))) (hst : (e :: es).all noStar = true) (hn : ms.length + dd.length + 1 = n) :
    PE X (.Call (.Name x p) (e :: es) [] pos) (tM C W (eMk ca (fun rs => (run (rs ++ dd.map .val)).cr [0]) ms)) := by
  have h1 := hst
  rw [List.all_cons, Bool.and_eq_true] at h1
  obtain ⟨mg, k, f, fd, ps, us, hm, F, hr, hb, hv, hsc⟩ := M
  exact PE.weak (pe_makeS hm F hr hg mg hb hv (passAt tk) ha hdb (starEach_cons h1.1) (starEach_any h1.2)) fun σ H Q ⟨ρ, c, S, sr, q⟩ => ⟨ρ, c, S, sr, (RWs.bindE q).imp fun vs H1 ⟨rs, er, x1, r1, q1⟩ =>
    mk_ok sr x1 r1 hsc (by rw [eArgs_len er]; exact hn) q1⟩
theorem pe_mkM0 (tk : Takes X W) (M : MkAt X C ca x n dd run) (hg : Gl X x) (hdb : (x == ("__debug__" : Str)) = false) (hn : dd.length + 1 = n) : PE X (.Call (.Name x p) [] [] pos) (tM C W (eMk ca (fun rs => (run (rs ++ dd.map .val)).cr [0]) [])) := by
  obtain ⟨mg, k, f, fd, ps, us, hm, F, hr, hb, hv, hsc⟩ := M
  exact PE.weak (pe_makeS0 hm F hr hg mg hb hv (passAt tk) hdb) fun σ H Q ⟨ρ, c, S, sr, q⟩ =>
    mk_ok (vs := []) (rs := []) sr (Ex.refl _) .nil hsc (by simpa using hn) q
theorem ps_setfM {i : Nat} {y : Str} {value : Expr} {m : Env → Res R} {pos' : Pos} (c : Cls X.K ca) (hna : NoAttr X.K ca f) (hN : X.N[i]? = some y) (hv : Vis X.env.scope y) (hd : (y == ("__debug__" : Str)) = false) (hcd : (y == ("__classdict__" : Str)) = false) (hval : PE X value (tM C W m)) (hc : noComp value = true) :
    PS X (.Assign [.Attribute (.Name y px) f pos'] value pos) (tS C W io (sSetf ca i f m)) :=
  PS.weak (ps_fld (pe_var hN hv hd hcd) hval (swaps_no hc)) fun E σ H ⟨ρ, c', S, sr, h⟩ => by
    refine ⟨ρ, c', S, sr, (SW.rw sr h).imp fun v H1 ⟨r, x1, r1, q⟩ => ?_⟩
    unfold onO at q
    split at q
    · next d e0 =>
      dsimp only at q
      split at q
      · next C' ns ds =>
        split at q
        · next ec =>
          subst ec
          split at q
          · next dv ed =>
            split at q
            · next hz =>
              have srx := sr.ex x1
              obtain ⟨a, a1, a2, dx, fvs, hH, hns, hr⟩ := srx.own1 e0
              have hz' : fvs.length < 1000 := by have := hr.length; rw [List.length_map] at this; omega
              have ca : Mp.Own c' S a := .inl ⟨i, by rw [a2]; simp⟩
              refine ⟨.ref a, a1, a, C', dx, fvs, rfl, hH, c, hna, hz', ?_⟩
              obtain ⟨s1, s2⟩ := srx.upd (io := io) (a := a) (o := .ins C' dx (putF f v fvs)) (d' := .obj C' (fldPutN f ns) (fldPutV f dv ns ds)) e0 a1
                ⟨dx, putF f v fvs, upd_same, by rw [put_names, hns], by rw [← hns]; exact (put_vals f (r1.froz ed) hr).upd ca⟩
              exact q.nx s1 s2
            · exact q.elim
          · exact q.elim
        · exact q.elim
      · exact q.elim
    · exact q.elim
end
def sMthG (C : Addr) (m : Str) (j : Nat) (run : List R → CR) (ret : Rt) (es : List (Env → Res R)) (dd : List D) (ms : List Ar) (ρ : Env) : Out := onO j ρ fun d => if rcv C m d then sCallG run ret (eVar j :: es) dd (.io j :: ms) ρ else .stuck
section
variable {X : Cx} {C : Cn} {W : WX} {io : List Nat} {e : Expr} {es : List Expr} {mes : List (Env → Res R)} {pos cpos apos px : Pos} {x y m : Str} {run : List R → Out} {n j : Nat} {ms : List Ar} {dd : List D} {ca : Addr}
theorem sMthG_read {E : Ends} {σ : L2.St} {H : Hp} {ret : Rt} {Q : VK} (hlen : mes.length + dd.length + 1 = n) (hml : ms.length + 1 = n) (hsc : dd.all scOk = true) (nd : (jsOf (.io j :: ms)).Nodup) (hle : ∀ i, i ∈ lesOf (.io j :: ms) → i ∉ jsOf (.io j :: ms)) (hdv : ∀ p, mes.length ≤ p → p + 1 < n → ms[p]? = some .v)
    (hio : ∀ i, ret = .to i → i ∉ io) (hQ : ∀ v H2, (∀ i, ret = .to i → E.nx (σ.set i (some v)) H2) → (ret = .no → E.nx σ H2) → (ret = .back → E.rt v H2) → Q v H2)
    (h : tS C W io (sMthG ca m j (fun rs => (run rs).cr (iosOf (.io j :: ms))) ret mes dd ms) E σ H) : tMethS ca m (spG C n (iosOf (.io j :: ms)) run) (dd.map scV) (WE W) (tVar j) (tMsG C W ms (eArgs mes)) σ H Q := by
  obtain ⟨ρ, c, S, sr, h⟩ := h
  unfold sMthG onO at h
  split at h
  · next d e0 =>
    dsimp only at h
    split at h
    · next hr =>
      obtain ⟨a, a1, a2, hc⟩ := sr.own1 e0
      have rv : RR C.K H H (Mp.Own c S) (.ref a) (.bor d) := hc.lent
      obtain ⟨a', dx, fvs, ea, hH, hl⟩ := rcv_ok rv hr
      cases ea
      refine ⟨.ref a, a1, a, dx, fvs, rfl, hH, hl, ρ, c, S, sr, ?_⟩
      unfold sCallG at h
      have ev : eVar j ρ = .ok (.bor d) := by unfold eVar; rw [e0]
      simp only [eArgs, ev] at h
      cases e1 : eArgs mes ρ with
      | stuck => rw [e1] at h; exact h.elim
      | exc k pl => rw [e1] at h; exact fun H1 d x q => h σ H1 c d (sr.ex x) (Stp.ex x) q
      | ok rs =>
        rw [e1] at h
        intro vs H1 x1 r1 hv
        have hl1 : vs.length = mes.length := by rw [Paired.length r1, eArgs_len e1]
        have r2 : Paired (RR C.K H H1 (Mp.Own c S)) (.ref a :: (vs ++ dd.map scV)) ((.bor d :: rs) ++ dd.map R.val) := .cons (rv.mono (Ex.refl _) x1) (Paired.app r1 (rr_scVs hsc))
        refine callG_ok sr x1 r2 (by rw [List.length_append, List.length_map, List.length_cons, eArgs_len e1]; omega) nd hle (fun p i v hm hσ => ?_) hio hQ h
        cases p with
        | zero =>
          have : i = j := by
            simp only [List.getElem?_cons_zero, Option.some.injEq] at hm
            rcases hm with hm | hm <;> cases hm
            rfl
          subst this
          rw [a1] at hσ
          cases hσ
          rfl
        | succ p =>
          have hm' : ms[p]? = some (.io i) ∨ ms[p]? = some (.le i) := by simpa using hm
          rw [List.getElem?_cons_succ]
          by_cases hp : p < vs.length
          · rw [List.getElem?_append_left hp]
            exact hv p i v hm' hσ
          · have : ms[p]? = some .v := by
              by_cases hpn : p + 1 < n
              · exact hdv p (by omega) hpn
              · rcases hm' with hm' | hm' <;> (have := (List.getElem?_eq_some_iff.mp hm').1; omega)
            rcases hm' with hm' | hm' <;> (rw [this] at hm'; cases hm')
    · exact h.elim
  · exact h.elim
theorem ps_mthGM (tk : Takes X W) (M : MthAtG X C ca m n (iosOf (.io j :: ms)) dd run) (hN : X.N[j]? = some x) (hv : Vis X.env.scope x) (hd : (x == ("__debug__" : Str)) = false) (hcd : (x == ("__classdict__" : Str)) = false) (ha : PA X (e :: es) (tMsG C W ms (eArgs mes))) (hst : (e :: es).all noStar = true) (h29 : (e :: es).length < 29) (hl : (apos.endLine == cpos.line) = true)
    (hlen : mes.length + dd.length + 1 = n) (hml : ms.length + 1 = n) (nd : (jsOf (.io j :: ms)).Nodup) (hle : ∀ i, i ∈ lesOf (.io j :: ms) → i ∉ jsOf (.io j :: ms)) (hdv : ∀ p, mes.length ≤ p → p + 1 < n → ms[p]? = some .v) :
    PS X (.Expr (.Call (.Attribute (.Name x px) m apos) (e :: es) [] cpos) pos) (tS C W io (sMthG ca m j (fun rs => (run rs).cr (iosOf (.io j :: ms))) .no mes dd ms)) := by
  have h1 := hst
  rw [List.all_cons, Bool.and_eq_true] at h1
  obtain ⟨cl, k, f, fd, ps, us, hm, F, hr, hb, hv', hsc⟩ := M
  exact PS.weak (ps_expr (pe_methS (pe_var hN hv hd hcd) cl hm F hr hb hv' (passAt tk) ha (starEach_cons h1.1) (starEach_any h1.2) (meth_ht rfl hst h29 hl)) rfl) fun E σ H h => sMthG_read (ret := .no) hlen hml hsc nd hle hdv (fun i z => by cases z) (fun v H2 _ z _ => z rfl) h
theorem ps_setMthGM {i : Nat} {py : Pos} (hN2 : X.N.Nodup) (hi : X.N[i]? = some y) (hx : L2.Loc X.env.scope y) (hf : X.fn y = true ∨ X.env.scope.names.lookup y = some .local) (hio : i ∉ io) (tk : Takes X W) (M : MthAtG X C ca m n (iosOf (.io j :: ms)) dd run) (hN : X.N[j]? = some x) (hv : Vis X.env.scope x) (hd : (x == ("__debug__" : Str)) = false)
    (hcd : (x == ("__classdict__" : Str)) = false) (ha : PA X (e :: es) (tMsG C W ms (eArgs mes))) (hst : (e :: es).all noStar = true) (h29 : (e :: es).length < 29) (hl : (apos.endLine == cpos.line) = true)
    (hlen : mes.length + dd.length + 1 = n) (hml : ms.length + 1 = n) (nd : (jsOf (.io j :: ms)).Nodup) (hle : ∀ i, i ∈ lesOf (.io j :: ms) → i ∉ jsOf (.io j :: ms)) (hdv : ∀ p, mes.length ≤ p → p + 1 < n → ms[p]? = some .v) :
    PS X (.Assign [.Name y py] (.Call (.Attribute (.Name x px) m apos) (e :: es) [] cpos) pos) (tS C W io (sMthG ca m j (fun rs => (run rs).cr (iosOf (.io j :: ms))) (.to i) mes dd ms)) := by
  have h1 := hst
  rw [List.all_cons, Bool.and_eq_true] at h1
  obtain ⟨cl, k, f, fd, ps, us, hm, F, hr, hb, hv', hsc⟩ := M
  exact PS.weak (ps_set hN2 hi hx (pe_methS (pe_var hN hv hd hcd) cl hm F hr hb hv' (passAt tk) ha (starEach_cons h1.1) (starEach_any h1.2) (meth_ht rfl hst h29 hl)) rfl hf) fun E σ H h => sMthG_read (ret := .to i) hlen hml hsc nd hle hdv (fun i' z => by cases z; exact hio) (fun v H2 z _ _ => z i rfl) h
theorem ps_retMthGM (tk : Takes X W) (M : MthAtG X C ca m n (iosOf (.io j :: ms)) dd run) (hN : X.N[j]? = some x) (hv : Vis X.env.scope x) (hd : (x == ("__debug__" : Str)) = false) (hcd : (x == ("__classdict__" : Str)) = false) (ha : PA X (e :: es) (tMsG C W ms (eArgs mes))) (hst : (e :: es).all noStar = true) (h29 : (e :: es).length < 29) (hl : (apos.endLine == cpos.line) = true)
    (hlen : mes.length + dd.length + 1 = n) (hml : ms.length + 1 = n) (nd : (jsOf (.io j :: ms)).Nodup) (hle : ∀ i, i ∈ lesOf (.io j :: ms) → i ∉ jsOf (.io j :: ms)) (hdv : ∀ p, mes.length ≤ p → p + 1 < n → ms[p]? = some .v) :
    PS X (.Return (some (.Call (.Attribute (.Name x px) m apos) (e :: es) [] cpos)) pos) (tS C W io (sMthG ca m j (fun rs => (run rs).cr (iosOf (.io j :: ms))) .back mes dd ms)) := by
  have h1 := hst
  rw [List.all_cons, Bool.and_eq_true] at h1
  obtain ⟨cl, k, f, fd, ps, us, hm, F, hr, hb, hv', hsc⟩ := M
  exact PS.weak (ps_ret (pe_methS (pe_var hN hv hd hcd) cl hm F hr hb hv' (passAt tk) ha (starEach_cons h1.1) (starEach_any h1.2) (meth_ht rfl hst h29 hl))) fun E σ H h => sMthG_read (ret := .back) hlen hml hsc nd hle hdv (fun i z => by cases z) (fun v H2 _ _ z => z rfl) h
end
end Mp

namespace Mp
open PySem L2

def Tw (H H' : Hp) : Prop := ∀ a o, H a = some o → H' a = some o ∨ ∃ kvs, (o = .dK kvs ∨ ∃ ob, o = .frz ob (.dK kvs)) ∧ Rd H' a (.dK kvs)
def noFz : HO → Bool
  | .frz _ _ => false
  | .dK _ => false
  | _ => true
theorem Tw.eq {H H' : Hp} (t : Tw H H') {a : Addr} {o : HO} (h : H a = some o) (n : noFz o = true) : H' a = some o := by
  rcases t a _ h with q | ⟨kvs, e | ⟨ob', e⟩, q⟩
  · exact q
  · subst e; cases n
  · subst e; cases n
theorem Tw.rd {H H' : Hp} (t : Tw H H') {a : Addr} {u : HO} (n : noFz u = true) (h : Rd H a u) : Rd H' a u := by
  rcases h with h | ⟨ob, h⟩
  · exact .inl (t.eq h n)
  · rcases t a _ h with q | ⟨kvs, e | ⟨ob', e⟩, q⟩
    · exact .inr ⟨ob, q⟩
    · cases e
    · cases e; cases n
theorem Tw.dK {H H' : Hp} (t : Tw H H') {a : Addr} {kvs : List (Key × V)} (h : Rd H a (.dK kvs)) : Rd H' a (.dK kvs) := by
  rcases h with h | ⟨ob, h⟩
  · rcases t a _ h with q | ⟨kvs', e | ⟨ob', e⟩, q⟩
    · exact .inl q
    · cases e; exact q
    · cases e
  · rcases t a _ h with q | ⟨kvs', e | ⟨ob', e⟩, q⟩
    · exact .inr ⟨ob, q⟩
    · cases e
    · cases e; exact q
mutual
theorem Rp.tw {H H' : Hp} {P : Addr → Prop} (t : Tw H H') : ∀ {d : D} {v : V}, Rp H P v d → Rp H' P v d
  | .non, _, h => by simpa [Rp] using h
  | .bl _, _, h => by simpa [Rp] using h
  | .int _, _, h => by simpa [Rp] using h
  | .str _, _, h => by simpa [Rp] using h
  | .tup ds, v, h => by
    simp only [Rp] at h ⊢
    obtain ⟨a, vs, e, p, q, r⟩ := h
    exact ⟨a, vs, e, p, t.eq q rfl, Rps.tw t r⟩
  | .lst ds, v, h => by
    simp only [Rp] at h ⊢
    obtain ⟨a, vs, e, p, q, r⟩ := h
    exact ⟨a, vs, e, p, t.eq q rfl, Rps.tw t r⟩
  | .dct false ks ds, v, h => by
    simp only [Rp] at h ⊢
    obtain ⟨a, vs, e, p, q, r1, r2, r⟩ := h
    exact ⟨a, vs, e, p, t.dK q, r1, r2, Rps.tw t r⟩
  | .dct true ks ds, v, h => by
    simp only [Rp] at h ⊢
    obtain ⟨a, vs, e, p, q, r1, r2, r⟩ := h
    exact ⟨a, vs, e, p, t.rd rfl q, r1, r2, Rps.tw t r⟩
  | .obj C ns ds, v, h => by
    simp only [Rp] at h ⊢
    obtain ⟨a, dx, fvs, e, p, q, r1, r⟩ := h
    exact ⟨a, dx, fvs, e, p, t.eq q rfl, r1, Rps.tw t r⟩
  | .exo _ C ns ds, v, h => by
    simp only [Rp] at h ⊢
    obtain ⟨a, od, e, p, q, r⟩ := h
    exact ⟨a, od, e, p, t.eq q rfl, r.imp id fun ⟨dd, fs, e1, p1, q1, r1, r⟩ => ⟨dd, fs, e1, p1, t.eq q1 rfl, r1, Rps.tw t r⟩⟩
theorem Rps.tw {H H' : Hp} {P : Addr → Prop} (t : Tw H H') : ∀ {ds : List D} {vs : List V}, Rps H P vs ds → Rps H' P vs ds
  | [], [], h => by simp [Rps]
  | [], _ :: _, h => by simp [Rps] at h
  | _ :: _, [], h => by simp [Rps] at h
  | d :: ds, v :: vs, h => by
    simp only [Rps] at h ⊢
    exact ⟨Rp.tw t h.1, Rps.tw t h.2⟩
end
theorem Lent.tw {K : PySem.W.Frag} {H H' : Hp} {P : Addr → Prop} (t : Tw H H') {v : V} {d : D} (h : Lent K H P v d) : Lent K H' P v d := by
  cases d with
  | lst ds => obtain ⟨a, vs, h1, h2, r⟩ := h; exact ⟨a, vs, h1, h2.imp (t.rd rfl) id, r.tw t⟩
  | tup ds => obtain ⟨a, vs, h1, h2, r⟩ := h; exact ⟨a, vs, h1, h2.imp (t.rd rfl) id, r.tw t⟩
  | dct tk ks ds =>
    cases tk with
    | false => obtain ⟨a, vs, h1, h2, h3, h4, r⟩ := h; exact ⟨a, vs, h1, t.dK h2, h3, h4, r.tw t⟩
    | true => obtain ⟨a, vs, h1, h2, h3, h4, r⟩ := h; exact ⟨a, vs, h1, t.rd rfl h2, h3, h4, r.tw t⟩
  | obj C ns ds => obtain ⟨a, dx, fvs, h1, h2, h3, r⟩ := h; exact ⟨a, dx, fvs, h1, t.eq h2 rfl, h3, r.tw t⟩
  | _ => exact False.elim h
theorem LentB.tw {K : PySem.W.Frag} {H H' : Hp} {B P : Addr → Prop} (t : Tw H H') {v : V} {d : D} (h : LentB K H B P v d) : LentB K H' B P v d := by
  have sq : ∀ {a xs}, SqL K H a xs → SqL K H' a xs := fun h => h.imp (t.rd rfl) id
  cases d with
  | lst ds => obtain ⟨a, vs, h1, h2, r⟩ := h; exact ⟨a, vs, h1, h2.imp (fun z => ⟨z.1, t.rd rfl z.2⟩) id, r.tw t⟩
  | tup ds => obtain ⟨a, vs, h1, h2, r⟩ := h; exact ⟨a, vs, h1, h2.imp (fun z => ⟨z.1, t.rd rfl z.2⟩) id, r.tw t⟩
  | dct tk ks ds =>
    cases tk with
    | false => obtain ⟨a, vs, h1, h0, h2, h3, h4, r⟩ := h; exact ⟨a, vs, h1, h0, t.dK h2, h3, h4, r.tw t⟩
    | true => obtain ⟨a, vs, h1, h0, h2, h3, h4, r⟩ := h; exact ⟨a, vs, h1, h0, t.rd rfl h2, h3, h4, r.tw t⟩
  | obj C ns ds => obtain ⟨a, dx, fvs, h1, h0, h2, h3, r⟩ := h; exact ⟨a, dx, fvs, h1, h0, t.eq h2 rfl, h3, r.tw t⟩
  | _ => exact False.elim h
theorem Cell.tw {H H' : Hp} {P : Addr → Prop} {a : Addr} {d : D} (t : Tw H H') (e : H' a = H a) (h : Cell H P a d) : Cell H' P a d := by
  cases d with
  | lst ds => obtain ⟨vs, h, r⟩ := h; exact ⟨vs, e.trans h, r.tw t⟩
  | dct tk ks ds =>
    cases tk with
    | false => obtain ⟨vs, h, r1, r2, r⟩ := h; exact ⟨vs, e.trans h, r1, r2, r.tw t⟩
    | true => obtain ⟨vs, h, r1, r2, r⟩ := h; exact ⟨vs, e.trans h, r1, r2, r.tw t⟩
  | obj C ns ds => obtain ⟨dx, fvs, h, r1, r⟩ := h; exact ⟨dx, fvs, e.trans h, r1, r.tw t⟩
  | _ => exact False.elim h
theorem Tw.some {H H' : Hp} (t : Tw H H') {a : Addr} {o : HO} (h : H a = some o) : ∃ o', H' a = some o' := by
  rcases t a _ h with q | ⟨kvs, _, q⟩
  · exact ⟨_, q⟩
  · exact rd_some q
theorem RS.tw {K : PySem.W.Frag} {H H' : Hp} {B P : Addr → Prop} {cell : List Addr} {v : V} {r : R} (t : Tw H H') (e : ∀ a ∈ cell, H' a = H a) (h : RS K H B P cell v r) : RS K H' B P cell v r := by
  cases r with
  | val d => exact ⟨h.1, h.2.tw t⟩
  | own d => obtain ⟨a, h1, h2, h3⟩ := h; exact ⟨a, h1, h2, h3.tw t (e a (by rw [h2]; simp))⟩
  | bor d => exact ⟨h.1, h.2.tw t⟩
theorem SR.tw {K : PySem.W.Frag} {σ : L2.St} {H H' : Hp} {ρ : Env} {c : Nat → List Addr} {S : Addr → Prop} (h : SR K σ H ρ c S) (t : Tw H H') (e : ∀ a, Cel c a → H' a = H a) : SR K σ H' ρ c S where
  len := h.len
  rep := fun i r q => let ⟨v, h1, h2⟩ := h.rep i r q; ⟨v, h1, h2.tw t fun a ha => e a ⟨i, ha⟩⟩
  off := h.off
  dis := h.dis
  sep := h.sep
  trk := fun a z => let ⟨o, q⟩ := h.trk a z; t.some q
theorem XP.tw {H H' : Hp} {P : Addr → Prop} {d : Option Addr} {pl : List (Str × D)} (t : Tw H H') (h : XP H P d pl) : XP H' P d pl := h.imp id fun ⟨dd, fs, e1, e0, e2, e3, r⟩ => ⟨dd, fs, e1, e0, t.eq e2 rfl, e3, r.tw t⟩
theorem tw_lock {H : Hp} {d : Addr} {kvs : List (Key × V)} {od : Obj} (h : H d = some (.dK kvs)) : Tw H (upd H d (.frz od (.dK kvs))) := fun a o q => by
  by_cases e : a = d
  · subst e
    rw [h] at q; cases q
    exact .inr ⟨kvs, .inl rfl, .inr ⟨od, upd_same⟩⟩
  · exact .inl (by rw [upd_ne e]; exact q)
theorem tw_unl {H : Hp} {d : Addr} {kvs : List (Key × V)} {od : Obj} (h : H d = some (.frz od (.dK kvs))) : Tw H (upd H d (.dK kvs)) := fun a o q => by
  by_cases e : a = d
  · subst e
    rw [h] at q; cases q
    exact .inr ⟨kvs, .inr ⟨od, rfl⟩, .inl upd_same⟩
  · exact .inl (by rw [upd_ne e]; exact q)

def NoF (X : Cx) (d : Addr) : Prop := ∀ o' u', X.H_0 d ≠ some (.frz o' u')
def Unl (X : Cx) (Q : Hp → Prop) (H : Hp) : Prop := Q H ∨ ∃ d od kvs, H d = some (.frz od (.dK kvs)) ∧ NoF X d ∧ Q (upd H d (.dK kvs))
def unlE (X : Cx) (E : Ends) : Ends := ⟨fun σ H => Unl X (E.nx σ) H, fun v H => Unl X (E.rt v) H, fun σ H => Unl X (E.bk σ) H, fun σ H => Unl X (E.ct σ) H⟩
def unlW (X : Cx) (W : WX) : WX := fun cls d σ H => Unl X (W cls d σ) H
theorem unl_inv {X : Cx} {pins : List (Addr × Obj)} {σ : L2.St} {H : Hp} {s : Shared} {Q : Hp → Prop} (I : Inv X pins σ H s) (h : Unl X Q H) : ∃ H', Inv X pins σ H' s ∧ Q H' ∧ ∀ a, H a = none → H' a = none := by
  rcases h with h | ⟨d, od, kvs, e, n, q⟩
  · exact ⟨H, I, h, fun _ z => z⟩
  · refine ⟨_, I.unlock e n, q, fun a z => ?_⟩
    rw [upd_ne (fun w => by rw [w, e] at z; cases z)]
    exact z
theorem ps_unl {X : Cx} {st : Stmt} {t : TS} (h : PS X st t) : PS X st (fun E σ H => t (unlE X E) σ H) := by
  refine ⟨fun pins s σ H D I hw => ?_⟩
  refine thn (h.run pins s σ _ _ I hw) fun f s1 q => ?_
  cases f with
  | next => obtain ⟨σ', H', I2, q⟩ := q; obtain ⟨H2, I3, q, _⟩ := unl_inv I2 q; exact ⟨σ', _, I3, q⟩
  | brk => obtain ⟨σ', H', I2, q⟩ := q; obtain ⟨H2, I3, q, _⟩ := unl_inv I2 q; exact ⟨σ', _, I3, q⟩
  | cont => obtain ⟨σ', H', I2, q⟩ := q; obtain ⟨H2, I3, q, _⟩ := unl_inv I2 q; exact ⟨σ', _, I3, q⟩
  | ret v => obtain ⟨x, σ', H', I2, r, q⟩ := q; obtain ⟨H2, I3, q, _⟩ := unl_inv I2 q; exact ⟨x, σ', _, I3, r, q⟩
theorem pe_unl {X : Cx} {e : Expr} {t : TE} (h : PE X e t) : PE X e (fun σ H Q => t σ H fun v H' => Unl X (Q v) H') := by
  refine ⟨fun pins s σ H Q I hw => ?_⟩
  refine thn (h.run pins s σ _ _ I hw) fun v s1 ⟨x, H1, I2, r, q⟩ => ?_
  obtain ⟨H2, I3, q, _⟩ := unl_inv I2 q
  exact ⟨x, _, I3, r, q⟩
theorem takes_unl {X : Cx} {W : WX} (tk : Takes X W) : Takes X (unlW X W) := fun u s' ⟨a, B, sI, pins, σ, H, cls, d, e, I, nb, up, sky, na, os, ag, w⟩ => by
  obtain ⟨H2, I3, q, n⟩ := unl_inv I w
  exact tk u s' ⟨a, B, sI, pins, σ, H2, cls, d, e, I3, nb, up, sky, n a na, os, ag, q⟩
inductive Dk where
  | keys | vals | items
  deriving DecidableEq
def itD (k : Dk) (d : Addr) (o : Obj) (kvs : List (Key × V)) : It := match k with
  | .keys => Itk d o kvs
  | .vals => Itd d o kvs
  | .items => Iti d o kvs
def lkD (X : Cx) (x : V) (H1 : Hp) (R : Addr → Obj → List (Key × V) → Hp → Prop) : Prop := ∃ d kvs, x = .ref d ∧ ((∃ o, H1 d = some (.frz o (.dK kvs)) ∧ R d o kvs H1) ∨ (H1 d = some (.dK kvs) ∧ ∀ od, NoF X d → R d od kvs (upd H1 d (.frz od (.dK kvs)))))
def tID (X : Cx) (C : Cn) (W : WX) (k : Dk) (m : Env → Res R) : TI := fun σ H R => ∃ ρ c S, SR C.K σ H ρ c S ∧ RW C W (Mp.Own c S) σ H (m ρ) fun x H1 => lkD X x H1 fun d o kvs H2 => R (itD k d o kvs) H2
section
variable {X : Cx} {C : Cn} {W : WX} {tg e : Expr} {m : Env → Res R} {apos cpos : Pos}
def tLk (X : Cx) (C : Cn) (W : WX) (m : Env → Res R) : TE := fun σ H Q => ∃ ρ c S, SR C.K σ H ρ c S ∧ RW C W (Mp.Own c S) σ H (m ρ) fun x H1 => lkD X x H1 fun d o kvs H2 => Q x H2
theorem pe_lk (he : PE X e (tM C W m)) : PE X e (tLk X C W m) := by
  refine ⟨fun pins s σ H Q I ⟨ρ, c, S, sr, hw⟩ => ?_⟩
  refine thn (he.run pins s σ _ _ I ⟨ρ, c, S, sr, hw⟩) fun v s1 ⟨x, H1, I2, r, d, kvs, ex, q⟩ => ?_
  rcases q with ⟨o, h, q⟩ | ⟨h, q⟩
  · exact ⟨x, H1, I2, r, q⟩
  · obtain ⟨od, I3⟩ := I2.lock h True.intro
    exact ⟨x, _, I3, r, q od (I2.nofrz h True.intro)⟩
theorem lkD.imp {x : V} {H1 : Hp} {R R' : Addr → Obj → List (Key × V) → Hp → Prop} (h : lkD X x H1 R) (k : ∀ d o kvs H2, x = .ref d → H2 d = some (.frz o (.dK kvs)) → R d o kvs H2 → R' d o kvs H2) : lkD X x H1 R' := by
  obtain ⟨d, kvs, ex, q⟩ := h
  exact ⟨d, kvs, ex, q.imp (fun ⟨o, h, q⟩ => ⟨o, h, k _ _ _ _ ex h q⟩) fun ⟨h, q⟩ => ⟨h, fun od n => k _ _ _ _ ex upd_same (q od n)⟩⟩
theorem pi_dM0 (k : Dk) (h0 : k = .keys) (he : PE X e (tM C W m)) : PI X tg e (tID X C W k m) := by
  subst h0
  exact PI.weak (pi_keys (pe_lk he)) fun σ H R ⟨ρ, c, S, sr, h⟩ => ⟨ρ, c, S, sr, h.imp fun x H1 q => q.imp fun d o kvs H2 ex e q => ⟨d, o, ex, .inl ⟨kvs, e, q⟩⟩⟩
theorem pi_dMv (he : PE X e (tM C W m)) (hb : plainBase e = true) (hl : (apos.endLine == cpos.line) = true) : PI X tg (.Call (.Attribute e "values" apos) [] [] cpos) (tID X C W .vals m) :=
  PI.weak (pi_values (pe_lk he) (base_ok hb) hl) fun σ H R ⟨ρ, c, S, sr, h⟩ => ⟨ρ, c, S, sr, h.imp fun x H1 q => q.imp fun d o kvs H2 ex e q => ⟨d, o, kvs, ex, e, q⟩⟩
theorem pi_dMi {elts : List Expr} {kk : Nat} {tpos : Pos} (he : PE X e (tM C W m)) (hb : plainBase e = true) (hl : (apos.endLine == cpos.line) = true) : PI X (.Tuple elts kk tpos) (.Call (.Attribute e "items" apos) [] [] cpos) (tID X C W .items m) :=
  PI.weak (pi_items (pe_lk he) (base_ok hb) hl) fun σ H R ⟨ρ, c, S, sr, h⟩ => ⟨ρ, c, S, sr, h.imp fun x H1 q => q.imp fun d o kvs H2 ex e q => ⟨d, o, kvs, ex, e, q⟩⟩
end
def itemsOfD (k : Dk) (ks ds : List D) : List D := match k with
  | .keys => ks
  | .vals => ds
  | .items => List.zipWith (fun a b => .tup [a, b]) ks ds
theorem itemsOfD_len {k : Dk} {ks ds : List D} (h : ks.length = ds.length) : (itemsOfD k ks ds).length = ds.length := by
  cases k <;> simp [itemsOfD, h]
theorem rp_kD {H : Hp} {P : Addr → Prop} {key : Key} (h : ∀ x, key = .inr x → strOk x = true) : Rp H P (kV key) (kD key) := by
  cases key with
  | inl i => simp [kV, kD, Rp]
  | inr x => simp only [kV, kD, Rp]; exact ⟨trivial, h x rfl⟩
theorem src_dct {Hs : Hp} {O P : Addr → Prop} {k : Dk} {d : Addr} {o : Obj} {kvs : List (Key × V)} {ds : List D} (hO : ∀ a, O a → P a) (nd : ¬ O d) (h : Hs d = some (.frz o (.dK kvs))) (hk : ∀ p ∈ kvs, ∀ x, p.1 = .inr x → strOk x = true) (r : Rps Hs P (kvs.map (·.2)) ds) :
    Src Hs O P (itD k d o kvs) (itemsOfD k (kvs.map fun p => kD p.1) ds) := by
  have hl : kvs.length = ds.length := by have := r.length; rwa [List.length_map] at this
  have hlen : (itemsOfD k (kvs.map fun p => kD p.1) ds).length = kvs.length := by rw [itemsOfD_len (by rw [List.length_map, hl]), hl]
  refine ⟨fun i H f hi => ?_, fun i H x H' dd P' f hP ht hd y => ?_, fun i H f hi => ?_⟩
  · have e := f d _ nd h
    rw [hlen] at hi
    cases k <;> exact ⟨e, hi⟩
  · have hi : i < kvs.length := by rw [← hlen]; exact (List.getElem?_eq_some_iff.mp hd).1
    have hmem : kvs[i] ∈ kvs := List.getElem_mem hi
    have ek : (kvs.map fun p => kD p.1)[i]? = some (kD kvs[i].1) := by rw [List.getElem?_map, List.getElem?_eq_getElem hi]; rfl
    obtain ⟨dv, e1, e2⟩ := Rps.get' (i := i) (v := kvs[i].2) (rps_keep hO f hP r) (by rw [List.getElem?_map, List.getElem?_eq_getElem hi]; rfl)
    cases k with
    | keys =>
      obtain ⟨rfl, kk, v, e3, rfl⟩ := y
      rw [List.getElem?_eq_getElem hi] at e3
      cases e3' : kvs[i]
      rw [e3'] at e3
      cases e3
      simp only [itemsOfD] at hd
      rw [ek, e3'] at hd
      cases hd
      exact ⟨Ex.refl _, rp_kD fun x hx => hk _ hmem x (by rw [e3']; exact hx)⟩
    | vals =>
      obtain ⟨rfl, kk, e3⟩ := y
      rw [List.getElem?_eq_getElem hi] at e3
      simp only [itemsOfD] at hd
      rw [e1] at hd
      cases hd
      have : kvs[i].2 = x := by have := Option.some.inj e3; rw [this]
      rw [this] at e2
      exact ⟨Ex.refl _, e2⟩
    | items =>
      obtain ⟨T, kk, v, e3, rfl, nT, rfl⟩ := y
      rw [List.getElem?_eq_getElem hi] at e3
      have e4 : kvs[i] = (kk, v) := Option.some.inj e3
      simp only [itemsOfD, List.getElem?_zipWith, ek, e1, Option.some.injEq] at hd
      subst hd
      rw [e4] at e2 hmem ⊢
      refine ⟨Ex.new nT, ?_⟩
      simp only [Rp]
      refine ⟨T, [kV kk, v], rfl, fun z => ?_, upd_same, ?_⟩
      · obtain ⟨ob, q⟩ := ht T z
        rw [nT] at q; cases q
      · exact ⟨rp_kD fun x hx => hk _ hmem x hx, Rp.ex (Ex.new nT) e2, trivial⟩
  · have e := f d _ nd h
    rw [hlen] at hi
    cases k <;> exact ⟨e, hi⟩
def dItems (k : Dk) (r : R) : Res (List D) := match r.d with
  | .dct false ks ds => .ok (itemsOfD k ks ds)
  | _ => .stuck
def eDit (x : Bool) (k : Dk) (m : Env → Res R) (ρ : Env) : Res (List D) := toRes (m ρ) fun r => if x = false ∨ r.exact = true then dItems k r else .stuck
section
variable {X : Cx} {C : Cn} {W : WX} {io : List Nat}
theorem unl_at {H : Hp} {d : Addr} {od : Obj} {kvs : List (Key × V)} {Q : Hp → Prop} (e : H d = some (.frz od (.dK kvs))) (n : NoF X d) (q : Q (upd H d (.dK kvs))) : Unl X Q H := .inr ⟨d, od, kvs, e, n, q⟩
theorem RT.tw {K : PySem.W.Frag} {c : Nat → List Addr} {S : Addr → Prop} {H0 H H' : Hp} {v : V} {r : R} (t : Tw H H') (e : ∀ a, Cel c a ∨ H0 a = none → H' a = H a) (h : RT K io c S H0 H v r) : RT K io c S H0 H' v r := by
  cases r with
  | val d => exact Rp.tw t h
  | own d => obtain ⟨a, h1, h2, h3, h4⟩ := h; exact ⟨a, h1, h2, h3, h4.tw t (e a h2)⟩
  | bor d => exact Lent.tw t h
theorem SW.lock {E : Ends} {σ : L2.St} {ρ : Mp.Env} {c : Nat → List Addr} {S : Addr → Prop} {H : Hp} {d : Addr} {od : Obj} {kvs : List (Key × V)} {o : Out} (nf : NoF X d) (hd : H d = some (.dK kvs)) (nc : ¬ Cel c d) (h : SW C W io E σ ρ c S H o) :
    SW C (unlW X W) io (unlE X E) σ ρ c S (upd H d (.frz od (.dK kvs))) o := by
  -- the way back
  have back : ∀ {σ' : L2.St} {ρ' : Mp.Env} {c' : Nat → List Addr} {H' : Hp}, SR C.K σ' H' ρ' c' S → Stp io σ ρ c (upd H d (.frz od (.dK kvs))) σ' ρ' c' H' → H' d = some (.frz od (.dK kvs)) ∧ SR C.K σ' (upd H' d (.dK kvs)) ρ' c' S ∧ Stp io σ ρ c H σ' ρ' c' (upd H' d (.dK kvs)) ∧ Tw H' (upd H' d (.dK kvs)) := by
    intro σ' ρ' c' H' sr' st'
    have e : H' d = some (.frz od (.dK kvs)) := st'.fr d _ nc upd_same
    have tw := tw_unl e
    have hn : ∀ a, (upd H d (.frz od (.dK kvs))) a = none → H a = none := fun a z => by
      unfold upd at z
      split at z
      · cases z
      · exact z
    have nc' : ¬ Cel c' d := fun z => (st'.nw d z).elim nc fun z => by rw [upd_same] at z; cases z
    refine ⟨e, sr'.tw tw fun a ha => upd_ne fun z => nc' (z ▸ ha), ⟨fun a u n q => ?_, fun a u q => ?_, fun a z => (st'.nw a z).imp id (hn a), st'.bo, st'.io⟩, tw⟩
    · by_cases ea : a = d
      · subst ea; rw [hd] at q; cases q; exact upd_same
      · rw [upd_ne ea]; exact st'.fr a u n (by rw [upd_ne ea]; exact q)
    · by_cases ea : a = d
      · subst ea; exact ⟨_, upd_same⟩
      · rw [upd_ne ea]; exact st'.tr a u (by rw [upd_ne ea]; exact q)
  cases o with
  | stuck => exact h
  | nx ρ' => exact fun σ' H' c' a b => let ⟨e, s1, s2, _⟩ := back a b; unl_at e nf (h σ' _ c' s1 s2)
  | bk ρ' => exact fun σ' H' c' a b => let ⟨e, s1, s2, _⟩ := back a b; unl_at e nf (h σ' _ c' s1 s2)
  | ct ρ' => exact fun σ' H' c' a b => let ⟨e, s1, s2, _⟩ := back a b; unl_at e nf (h σ' _ c' s1 s2)
  | ex k pl ρ' => exact fun σ' H' c' dd a b x => let ⟨e, s1, s2, tw⟩ := back a b; unl_at e nf (h σ' _ c' dd s1 s2 (x.tw tw))
  | rt r ρ' =>
    intro v σ' H' c' a b rt
    obtain ⟨e, s1, s2, tw⟩ := back a b
    refine unl_at e nf (h v σ' _ c' s1 s2 ?_)
    have rt2 : RT C.K io c S (upd H d (.frz od (.dK kvs))) (upd H' d (.dK kvs)) v r := rt.tw tw fun y hy => upd_ne fun z => by
      subst z
      exact hy.elim nc fun z => by rw [upd_same] at z; cases z
    cases r with
    | val d => exact rt2
    | own dd =>
      obtain ⟨y, h1, h2, h3⟩ := rt2
      refine ⟨y, h1, h2.imp id fun z => ?_, h3⟩
      unfold upd at z
      split at z
      · cases z
      · exact z
    | bor d => exact rt2
theorem SW.noLock {E : Ends} {σ : L2.St} {ρ : Mp.Env} {c : Nat → List Addr} {S : Addr → Prop} {H : Hp} {o : Out} (h : SW C W io E σ ρ c S H o) : SW C (unlW X W) io (unlE X E) σ ρ c S H o := by
  cases o with
  | stuck => exact h
  | nx ρ' => exact fun σ' H' c' a b => .inl (h σ' _ c' a b)
  | bk ρ' => exact fun σ' H' c' a b => .inl (h σ' _ c' a b)
  | ct ρ' => exact fun σ' H' c' a b => .inl (h σ' _ c' a b)
  | ex k pl ρ' => exact fun σ' H' c' dd a b x => .inl (h σ' _ c' dd a b x)
  | rt r ρ' => exact fun v σ' H' c' a b rt => .inl (h v σ' _ c' a b rt)
theorem RR.dctK {K : PySem.W.Frag} {H0 H : Hp} {P : Addr → Prop} {v : V} {r : R} {ks ds : List D} (h : RR K H0 H P v r) (e : r.d = .dct false ks ds) : ∃ a kvs, v = .ref a ∧ Rd H a (.dK kvs) ∧ ks = kvs.map (fun p => kD p.1) ∧ (∀ p ∈ kvs, ∀ x, p.1 = .inr x → strOk x = true) ∧ Rps H P (kvs.map (·.2)) ds := by
  have q := h.lent (by rw [e]; rfl)
  rw [e] at q
  exact q
theorem exact_cel {K : PySem.W.Frag} {H0 H : Hp} {c : Nat → List Addr} {S : Addr → Prop} {a : Addr} {r : R} {tk : Bool} {ks ds : List D} (h : RR K H0 H (Mp.Own c S) (.ref a) r) (e : r.d = .dct tk ks ds) (x : r.exact = true) : ¬ Mp.Own c S a := by
  cases r with
  | val d =>
    cases e
    have h' : Rp H (Mp.Own c S) (.ref a) (.dct tk ks ds) := h
    cases tk <;> (simp only [Rp] at h'; obtain ⟨b, kvs, e1, n, _⟩ := h'; cases e1; exact n)
  | own d => obtain ⟨b, e1, _, n, _⟩ := h; cases e1; exact n
  | bor d => cases x
end
section
variable {X : Cx} {C : Cn} {W : WX} {io : List Nat} {tg iter e : Expr} {t : Tg} {k : Dk} {m : Env → Res R} {mb : Env → Out} {sb : List Stmt} {pos : Pos}
theorem dct_core {E : Ends} {σ : L2.St} {H1 : Hp} {ρ : Mp.Env} {c : Nat → List Addr} {S : Addr → Prop} {d : Addr} {kvs : List (Key × V)} {ds : List D} (sr : SR C.K σ H1 ρ c S) (hd : Rd H1 d (.dK kvs)) (nc : ¬ Cel c d) (hk : ∀ p ∈ kvs, ∀ x, p.1 = .inr x → strOk x = true) (r : Rps H1 (Mp.Own c S) (kvs.map (·.2)) ds)
    (hio : ∀ i ∈ t.slots, i ∉ io) (h : SW C W io E σ ρ c S H1 (forGo t mb (itemsOfD k (kvs.map fun p => kD p.1) ds) ρ)) :
    lkD X (.ref d) H1 fun d o kvs H2 => ∃ Wf : Nat → Nat → L2.St → Hp → Prop, (∃ m, Wf 0 m σ H2) ∧ ∀ i m σ H, Wf i m σ H → ((itD k d o kvs).stop i H ∧ (unlE X E).nx σ H) ∨ ((itD k d o kvs).go i H ∧ ∃ N : L2.St → Hp → Prop, (∀ σ' H', N σ' H' → ∃ m', m' < m ∧ Wf (i + 1) m' σ' H') ∧
      ∀ x H', (itD k d o kvs).yld i H x H' → tgT C.K t x σ H' fun σ2 H2 => tS C (unlW X W) io mb { (unlE X E) with nx := N, ct := N, bk := (unlE X E).nx } σ2 H2) := by
  refine ⟨d, kvs, rfl, ?_⟩
  rcases hd with hd | ⟨o, hd⟩
  · refine .inr ⟨hd, fun od nf => ?_⟩
    have tw := tw_lock (od := od) hd
    have sr' := sr.tw tw fun a ha => upd_ne fun z => nc (z ▸ ha)
    exact for_core sr' (src_dct (fun a z => .inl z.2) (fun z => nc z.2) upd_same hk (r.tw tw)) hio (h.lock nf hd nc)
  · exact .inl ⟨o, hd, for_core sr (src_dct (fun a z => .inl z.2) (fun z => nc z.2) hd hk r) hio h.noLock⟩
def sForD (t : Tg) (k : Dk) (m : Env → Res R) (mb : Env → Out) : Env → Out := sFor t (eDit true k m) mb
theorem ps_forDM (hK : X.K = C.K) (hp : PassesOwn (model X.prog X.w) X.A X.env X.xe) (hc : X.calm = true) (hi : PI X tg iter (tID X C W k m)) (hg : PG X tg (tgT X.K t)) (hb : PSs X sb (tS C (unlW X W) io mb)) (hs : plainIter iter = true) (hio : ∀ i ∈ t.slots, i ∉ io) :
    PS X (.For tg iter sb [] pos) (tS C W io (sForD t k m mb)) :=
  PS.weak (ps_unl (ps_for hp hc hi hg hb (folded_of hs))) fun E σ H ⟨ρ, c, S, sr, h⟩ => by
    refine ⟨ρ, c, S, sr, ?_⟩
    unfold sForD sFor eDit toRes at h
    cases e1 : m ρ with
    | stuck => rw [e1] at h; exact h.elim
    | exc k pl => rw [e1] at h; exact fun H1 d x q => h σ H1 c d (sr.ex x) (Stp.ex x) q
    | ok r =>
      rw [e1] at h
      intro v H1 x1 r1
      simp only at h
      split at h
      · next ds e2 =>
        split at e2
        · next hx =>
          have hx : r.exact = true := hx.elim (fun z => by cases z) id
          unfold dItems at e2
          split at e2
          · next ks ds' e3 =>
            cases e2
            obtain ⟨a, kvs, rfl, hd, rfl, hk, hr⟩ := r1.dctK e3
            rw [hK]
            exact dct_core (sr.ex x1) hd (fun z => exact_cel r1 e3 hx (.inl z)) hk hr hio (SW.after (Stp.ex x1) h)
          · cases e2
        · cases e2
      · next k' pl e2 =>
        split at e2
        · unfold dItems at e2
          split at e2 <;> cases e2
        · cases e2
      · exact h.elim
end
end Mp

namespace Mp
open PySem L2

def borE (ρ : Env) : Env := ρ.map (Option.map lentR)
theorem borE_get {ρ : Env} {i : Nat} : (borE ρ)[i]? = ρ[i]?.map (Option.map lentR) := by unfold borE; rw [List.getElem?_map]
theorem noOwn (S : Addr → Prop) : Mp.Own (fun _ => []) S = S := by
  funext a
  apply propext
  exact ⟨fun z => z.elim (fun ⟨_, h⟩ => by cases h) id, .inr⟩
theorem Lent.toB0 {K : PySem.W.Frag} {H : Hp} {P : Addr → Prop} {v : V} {d : D} (h : Lent K H P v d) : LentB K H (Cel fun _ => []) P v d := by
  have n : ∀ a, ¬ Cel (fun _ => []) a := fun a ⟨_, h⟩ => by cases h
  cases d with
  | lst ds => obtain ⟨a, vs, h1, h2, r⟩ := h; exact ⟨a, vs, h1, h2.imp (fun z => ⟨n a, z⟩) (fun z _ => .inr z), r⟩
  | tup ds => obtain ⟨a, vs, h1, h2, r⟩ := h; exact ⟨a, vs, h1, h2.imp (fun z => ⟨n a, z⟩) (fun z _ => .inr z), r⟩
  | dct tk ks ds =>
    cases tk with
    | false => obtain ⟨a, vs, h1, h2, h3, h4, r⟩ := h; exact ⟨a, vs, h1, n a, h2, h3, h4, r⟩
    | true => obtain ⟨a, vs, h1, h2, h3, h4, r⟩ := h; exact ⟨a, vs, h1, n a, h2, h3, h4, r⟩
  | obj C ns ds => obtain ⟨a, dx, fvs, h1, h2, h3, r⟩ := h; exact ⟨a, dx, fvs, h1, n a, h2, h3, r⟩
  | _ => exact False.elim h
theorem SR.bors {K : PySem.W.Frag} {σ : L2.St} {H : Hp} {ρ : Env} {c : Nat → List Addr} {S : Addr → Prop} (h : SR K σ H ρ c S) : SR K σ H (borE ρ) (fun _ => []) (Mp.Own c S) where
  len := by unfold borE; rw [List.length_map]; exact h.len
  rep := fun i r e => by
    rw [borE_get, Option.map_eq_some_iff] at e
    obtain ⟨o, e1, e2⟩ := e
    rw [Option.map_eq_some_iff] at e2
    obtain ⟨r0, rfl, rfl⟩ := e2
    obtain ⟨v, h1, h2⟩ := h.rep i r0 e1
    refine ⟨v, h1, ?_⟩
    rw [noOwn]
    cases r0 with
    | val d => exact ⟨rfl, h2.2⟩
    | own d => obtain ⟨a, rfl, _, hc⟩ := h2; exact ⟨rfl, hc.lent.toB0⟩
    | bor d => exact ⟨rfl, h2.2.lent.toB0⟩
  off := fun _ _ => rfl
  dis := fun _ _ _ h => by cases h
  sep := fun _ _ h => by cases h
  trk := fun a z => by rw [noOwn] at z; exact h.trk a z
def eLcD (t : Tg) (k : Dk) (m : Env → Res R) (tt : Option (Env → Res R)) (elt : Env → Res R) (ρ : Env) : Res R := match eDit false k m ρ with
  | .ok ds => (match lcGo (fun d => bindD t d (wipeE (borE ρ) t.slots)) tt elt ds [] with
    | .ok acc => .ok (.own (.lst acc))
    | _ => .stuck)
  | .exc c pl => .exc c pl
  | .stuck => .stuck
theorem dItems_ok {k : Dk} {r : R} {l : List D} (h : dItems k r = .ok l) : ∃ ks ds, r.d = .dct false ks ds ∧ l = itemsOfD k ks ds := by
  unfold dItems at h
  split at h
  · next ks ds e => cases h; exact ⟨ks, ds, e, rfl⟩
  · cases h
theorem dItems_exc {k : Dk} {r : R} {e : Nat} {l : List (Str × D)} (h : dItems k r = .exc e l) : False := by
  unfold dItems at h
  split at h <;> cases h
section
variable {X : Cx} {C : Cn} {W : WX}
theorem lcD_read {t : Tg} {k : Dk} {m : Env → Res R} {tt : Option (Env → Res R)} {elt : Env → Res R} {σ : L2.St} {H : Hp} {Q : VK} (h : tM C W (eLcD t k m tt elt) σ H Q) :
    tLc (tID X C W k m) (tgT C.K t) (tTt C WN tt) (tM C WN elt) t.slots σ H (fun v H' => Unl X (Q v) H') := by
  obtain ⟨ρ, c, S, sr, h⟩ := h
  refine ⟨ρ, c, S, sr, ?_⟩
  unfold eLcD eDit toRes at h
  cases e1 : m ρ with
  | stuck => rw [e1] at h; exact h.elim
  | exc k pl => rw [e1] at h; exact h
  | ok r =>
    rw [e1] at h
    dsimp only at h
    rw [if_pos (Or.inl rfl)] at h
    intro v H1 x1 r1
    cases hI : dItems k r with
    | stuck => rw [hI] at h; exact h.elim
    | exc k' pl => exact (dItems_exc hI).elim
    | ok ds0 =>
      obtain ⟨ks, ds, e3, rfl⟩ := dItems_ok hI
      rw [hI] at h
      dsimp only at h
      split at h
      · next accF eF =>
        obtain ⟨a, kvs, rfl, hd, rfl, hk, hr⟩ := r1.dctK e3
        have sb := (sr.ex x1).bors
        refine ⟨a, kvs, rfl, ?_⟩
        rcases hd with hd | ⟨o, hd⟩
        · refine .inr ⟨hd, fun od nf => ?_⟩
          have tw := tw_lock (od := od) hd
          have sb' := sb.tw tw fun y ⟨_, hy⟩ => by cases hy
          have hr' := hr.tw tw
          have src := src_dct (Hs := upd H1 a (.frz od (.dK kvs))) (O := fun y => false = true ∧ Cel (fun _ => ([] : List Addr)) y) (P := Mp.Own (fun _ => []) (Mp.Own c S)) (k := k) (fun y z => by cases z.1) (fun z => by cases z.1) upd_same hk (by rw [noOwn]; exact hr')
          refine lc_inner (Q := fun v H' => Unl X (Q v) H') sb' src eF (by simp) (fun k pl e => nomatch e) fun accF' ea D H2 x2 hD nP ⟨vs, h2, r2⟩ => ?_
          cases ea
          have e2 : H2 a = some (.frz od (.dK kvs)) := x2 _ _ upd_same
          have nDa : D ≠ a := fun z => by rw [z, upd_same] at hD; cases hD
          have hD1 : H1 D = none := by rw [upd_ne nDa] at hD; exact hD
          have x3 : Ex H1 (upd H2 a (.dK kvs)) := fun y u q => by
            by_cases ey : y = a
            · subst ey; rw [hd] at q; cases q; exact upd_same
            · rw [upd_ne ey]; exact x2 y u (by rw [upd_ne ey]; exact q)
          rw [noOwn] at nP r2
          exact unl_at e2 nf (h (.ref D) _ (x1.trans x3) ⟨D, rfl, x1.none hD1, nP, vs, by rw [upd_ne nDa]; exact h2, r2.tw (tw_unl e2)⟩)
        · refine .inl ⟨o, hd, ?_⟩
          have src := src_dct (O := fun y => false = true ∧ Cel (fun _ => ([] : List Addr)) y) (P := Mp.Own (fun _ => []) (Mp.Own c S)) (k := k) (fun y z => by cases z.1) (fun z => by cases z.1) hd hk (by rw [noOwn]; exact hr)
          refine lc_inner (Q := fun v H' => Unl X (Q v) H') sb src eF (by simp) (fun k pl e => nomatch e) fun accF' ea D H2 x2 hD nP ⟨vs, h2, r2⟩ => Or.inl ?_
          cases ea
          rw [noOwn] at nP r2
          exact h (.ref D) _ (x1.trans x2) ⟨D, rfl, x1.none hD, nP, vs, h2, r2⟩
      · exact h.elim
end
section
variable {X : Cx} {C : Cn} {W : WX} {io : List Nat} {elt tg iter : Expr} {ifs : List Expr} {scope : Scope} {own : List (Str × Nat)} {t : Tg} {k : Dk} {m : Env → Res R} {tt : Option (Env → Res R)} {me : Env → Res R} {pos : Pos}
theorem pe_lcDM (hK : X.K = C.K) (hc : X.calm = true) (hN : X.N.Nodup) (hi : PI X tg iter (tID X C W k m)) (ok : BlkOk X.N X.env.scope scope own) (ho : own.map (·.2) = t.slots)
    (hg : ∀ (s : Shared) (H : Hp) (C' : Addr) (cl : List (Str × Addr)) (fp : List Addr), PG (X.blk s H scope (compEnvC scope cl C' X.env) fp) tg (tgT X.K t))
    (ht : ∀ (s : Shared) (H : Hp) (C' : Addr) (cl : List (Str × Addr)) (fp : List Addr), PTs (X.blk s H scope (compEnvC scope cl C' X.env) fp) ifs (tTt C WN tt))
    (he : ∀ (s : Shared) (H : Hp) (C' : Addr) (cl : List (Str × Addr)) (fp : List Addr), PE (X.blk s H scope (compEnvC scope cl C' X.env) fp) elt (tM C WN me)) (hs : plainIter iter = true) :
    PE X (.ListComp elt [⟨tg, iter, ifs, 0⟩] scope pos) (tM C W (eLcD t k m tt me)) :=
  PE.weak (pe_unl (pe_lc hc hN hi ok hg ht he (folded_of hs))) fun σ H Q h => by
    rw [ho, hK]
    exact lcD_read h
theorem ps_setLcDM {i : Nat} {y : Str} {py spos : Pos} {ow : Bool} (hK : X.K = C.K) (hc : X.calm = true) (hN : X.N.Nodup)
    (hy : X.N[i]? = some y) (hyl : X.env.scope.names.lookup y = some .local) (hk : X.env.scope.kind = .function) (hl : (py.line == pos.line) = true) (hsc : (scope.names.any fun (n, k) => n == y && (k == .local || k == .cell)) = false) (hio : i ∉ io)
    (hi : PI X tg iter (tID X C W k m)) (ok : BlkOk X.N X.env.scope scope own) (ho : own.map (·.2) = t.slots)
    (hg : ∀ (s : Shared) (H : Hp) (C' : Addr) (cl : List (Str × Addr)) (fp : List Addr), PG (X.blk s H scope (compEnvC scope cl C' X.env) fp) tg (tgT X.K t))
    (ht : ∀ (s : Shared) (H : Hp) (C' : Addr) (cl : List (Str × Addr)) (fp : List Addr), PTs (X.blk s H scope (compEnvC scope cl C' X.env) fp) ifs (tTt C WN tt))
    (he : ∀ (s : Shared) (H : Hp) (C' : Addr) (cl : List (Str × Addr)) (fp : List Addr), PE (X.blk s H scope (compEnvC scope cl C' X.env) fp) elt (tM C WN me)) (hs : plainIter iter = true) :
    PS X (.Assign [.Name y py] (.ListComp elt [⟨tg, iter, ifs, 0⟩] scope pos) spos) (tS C W io (sSet ow i (eLcD t k m tt me))) :=
  PS.weak (ps_unl (ps_setLc hc hN hy hyl (sw_true hk hyl hl hsc) hi ok hg ht he (folded_of hs))) fun E σ H h => by
    refine tAsg_set (te := fun σ H Q => tLc (tID X C W k m) (tgT X.K t) (tTt C WN tt) (tM C WN me) (own.map (·.2)) σ H (fun v H' => Unl X (Q v) H')) (fun σ H Q h => ?_) hio E σ H h
    rw [ho, hK]
    exact lcD_read h
end
end Mp

namespace Mp
open PySem L2

theorem Cell.lentB {K : PySem.W.Frag} {H : Hp} {B P : Addr → Prop} {a : Addr} {d : D} (h : Cell H P a d) (nB : ¬ B a) : LentB K H B P (.ref a) d := by
  cases d with
  | lst ds => obtain ⟨vs, h, r⟩ := h; exact ⟨a, vs, rfl, .inl ⟨nB, .inl h⟩, r⟩
  | dct tk ks ds =>
    cases tk with
    | false => obtain ⟨vs, h, r1, r2, r⟩ := h; exact ⟨a, vs, rfl, nB, .inl h, r1, r2, r⟩
    | true => obtain ⟨vs, h, r1, r2, r⟩ := h; exact ⟨a, vs, rfl, nB, .inl h, r1, r2, r⟩
  | obj C ns ds => obtain ⟨dx, fvs, h, r1, r⟩ := h; exact ⟨a, dx, fvs, rfl, nB, h, r1, r⟩
  | _ => exact False.elim h
section
variable {K : PySem.W.Frag} {io : List Nat} {σ : L2.St} {H : Hp} {ρ : Env} {c : Nat → List Addr} {S : Addr → Prop} {i : Nat}
theorem SR.lendD (h : SR K σ H ρ c S) {d : D} {a : Addr} (e : ρ[i]? = some (some (.own d))) (ha : σ[i]? = some (some (.ref a))) (hc : c i = [a]) (r : Cell H (Mp.Own c S) a d) :
    SR K σ H (ρ.set i (some (.bor d))) (cut c i) (fun x => S x ∨ x = a) where
  len := by simp [h.len]
  rep := fun j r' ej => by
    have ow : ∀ x, Mp.Own (cut c i) (fun x => S x ∨ x = a) x → Mp.Own c S x := fun x z => by
      rcases z with z | z | z
      · exact .inl (cut_cel z)
      · exact .inr z
      · subst z; exact .inl ⟨i, by rw [hc]; simp⟩
    by_cases hj : i = j
    · subst hj
      rw [List.getElem?_set_self (List.getElem?_eq_some_iff.mp e).1] at ej
      cases ej
      refine ⟨.ref a, ha, by unfold cut; rw [if_pos rfl], (r.less ow).lentB fun z => ?_⟩
      obtain ⟨j, hj⟩ := z
      unfold cut at hj
      split at hj
      · cases hj
      · next n => exact n (h.dis j i a hj (by rw [hc]; simp))
    · rw [List.getElem?_set_ne hj] at ej
      obtain ⟨w, w1, w2⟩ := h.rep j r' ej
      refine ⟨w, w1, ?_⟩
      rw [show cut c i j = c j by unfold cut; rw [if_neg (fun z => hj z.symm)]]
      exact w2.move (fun _ _ _ q => q) (fun _ _ n _ z => n (cut_cel z)) (fun _ _ _ q => q) (fun _ _ n _ z => n (ow _ z)) fun _ _ => rfl
  off := fun j ej => by
    unfold cut
    split
    · rfl
    · next n => exact h.off j fun r' z => ej r' (by rw [List.getElem?_set_ne (fun w => n w.symm)]; exact z)
  dis := fun j k x h1 h2 => (h.drop i).dis j k x h1 h2
  sep := fun j x h1 z => by
    unfold cut at h1
    split at h1
    · cases h1
    · next n =>
      rcases z with z | z
      · exact h.sep j x h1 z
      · subst z; exact n (h.dis j i x h1 (by rw [hc]; simp))
  trk := fun x z => by
    rcases z with z | z | z
    · exact h.trk x (.inl (cut_cel z))
    · exact h.trk x (.inr z)
    · subst z; exact r.there
end
def lendD (i : Nat) (d : D) (o : Out) : Out := match o with
  | .nx ρ' => (match ρ'[i]? with
    | some (some (.bor _)) => .nx (ρ'.set i (some (.own d)))
    | _ => .stuck)
  | .rt r ρ' => .rt r (ρ'.set i none)
  | .ex k pl ρ' => (match ρ'[i]? with
    | some (some (.bor _)) => .ex k pl (ρ'.set i (some (.own d)))
    | _ => .stuck)
  | _ => .stuck
def slItems : Option Dk → D → Option (List D)
  | none, .lst ds => some ds
  | none, .tup ds => some ds
  | some k, .dct false ks ds => some (itemsOfD k ks ds)
  | _, _ => none
def sLendG (i : Nat) (w : Option Dk) (t : Tg) (mb : Env → Out) (ρ : Env) : Out := match ρ[i]? with
  | some (some (.own d)) => (match slItems w d with
    | some ds => lendD i d (forGo t mb ds (ρ.set i (some (.bor d))))
    | none => .stuck)
  | some (some (.val d)) => (match slItems w d with
    | some ds => forGo t mb ds ρ
    | none => .stuck)
  | some (some (.bor d)) => (match slItems w d with
    | some ds => forGo t mb ds ρ
    | none => .stuck)
  | _ => .stuck
theorem XP.sub {H : Hp} {P P' : Addr → Prop} {d : Option Addr} {pl : List (Str × D)} (n : ∀ a, P' a → P a) (h : XP H P d pl) : XP H P' d pl :=
  h.imp id fun ⟨dd, fs, e1, e0, e2, e3, r⟩ => ⟨dd, fs, e1, fun z => e0 (n dd z), e2, e3, r.less n⟩
section
variable {C : Cn} {W : WX} {io : List Nat} {E : Ends} {σ : L2.St} {H : Hp} {ρ : Env} {c : Nat → List Addr} {S : Addr → Prop} {i : Nat} {o : Out}
theorem lend_backD (h : SR C.K σ H ρ c S) {d0 : D} {a : Addr} (e : ρ[i]? = some (some (.own d0))) (ha : σ[i]? = some (some (.ref a))) (hc : c i = [a]) (r : Cell H (Mp.Own c S) a d0) (hio : i ∉ io)
    (q : SW C W io E σ ρ c S H (lendD i d0 o)) : SW C W io E σ (ρ.set i (some (.bor d0))) (cut c i) (fun x => S x ∨ x = a) H o := by
  have ca : Cel c a := ⟨i, by rw [hc]; simp⟩
  have cc : ∀ {x}, Cel (cut c i) x → Cel c x := fun z => cut_cel z
  have stp : ∀ {σ' : L2.St} {ρ' : Env} {c' c'' : Nat → List Addr} {H' : Hp} {ρ'' : Env}, Stp io σ (ρ.set i (some (.bor d0))) (cut c i) H σ' ρ' c' H' → (∀ x, Cel c'' x → Cel c' x ∨ x = a) → (∀ j d, ρ''[j]? = some (some (R.bor d)) → j ≠ i ∧ ρ'[j]? = some (some (R.bor d))) → (∀ j, j ≠ i → c'' j = c' j) →
      Stp io σ ρ c H σ' ρ'' c'' H' := fun {σ' ρ' c' c'' H' ρ''} b n1 n2 n3 =>
    ⟨fun x o n q => b.fr x o (fun z => n (cc z)) q, b.tr, fun x z => (n1 x z).elim (fun z => (b.nw x z).imp cc id) (fun z => .inl (z ▸ ca)), fun j d z => by
      obtain ⟨z1, z2⟩ := n2 j d z
      obtain ⟨z3, z4⟩ := b.bo j d z2
      rw [List.getElem?_set_ne (fun w => z1 w.symm)] at z3
      exact ⟨z3, z4⟩, fun j hj => by
      have hji : j ≠ i := fun z => hio (z ▸ hj)
      rw [n3 j hji, b.io j hj]
      unfold cut
      rw [if_neg hji]⟩
  cases o with
  | bk ρ' => exact q.elim
  | ct ρ' => exact q.elim
  | stuck => exact q.elim
  | rt r' ρ' =>
    intro v σ' H' c' sr' st' rt
    refine q v σ' H' (cut c' i) ((sr'.dropE i).less fun _ z => .inl z) (stp st' (fun x z => .inl (cut_cel z)) (fun j d z => ?_) fun j hj => by unfold cut; rw [if_neg hj]) ?_
    · obtain ⟨z1, z2⟩ := set_none z
      exact ⟨fun w => z2 w.symm, z1⟩
    · have sub : ∀ x, Abr io c S x → Abr io (cut c i) (fun x => S x ∨ x = a) x := fun x z => by
        rcases z with z | ⟨j, hj, z⟩
        · exact .inl (.inl z)
        · exact .inr ⟨j, hj, by unfold cut; rw [if_neg (fun (w : j = i) => hio (by rw [← w]; exact hj))]; exact z⟩
      cases r' with
      | val d => exact Rp.less sub rt
      | own d =>
        obtain ⟨x, e1, e2, e3, e4⟩ := rt
        exact ⟨x, e1, e2.imp cc id, fun z => e3 (sub x z), e4.less fun b z => z.imp (sub b) id⟩
      | bor d => exact Lent.less sub rt
  | nx ρ' =>
    intro σ' H' c' sr' st'
    unfold lendD at q
    simp only at q
    split at q
    · next d' eb =>
      have hi' : i < ρ'.length := (List.getElem?_eq_some_iff.mp eb).1
      obtain ⟨b1, b2⟩ := st'.bo i _ eb
      have ci : c' i = [] := by
        obtain ⟨_, _, z⟩ := sr'.rep i _ eb
        exact z.1
      have ha' : σ'[i]? = some (some (.ref a)) := b2.trans ha
      have nca : ¬ Cel (cut c i) a := fun ⟨j, hj⟩ => by
        unfold cut at hj
        split at hj
        · cases hj
        · next n => exact n (h.dis j i a hj (by rw [hc]; simp))
      have hva : H' a = H a := by
        obtain ⟨o, ho⟩ := r.there
        rw [ho]; exact st'.fr a _ nca ho
      have keep : ∀ x u, ¬ Mp.Own c S x → H x = some u → H' x = some u := fun x u n z => st'.fr x u (fun w => n (.inl (cc w))) z
      have own2 : ∀ x, Mp.Own (put1 c' i a) S x → Mp.Own c' (fun x => S x ∨ x = a) x := fun x z => by
        rcases put1_own z with z | z
        · rcases z with z | z
          · exact .inl (cut_cel z)
          · exact .inr (.inl z)
        · exact .inr (.inr z)
      have own3 : ∀ x u, ¬ Mp.Own c S x → H x = some u → ¬ Mp.Own (put1 c' i a) S x := fun x u n z w => by
        rcases own2 x w with w | w | w
        · rcases st'.nw x w with w | w
          · exact n (.inl (cc w))
          · rw [w] at z; cases z
        · exact n (.inr w)
        · exact n (.inl (w ▸ ca))
      have srN : SR C.K σ' H' (ρ'.set i (some (.own d0))) (put1 c' i a) S := by
        have base := sr'.less (S := S) fun _ z => .inl z
        have nown : ¬ Mp.Own c' S a := fun z => z.elim (fun ⟨j, hj⟩ => sr'.sep j a hj (.inr rfl)) fun z => h.sep i a (by rw [hc]; simp) z
        have s0 := base.setO (i := i) (a := a) (d := d0) nown hi' (fun j r' hj ej w hw hr => ?_) (r.move keep own3 hva)
        · have e1 : σ'.set i (some (.ref a)) = σ' := by
            apply List.ext_getElem?
            intro j
            by_cases hj : i = j
            · subst hj
              rw [ha', List.getElem?_set_self (List.getElem?_eq_some_iff.mp ha').1]
            · rw [List.getElem?_set_ne hj]
          rw [e1] at s0
          exact s0
        · cases r' with
          | val d =>
            refine ⟨hr.1, ?_⟩
            obtain ⟨w', w1, w2⟩ := sr'.rep j _ ej
            rw [hw] at w1; cases w1
            exact w2.2.less own2
          | own d =>
            obtain ⟨w', w1, x, w2, w3, w4⟩ := sr'.rep j _ ej
            rw [hw] at w1; cases w1
            exact ⟨x, w2, w3, w4.less own2⟩
          | bor d =>
            refine ⟨hr.1, ?_⟩
            obtain ⟨z1, z2⟩ := st'.bo j _ ej
            rw [List.getElem?_set_ne (fun w => hj w.symm)] at z1
            obtain ⟨w', w1, w2⟩ := h.rep j _ z1
            rw [z2, w1] at hw; cases hw
            refine w2.2.move (fun x u n z => st'.fr x u (fun w => n (cc w)) z) (fun x u n z w => ?_) keep own3
            rcases put1_cel w with w | w
            · rcases st'.nw x (cut_cel w) with w | w
              · exact n (cc w)
              · rw [w] at z; cases z
            · exact n (w ▸ ca)
      refine q.nx srN (stp st' (fun x z => (put1_cel z).imp (fun z => cut_cel z) id) (fun j d z => ?_) fun j hj => by unfold put1; rw [if_neg hj])
      obtain ⟨z1, z2⟩ := set_bor (fun _ z => by cases z) z
      exact ⟨fun w => z2 w.symm, z1⟩
    · exact q.elim
  | ex k pl ρ' =>
    intro σ' H' c' dd sr' st' xp
    unfold lendD at q
    simp only at q
    split at q
    · next d' eb =>
      have hi' : i < ρ'.length := (List.getElem?_eq_some_iff.mp eb).1
      obtain ⟨b1, b2⟩ := st'.bo i _ eb
      have ci : c' i = [] := by
        obtain ⟨_, _, z⟩ := sr'.rep i _ eb
        exact z.1
      have ha' : σ'[i]? = some (some (.ref a)) := b2.trans ha
      have nca : ¬ Cel (cut c i) a := fun ⟨j, hj⟩ => by
        unfold cut at hj
        split at hj
        · cases hj
        · next n => exact n (h.dis j i a hj (by rw [hc]; simp))
      have hva : H' a = H a := by
        obtain ⟨o, ho⟩ := r.there
        rw [ho]; exact st'.fr a _ nca ho
      have keep : ∀ x u, ¬ Mp.Own c S x → H x = some u → H' x = some u := fun x u n z => st'.fr x u (fun w => n (.inl (cc w))) z
      have own2 : ∀ x, Mp.Own (put1 c' i a) S x → Mp.Own c' (fun x => S x ∨ x = a) x := fun x z => by
        rcases put1_own z with z | z
        · rcases z with z | z
          · exact .inl (cut_cel z)
          · exact .inr (.inl z)
        · exact .inr (.inr z)
      have own3 : ∀ x u, ¬ Mp.Own c S x → H x = some u → ¬ Mp.Own (put1 c' i a) S x := fun x u n z w => by
        rcases own2 x w with w | w | w
        · rcases st'.nw x w with w | w
          · exact n (.inl (cc w))
          · rw [w] at z; cases z
        · exact n (.inr w)
        · exact n (.inl (w ▸ ca))
      have srN : SR C.K σ' H' (ρ'.set i (some (.own d0))) (put1 c' i a) S := by
        have base := sr'.less (S := S) fun _ z => .inl z
        have nown : ¬ Mp.Own c' S a := fun z => z.elim (fun ⟨j, hj⟩ => sr'.sep j a hj (.inr rfl)) fun z => h.sep i a (by rw [hc]; simp) z
        have s0 := base.setO (i := i) (a := a) (d := d0) nown hi' (fun j r' hj ej w hw hr => ?_) (r.move keep own3 hva)
        · have e1 : σ'.set i (some (.ref a)) = σ' := by
            apply List.ext_getElem?
            intro j
            by_cases hj : i = j
            · subst hj
              rw [ha', List.getElem?_set_self (List.getElem?_eq_some_iff.mp ha').1]
            · rw [List.getElem?_set_ne hj]
          rw [e1] at s0
          exact s0
        · cases r' with
          | val d =>
            refine ⟨hr.1, ?_⟩
            obtain ⟨w', w1, w2⟩ := sr'.rep j _ ej
            rw [hw] at w1; cases w1
            exact w2.2.less own2
          | own d =>
            obtain ⟨w', w1, x, w2, w3, w4⟩ := sr'.rep j _ ej
            rw [hw] at w1; cases w1
            exact ⟨x, w2, w3, w4.less own2⟩
          | bor d =>
            refine ⟨hr.1, ?_⟩
            obtain ⟨z1, z2⟩ := st'.bo j _ ej
            rw [List.getElem?_set_ne (fun w => hj w.symm)] at z1
            obtain ⟨w', w1, w2⟩ := h.rep j _ z1
            rw [z2, w1] at hw; cases hw
            refine w2.2.move (fun x u n z => st'.fr x u (fun w => n (cc w)) z) (fun x u n z w => ?_) keep own3
            rcases put1_cel w with w | w
            · rcases st'.nw x (cut_cel w) with w | w
              · exact n (cc w)
              · rw [w] at z; cases z
            · exact n (w ▸ ca)
      refine q σ' H' (put1 c' i a) dd srN (stp st' (fun x z => (put1_cel z).imp (fun z => cut_cel z) id) (fun j d z => ?_) fun j hj => by unfold put1; rw [if_neg hj]) (XP.sub own2 xp)
      obtain ⟨z1, z2⟩ := set_bor (fun _ z => by cases z) z
      exact ⟨fun w => z2 w.symm, z1⟩
    · exact q.elim
end
def tIV (X : Cx) (k : Dk) (i : Nat) : TI := fun σ H R => ∃ v, σ[i]? = some (some v) ∧ lkD X v H fun d o kvs H2 => R (itD k d o kvs) H2
section
variable {X : Cx} {C : Cn} {W : WX} {tg e : Expr} {apos cpos : Pos} {i : Nat}
theorem pe_lkV (he : PE X e (tVar i)) : PE X e (fun σ H Q => ∃ v, σ[i]? = some (some v) ∧ lkD X v H fun _ _ _ H2 => Q v H2) := by
  refine ⟨fun pins s σ H Q I ⟨v0, hv0, hw⟩ => ?_⟩
  refine thn (he.run pins s σ H (fun x H1 => lkD X x H1 fun _ _ _ H2 => Q x H2) I ⟨v0, hv0, hw⟩) fun v s1 ⟨x, H1, I2, r, d, kvs, ex, q⟩ => ?_
  rcases q with ⟨o, h, q⟩ | ⟨h, q⟩
  · exact ⟨x, H1, I2, r, q⟩
  · obtain ⟨od, I3⟩ := I2.lock h True.intro
    exact ⟨x, _, I3, r, q od (I2.nofrz h True.intro)⟩
theorem pi_dV0 (he : PE X e (tVar i)) : PI X tg e (tIV X .keys i) :=
  PI.weak (pi_keys (pe_lkV he)) fun σ H R ⟨v, hv, h⟩ => ⟨v, hv, h.imp fun d o kvs H2 ex e q => ⟨d, o, ex, .inl ⟨kvs, e, q⟩⟩⟩
theorem pi_dVv (he : PE X e (tVar i)) (hb : plainBase e = true) (hl : (apos.endLine == cpos.line) = true) : PI X tg (.Call (.Attribute e "values" apos) [] [] cpos) (tIV X .vals i) :=
  PI.weak (pi_values (pe_lkV he) (base_ok hb) hl) fun σ H R ⟨v, hv, h⟩ => ⟨v, hv, h.imp fun d o kvs H2 ex e q => ⟨d, o, kvs, ex, e, q⟩⟩
theorem pi_dVi {elts : List Expr} {kk : Nat} {tpos : Pos} (he : PE X e (tVar i)) (hb : plainBase e = true) (hl : (apos.endLine == cpos.line) = true) : PI X (.Tuple elts kk tpos) (.Call (.Attribute e "items" apos) [] [] cpos) (tIV X .items i) :=
  PI.weak (pi_items (pe_lkV he) (base_ok hb) hl) fun σ H R ⟨v, hv, h⟩ => ⟨v, hv, h.imp fun d o kvs H2 ex e q => ⟨d, o, kvs, ex, e, q⟩⟩
end
theorem slItems_k {k : Dk} {d : D} {l : List D} (h : slItems (some k) d = some l) : ∃ ks ds, d = .dct false ks ds ∧ l = itemsOfD k ks ds := by
  cases d with
  | dct tk ks ds => cases tk <;> simp [slItems] at h; exact ⟨ks, ds, rfl, h.symm⟩
  | _ => simp [slItems] at h
theorem slItems_0 {d : D} {l : List D} (h : slItems none d = some l) : d = .lst l ∨ d = .tup l := by
  cases d with
  | lst ds => simp [slItems] at h; subst h; exact .inl rfl
  | tup ds => simp [slItems] at h; subst h; exact .inr rfl
  | _ => simp [slItems] at h
section
variable {X : Cx} {C : Cn} {W : WX} {io : List Nat} {tg iter : Expr} {t : Tg} {mb : Env → Out} {sb : List Stmt} {pos px : Pos} {x : Str} {i : Nat} {k : Dk}
theorem ps_lendKM (hK : X.K = C.K) (hp : PassesOwn (model X.prog X.w) X.A X.env X.xe) (hc : X.calm = true) (hi : PI X tg iter (tIV X k i)) (hg : PG X tg (tgT X.K t)) (hb : PSs X sb (tS C (unlW X W) io mb)) (hs : plainIter iter = true) (hio : ∀ j ∈ t.slots, j ∉ io) (hii : i ∉ io) :
    PS X (.For tg iter sb [] pos) (tS C W io (sLendG i (some k) t mb)) :=
  PS.weak (ps_unl (ps_for hp hc hi hg hb (folded_of hs))) fun E σ H ⟨ρ, c, S, sr, h⟩ => by
    unfold sLendG at h
    rw [hK]
    split at h
    · next d e0 =>
      split at h
      · next l el =>
        obtain ⟨ks, ds, rfl, rfl⟩ := slItems_k el
        obtain ⟨a, a1, a2, hcell⟩ := sr.own1 e0
        have s1 := sr.lendD e0 a1 a2 hcell
        have hcell' := hcell
        obtain ⟨kvs, hv, rfl, hk, hr⟩ := hcell'
        refine ⟨.ref a, a1, ?_⟩
        refine dct_core s1 (.inl hv) (fun ⟨j, hj⟩ => ?_) hk (hr.less fun x z => ?_) hio (lend_backD sr e0 a1 a2 hcell hii h)
        · unfold cut at hj
          split at hj
          · cases hj
          · next n => exact n (sr.dis j i a hj (by rw [a2]; simp))
        · rcases z with z | z | z
          · exact .inl (cut_cel z)
          · exact .inr z
          · subst z; exact .inl ⟨i, by rw [a2]; simp⟩
      · exact h.elim
    · next d e0 =>
      split at h
      · next l el =>
        obtain ⟨ks, ds, rfl, rfl⟩ := slItems_k el
        obtain ⟨v, h1, hc0, hr⟩ := sr.rep i _ e0
        have hr' := hr
        simp only [Rp] at hr'
        obtain ⟨a, kvs, rfl, hn, hd, rfl, hk, hrr⟩ := hr'
        exact ⟨.ref a, h1, dct_core sr hd (fun z => hn (.inl z)) hk hrr hio h⟩
      · exact h.elim
    · next d e0 =>
      split at h
      · next l el =>
        obtain ⟨ks, ds, rfl, rfl⟩ := slItems_k el
        obtain ⟨v, h1, hc0, hr⟩ := sr.rep i _ e0
        obtain ⟨a, kvs, rfl, hn, hd, rfl, hk, hrr⟩ := hr
        exact ⟨.ref a, h1, dct_core sr hd hn hk hrr hio h⟩
      · exact h.elim
    · exact h.elim
theorem ps_lend0M (hK : X.K = C.K) (hp : PassesOwn (model X.prog X.w) X.A X.env X.xe) (hc : X.calm = true) (hN : X.N[i]? = some x) (hv : Vis X.env.scope x) (hd : (x == ("__debug__" : Str)) = false) (hcd : (x == ("__classdict__" : Str)) = false)
    (hg : PG X tg (tgT X.K t)) (hb : PSs X sb (tS C W io mb)) (hio : ∀ j ∈ t.slots, j ∉ io) (hii : i ∉ io) : PS X (.For tg (.Name x px) sb [] pos) (tS C W io (sLendG i none t mb)) :=
  PS.weak (ps_for hp hc (pi_seq (pe_var hN hv hd hcd)) hg hb (folded_of rfl)) fun E σ H ⟨ρ, c, S, sr, h⟩ => by
    unfold sLendG at h
    rw [hK]
    split at h
    · next d e0 =>
      split at h
      · next l el =>
        obtain ⟨a, a1, a2, hcell⟩ := sr.own1 e0
        have s1 := sr.lendD e0 a1 a2 hcell
        rcases slItems_0 el with rfl | rfl
        · have hcell' := hcell
          obtain ⟨vs, hvs, rv⟩ := hcell'
          refine ⟨.ref a, a1, .inl ⟨a, vs, rfl, SqL.of hvs, ?_⟩⟩
          refine for_core s1 ?_ hio (lend_backD sr e0 a1 a2 hcell hii h)
          refine src_list (fun x z => .inl z.2) (.inl ⟨fun z => ?_, .inl hvs⟩) (rv.less fun x z => ?_)
          · obtain ⟨j, hj⟩ := z.2
            unfold cut at hj
            split at hj
            · cases hj
            · next n => exact n (sr.dis j i a hj (by rw [a2]; simp))
          · rcases z with z | z | z
            · exact .inl (cut_cel z)
            · exact .inr z
            · subst z; exact .inl ⟨i, by rw [a2]; simp⟩
        · exact hcell.elim
      · exact h.elim
    · next d e0 =>
      split at h
      · next l el =>
        obtain ⟨v, h1, hc0, hr⟩ := sr.rep i _ e0
        rcases slItems_0 el with rfl | rfl
        · have hr' := hr
          simp only [Rp] at hr'
          obtain ⟨a, vs, rfl, hn, hvs, hrr⟩ := hr'
          exact ⟨.ref a, h1, .inl ⟨a, vs, rfl, SqL.of hvs, for_core sr (src_list (fun x z => .inl z.2) (.inl ⟨fun z => hn (.inl z.2), .inl hvs⟩) hrr) hio h⟩⟩
        · have hr' := hr
          simp only [Rp] at hr'
          obtain ⟨a, vs, rfl, hn, hvs, hrr⟩ := hr'
          exact ⟨.ref a, h1, .inr (.inl ⟨a, vs, rfl, SqT.of hvs, for_core sr (src_tup (fun x z => .inl z.2) (.inl ⟨fun z => hn (.inl z.2), .inl hvs⟩) hrr) hio h⟩)⟩
      · exact h.elim
    · next d e0 =>
      split at h
      · next l el =>
        obtain ⟨v, h1, hc0, hr⟩ := sr.rep i _ e0
        rcases slItems_0 el with rfl | rfl
        · obtain ⟨a, vs, rfl, hs, hrr⟩ := hr
          have hq : SqL C.K H a vs := hs.elim (fun z => .inl z.2) (fun z => z H)
          exact ⟨.ref a, h1, .inl ⟨a, vs, rfl, hq, for_core sr (src_list (fun x z => .inl z.2) (hs.imp (fun z => ⟨fun w => z.1 w.2, z.2⟩) id) hrr) hio h⟩⟩
        · obtain ⟨a, vs, rfl, hs, hrr⟩ := hr
          have hq : SqT C.K H a vs := hs.elim (fun z => .inl z.2) (fun z => z H)
          exact ⟨.ref a, h1, .inr (.inl ⟨a, vs, rfl, hq, for_core sr (src_tup (fun x z => .inl z.2) (hs.imp (fun z => ⟨fun w => z.1 w.2, z.2⟩) id) hrr) hio h⟩)⟩
      · exact h.elim
    · exact h.elim
end
end Mp

namespace Mp
open PySem L2 PySem.Spec PyProof.Rows

def leS (a b : Str) : Bool := !ltCps b.cps.toList a.cps.toList
def srtS (l : List Str) : List Str := l.mergeSort leS
def srtI (l : List Int) : List Int := l.mergeSort fun a b => decide (a ≤ b)
theorem leS_iff {a b : Str} : leS a b = true ↔ a.cps.toList ≤ b.cps.toList := by
  unfold leS
  rw [ltCps_eq]
  simp [List.not_lt]
theorem leS_trans {a b c : Str} (h : leS a b = true) (h' : leS b c = true) : leS a c = true := by
  rw [leS_iff] at *
  exact List.le_trans h h'
theorem leS_total (a b : Str) : (leS a b || leS b a) = true := by
  rw [Bool.or_eq_true, leS_iff, leS_iff]
  exact List.le_total _ _
theorem leS_anti {a b : Str} (h : leS a b = true) (h' : leS b a = true) : a = b := by
  rw [leS_iff] at *
  have := List.le_antisymm h h'
  obtain ⟨⟨x⟩⟩ := a
  obtain ⟨⟨y⟩⟩ := b
  simpa using this
theorem rising_pw : ∀ {p : Str} {l : List Str}, risingS p l = true → (p :: l).Pairwise (fun a b => leS a b = true)
  | p, [], _ => by simp
  | p, x :: r, h => by
    have h' : (!ltCps x.cps.toList p.cps.toList && risingS x r) = true := h
    rw [Bool.and_eq_true] at h'
    have ih := rising_pw h'.2
    have h1 : leS p x = true := h'.1
    refine List.pairwise_cons.mpr ⟨fun y hy => ?_, ih⟩
    rcases List.mem_cons.mp hy with rfl | hy
    · exact h1
    · exact leS_trans h1 (List.rel_of_pairwise_cons ih hy)
theorem sortedS_pw {l : List Str} (h : sortedS l = true) : l.Pairwise (fun a b => leS a b = true) := by
  cases l with
  | nil => exact .nil
  | cons x r => exact rising_pw h
theorem sort_eq {α : Type} {le : α → α → Bool} (anti : ∀ a b, le a b = true → le b a = true → a = b) : ∀ {l l' : List α}, l.Perm l' → l.Pairwise (fun a b => le a b = true) → l'.Pairwise (fun a b => le a b = true) → l = l'
  | [], l', p, _, _ => by rw [List.nil_perm.mp p]
  | a :: l, [], p, _, _ => by have := p.length_eq; simp at this
  | a :: l, b :: l', p, h, h' => by
    have hab : a = b := by
      have h1 : a ∈ b :: l' := p.mem_iff.mp List.mem_cons_self
      have h2 : b ∈ a :: l := p.mem_iff.mpr List.mem_cons_self
      rcases List.mem_cons.mp h1 with e | m1
      · exact e
      · rcases List.mem_cons.mp h2 with e | m2
        · exact e.symm
        · exact anti _ _ (List.rel_of_pairwise_cons h m2) (List.rel_of_pairwise_cons h' m1)
    subst hab
    rw [sort_eq anti (List.Perm.cons_inv p) (List.pairwise_cons.mp h).2 (List.pairwise_cons.mp h').2]
theorem srtS_eq {ys xs : List Str} (p : ys.Perm xs) (h : sortedS ys = true) : ys = srtS xs :=
  sort_eq (fun _ _ => leS_anti) (p.trans (List.mergeSort_perm xs leS).symm) (sortedS_pw h) (List.pairwise_mergeSort (le := leS) (fun a b c h1 h2 => leS_trans h1 h2) (fun a b => leS_total a b) xs)
theorem srtI_eq {ys xs : List Int} (p : ys.Perm xs) (h : ys.Pairwise (· ≤ ·)) : ys = srtI xs :=
  sort_eq (le := fun a b => decide (a ≤ b)) (fun a b h1 h2 => by simp at h1 h2; omega) (p.trans (List.mergeSort_perm xs _).symm) (h.imp fun h => by simpa using h) (List.pairwise_mergeSort (le := fun a b => decide (a ≤ b)) (fun a b c h1 h2 => by simp at *; omega) (fun a b => by simp; omega) xs)
def strs' : List D → Option (List Str)
  | [] => some []
  | .str x :: ds => (strs' ds).map (x :: ·)
  | _ :: _ => none
theorem strs'_eq : ∀ {ds : List D} {xs : List Str}, strs' ds = some xs → ds = xs.map .str
  | [], xs, h => by simp [strs'] at h; subst h; rfl
  | d :: ds, xs, h => by
    cases d <;> simp [strs'] at h
    obtain ⟨ys, h1, rfl⟩ := h
    rw [strs'_eq h1]; rfl
theorem rps_strs {H : Hp} {P : Addr → Prop} : ∀ {xs : List Str} {vs : List V}, Rps H P vs (xs.map .str) → vs = xs.map V.str ∧ ∀ x ∈ xs, strOk x = true
  | [], [], _ => ⟨rfl, by simp⟩
  | [], _ :: _, h => by simp [Rps] at h
  | _ :: _, [], h => by simp [Rps] at h
  | x :: xs, v :: vs, h => by
    simp only [List.map_cons, Rps, Rp] at h
    obtain ⟨⟨rfl, hx⟩, hr⟩ := h
    obtain ⟨rfl, h2⟩ := rps_strs hr
    exact ⟨rfl, fun y hy => (List.mem_cons.mp hy).elim (fun e => e ▸ hx) (h2 y)⟩
theorem strs_rps {H : Hp} {P : Addr → Prop} : ∀ {xs : List Str}, (∀ x ∈ xs, strOk x = true) → Rps H P (xs.map V.str) (xs.map .str)
  | [], _ => by simp [Rps]
  | x :: xs, h => ⟨rp_str (h x List.mem_cons_self), strs_rps fun y hy => h y (List.mem_cons_of_mem _ hy)⟩
theorem rps_intsE {H : Hp} {P : Addr → Prop} : ∀ {xs : List Int} {vs : List V}, Rps H P vs (xs.map .int) → vs = xs.map V.int
  | [], [], _ => rfl
  | [], _ :: _, h => by simp [Rps] at h
  | _ :: _, [], h => by simp [Rps] at h
  | x :: xs, v :: vs, h => by
    simp only [List.map_cons, Rps, Rp] at h
    obtain ⟨rfl, hr⟩ := h
    rw [rps_intsE hr]; rfl
theorem ints_rps {H : Hp} {P : Addr → Prop} : ∀ {xs : List Int}, Rps H P (xs.map V.int) (xs.map .int)
  | [] => by simp [Rps]
  | x :: xs => ⟨by simp [Rp], ints_rps⟩
theorem ints'_eq : ∀ {ds : List D} {xs : List Int}, ints' ds = some xs → ds = xs.map .int
  | [], xs, h => by simp [ints'] at h; subst h; rfl
  | d :: ds, xs, h => by
    cases d <;> simp [ints'] at h
    obtain ⟨ys, h1, rfl⟩ := h
    rw [ints'_eq h1]; rfl
def bSorted : List R → Res R
  | [r] => (match r.d with
    | .lst ds => (match strs' ds with
      | some xs => if xs.length < 64 then .ok (.own (.lst ((srtS xs).map .str))) else .stuck
      | none => (match ints' ds with
        | some ns => .ok (.own (.lst ((srtI ns).map .int)))
        | none => .stuck))
    | .dct false ks _ => (match strs' ks with
      | some xs => if xs.length < 64 then .ok (.own (.lst ((srtS xs).map .str))) else .stuck
      | none => .stuck)
    | _ => .stuck)
  | _ => .stuck
def bDict : List R → Res R
  | [r] => (match r.d with
    | .dct false ks ds => .ok (.own (.dct false ks ds))
    | _ => .stuck)
  | _ => .stuck
section
variable {C : Cn}
theorem rw_newD {W : WX} {P : Addr → Prop} {σ : L2.St} {H : Hp} {Q : VK} {ds : List D} {kvs : List (Key × V)} (h : RW C W P σ H (.ok (.own (.dct false (kvs.map fun p => kD p.1) ds))) Q) (hk : ∀ p ∈ kvs, ∀ x, p.1 = .inr x → strOk x = true) (r : Rps H P (kvs.map (·.2)) ds) (hP : ∀ a, P a → ∃ o, H a = some o) : ∀ p, H p = none → Q (.ref p) (upd H p (.dK kvs)) := by
  intro p hp
  refine h (.ref p) (upd H p (.dK kvs)) (Ex.new hp) ⟨p, rfl, hp, fun z => ?_, kvs, upd_same, rfl, hk, (r.fresh hp).ex (Ex.new hp)⟩
  obtain ⟨o, q⟩ := hP p z
  rw [hp] at q
  cases q
theorem gv_dict : BltGives C bDict (fun xs H Q => ∃ (a : Addr) (kvs : List (Key × V)), xs = [.ref a] ∧ Rd H a (.dK kvs) ∧ ∀ p, H p = none → Q (.ref p) (upd H p (.dK kvs))) := by
  intro W P σ H0 H Q vs rs hP rp h
  unfold bDict at h
  split at h
  · next r =>
    obtain ⟨v, rfl, rv⟩ := paired1 rp
    split at h
    · next ks ds e =>
      have q := rv.lent (by rw [e]; rfl)
      rw [e] at q
      obtain ⟨a, kvs, rfl, h1, rfl, h2, h3⟩ := q
      exact ⟨a, kvs, rfl, h1, rw_newD h h2 h3 hP⟩
    · exact h.elim
  · exact h.elim
theorem keys_strs : ∀ {kvs : List (Key × V)} {xs : List Str}, (kvs.map fun p => kD p.1) = xs.map .str → kvs.map (·.1) = xs.map Sum.inr
  | [], [], _ => rfl
  | [], _ :: _, h => by simp at h
  | _ :: _, [], h => by simp at h
  | (.inl i, v) :: kvs, x :: xs, h => by simp [kD] at h
  | (.inr y, v) :: kvs, x :: xs, h => by
    simp only [List.map_cons, kD, List.cons.injEq, D.str.injEq] at h
    obtain ⟨rfl, h⟩ := h
    simp only [List.map_cons]
    rw [keys_strs h]
theorem keys_ok : ∀ {kvs : List (Key × V)} {xs : List Str}, (kvs.map fun p => kD p.1) = xs.map .str → (∀ p ∈ kvs, ∀ x, p.1 = .inr x → strOk x = true) → ∀ x ∈ xs, strOk x = true
  | [], [], _, _ => by simp
  | [], _ :: _, h, _ => by simp at h
  | _ :: _, [], h, _ => by simp at h
  | (.inl i, v) :: kvs, x :: xs, h, _ => by simp [kD] at h
  | (.inr y, v) :: kvs, x :: xs, h, k => by
    simp only [List.map_cons, kD, List.cons.injEq, D.str.injEq] at h
    obtain ⟨rfl, h⟩ := h
    intro z hz
    rcases List.mem_cons.mp hz with rfl | hz
    · exact k _ List.mem_cons_self _ rfl
    · exact keys_ok h (fun p hp => k p (List.mem_cons_of_mem _ hp)) z hz
theorem srtS_ok {xs : List Str} (h : ∀ x ∈ xs, strOk x = true) : ∀ x ∈ srtS xs, strOk x = true := fun x hx => h x ((List.mergeSort_perm xs leS).mem_iff.mp hx)
theorem gv_sorted : BltGives C bSorted (fun xs H Q => (rSortedS C.K xs H Q ∨ rSortedI C.K xs H Q) ∨ (∃ (a : Addr) (kvs : List (Key × V)) (ks : List Str), xs = [.ref a] ∧ Rd H a (.dK kvs) ∧ kvs.map (·.1) = ks.map Sum.inr ∧ ks.length < 64 ∧ ∀ ys p, ys.Perm ks → sortedS ys = true → H p = none → Q (.ref p) (upd H p (.lst (ys.map V.str))))) := by
  intro W P σ H0 H Q vs rs hP rp h
  unfold bSorted at h
  split at h
  · next r =>
    obtain ⟨v, rfl, rv⟩ := paired1 rp
    split at h
    · next ds e =>
      obtain ⟨a, ws, rfl, h1, h2⟩ := rv.lst e
      split at h
      · next xs ex =>
        rw [strs'_eq ex] at h2
        obtain ⟨rfl, hok⟩ := rps_strs h2
        split at h
        · next hl =>
          refine .inl (.inl ⟨a, xs, rfl, h1, hl, fun ys p hp hs hn => ?_⟩)
          rw [srtS_eq hp hs]
          exact rw_new h (strs_rps (srtS_ok hok)) hP p hn
        · exact h.elim
      · split at h
        · next ns en =>
          rw [ints'_eq en] at h2
          have := rps_intsE h2
          subst this
          refine .inl (.inr ⟨a, ns, rfl, h1, fun ns' p hp hs hn => ?_⟩)
          rw [srtI_eq hp hs]
          exact rw_new h ints_rps hP p hn
        · exact h.elim
    · next ks ds e =>
      have q := rv.lent (by rw [e]; rfl)
      rw [e] at q
      obtain ⟨a, kvs, rfl, h1, rfl, h2, _⟩ := q
      split at h
      · next xs ex =>
        split at h
        · next hl =>
          refine .inr ⟨a, kvs, xs, rfl, h1, keys_strs (strs'_eq ex), hl, fun ys p hp hs hn => ?_⟩
          rw [srtS_eq hp hs]
          exact rw_new h (strs_rps (srtS_ok (keys_ok (strs'_eq ex) h2))) hP p hn
        · exact h.elim
      · exact h.elim
    · exact h.elim
  · exact h.elim
end
end Mp

namespace Mp
open PySem L2 PySem.Spec PyProof.Rows

def rItemsR : V → Hp → VK → Prop := fun x H Q => ∃ (d : Addr) (kvs : List (Key × V)), x = .ref d ∧ Rd H d (.dK kvs) ∧
  ∀ (H' : Hp) (p : Addr) (ts : List Addr), (∀ b o, H b = some o → H' b = some o) → H p = none → (∀ t ∈ ts, H t = none) → p ∉ ts → H' p = some (.lst (ts.map V.ref)) → Paired (fun (t : Addr) (q : Key × V) => H' t = some (.tup [kV q.1, q.2])) ts kvs → Q (.ref p) H'
def rValsR : V → Hp → VK → Prop := fun x H Q => ∃ (d : Addr) (kvs : List (Key × V)), x = .ref d ∧ Rd H d (.dK kvs) ∧ ∀ p, H p = none → Q (.ref p) (upd H p (.lst (kvs.map (·.2))))
section
variable {X : Cx} {e : Expr} {te : TE} {p apos cpos pos : Pos}
theorem pe_listItemsR (hc : X.calm = true) (he : PE X e te) (hg : Gl X "list") (hm : X.mg "list" = none) (hv : bootBuiltins "list" = some (.type "list")) (hbase : attributeBase e "items" X.env (eval e X.env) = eval e X.env) (hline : (apos.endLine == cpos.line) = true)
    (hs : starEach [.Call (.Attribute e "items" apos) [] [] cpos] X.env = (false, eval (.Call (.Attribute e "items" apos) [] [] cpos) X.env) :: starEach [] X.env := by rfl) :
    PE X (.Call (.Name "list" p) [.Call (.Attribute e "items" apos) [] [] cpos] [] pos) (fun σ H Q => te σ H fun x H1 => rItemsR x H1 Q) := by
  refine ⟨fun pins s σ H Q I hq => ?_⟩
  refine wpAny_Call_Name_kw (ld_blt I hg hm hv ?_)
  refine PyProof.Rows.callWith_type1 ?_ hs rfl
  rw [hs]
  show wpAny _ _ (spliced ((false, eval (.Call (.Attribute e "items" apos) [] [] cpos) X.env) :: backTo pos (starEach [] X.env))) _ _ s
  refine Calls.spliced_cons ?_
  refine wpAny_Call_method (T := "dict") (id := "dict.items") hbase rfl hline F.plainAttrs_dict F.slot_dict_items F.type_dict_items (thn (he.run pins s σ H _ I hq) fun u s1 ⟨x, H1, I1, rx, d, kvs, ex, hd, q⟩ => ?_)
  subst ex
  obtain rfl : u = Value.ref d := rx
  obtain ⟨hz, hs0, vs, kv, hdo⟩ := dk_rd I1.hok hd
  obtain ⟨ep, hat⟩ := hdo.dictAt
  have lk : kvs.length = vs.length := Paired.length kv
  have I2 : Inv X pins σ H1 { s1 with heap := s1.heap.push { cls := .type "dict_items", data := .fields #[.ref d] } } := I1.kept (t' := s1.toks) fun b ob q => Heap.get?_push_of_some _ q
  refine ⟨hdo.typeIs, hdo.mapOf.noDict, ?_⟩
  show wpAny _ _ (callWith cpos (.builtin "dict.items") [.ref d] [] []) _ X.xe s1
  refine method_meetsIn F.slot_dict_items F.entry_dict_items rfl (PySem.evalArgs_none ⟨rfl, hdo.typeIs, F.args_dict_items_1 _, _, meets_dict_items (mixKind X.prog X.w) d hs0, ⟨vs, hdo⟩, ?_⟩)
  refine Calls.spliced_nil ?_
  refine PySem.W.kdx_call (knd := mixKind X.prog X.w) (kvs := vs) (ep := ep) (I1.ok.hd hc) ⟨_, Heap.get?_push_size _ rfl, rfl, rfl⟩ (hat.push _) (by omega) fun h' tk acc c as hk hS hl hG hacc => ?_
  obtain ⟨H', k1, k2, k3, k4, k5, k6, J⟩ := LiI.items_laid (tk := tk) I2 hz kv hk hS hl hG hacc
  exact ⟨.ref _, H', J, rfl, q H' _ as k1 k2 k3 k4 k5 k6⟩
theorem pe_listValsR (hc : X.calm = true) (he : PE X e te) (hg : Gl X "list") (hm : X.mg "list" = none) (hv : bootBuiltins "list" = some (.type "list")) (hbase : attributeBase e "values" X.env (eval e X.env) = eval e X.env) (hline : (apos.endLine == cpos.line) = true)
    (hs : starEach [.Call (.Attribute e "values" apos) [] [] cpos] X.env = (false, eval (.Call (.Attribute e "values" apos) [] [] cpos) X.env) :: starEach [] X.env := by rfl) :
    PE X (.Call (.Name "list" p) [.Call (.Attribute e "values" apos) [] [] cpos] [] pos) (fun σ H Q => te σ H fun x H1 => rValsR x H1 Q) := by
  refine ⟨fun pins s σ H Q I hq => ?_⟩
  refine wpAny_Call_Name_kw (ld_blt I hg hm hv ?_)
  refine PyProof.Rows.callWith_type1 ?_ hs rfl
  rw [hs]
  show wpAny _ _ (spliced ((false, eval (.Call (.Attribute e "values" apos) [] [] cpos) X.env) :: backTo pos (starEach [] X.env))) _ _ s
  refine Calls.spliced_cons ?_
  refine wpAny_Call_method (T := "dict") (id := "dict.values") hbase rfl hline F.plainAttrs_dict F.slot_dict_values F.type_dict_values (thn (he.run pins s σ H _ I hq) fun u s1 ⟨x, H1, I1, rx, d, kvs, ex, hd, q⟩ => ?_)
  subst ex
  obtain rfl : u = Value.ref d := rx
  obtain ⟨hz, hs0, vs, kv, hdo⟩ := dk_rd I1.hok hd
  obtain ⟨ep, hat⟩ := hdo.dictAt
  have lk : kvs.length = vs.length := Paired.length kv
  have I2 : Inv X pins σ H1 { s1 with heap := s1.heap.push { cls := .type "dict_values", data := .fields #[.ref d] } } := I1.kept (t' := s1.toks) fun b ob q => Heap.get?_push_of_some _ q
  refine ⟨hdo.typeIs, hdo.mapOf.noDict, ?_⟩
  show wpAny _ _ (callWith cpos (.builtin "dict.values") [.ref d] [] []) _ X.xe s1
  refine method_meetsIn F.slot_dict_values F.entry_dict_values rfl (PySem.evalArgs_none ⟨rfl, hdo.typeIs, F.args_dict_values_1 _, _, meets_dict_values (mixKind X.prog X.w) d hs0, ⟨vs, hdo⟩, ?_⟩)
  refine Calls.spliced_nil ?_
  refine PySem.W.kdl_call (PySem.W.kdl_values (knd := mixKind X.prog X.w) (kvs := vs) (ep := ep)) (I1.ok.hd hc) ⟨⟨_, Heap.get?_push_size _ rfl, rfl, rfl⟩, hat.push _⟩ (by omega) fun h' tk acc c' hk hD hacc => ?_
  have hvv : Vals (kvs.map (·.2)) acc.toList := by
    refine vals_of_at (by have := hacc.1; rw [List.length_map]; simp; omega) fun j x w h1 h2 => ?_
    obtain ⟨k, hk2⟩ := hacc.2 j w (by rw [← Array.getElem?_toList]; exact h2)
    rw [List.getElem?_map] at h1
    cases hj : kvs[j]? with
    | none => rw [hj] at h1; cases h1
    | some kx =>
      rw [hj] at h1
      cases h1
      obtain ⟨y, y1, y2⟩ := LiI.paired_get kv hj
      rw [hk2] at y1
      cases y1
      exact y2.2
  refine ⟨.ref _, upd H1 _ (.lst (kvs.map (·.2))), I2.laid (t' := tk) hk (Nat.le_refl _) ?_, rfl, q _ (I2.hok.fresh (Nat.le_refl _))⟩
  exact ⟨by rw [List.length_map]; exact hz, acc.toList, c', hvv, by rw [Array.toArray_toList]; exact hD⟩
end
def eLIt (k : Dk) (m : Env → Res R) (ρ : Env) : Res R := (m ρ).bind fun r => match r.d with
  | .dct false ks ds => .ok (.own (.lst (itemsOfD k ks ds)))
  | _ => .stuck
theorem pairs_rps {H1 H' : Hp} {P' : Addr → Prop} {ts : List Addr} (n : ∀ t, H1 t = none → t ∈ ts → ¬ P' t) : ∀ {ts' : List Addr} {kvs : List (Key × V)} {ds : List D}, (∀ t ∈ ts', t ∈ ts ∧ H1 t = none) → Paired (fun (t : Addr) (q : Key × V) => H' t = some (.tup [kV q.1, q.2])) ts' kvs → (∀ p ∈ kvs, ∀ x, p.1 = .inr x → strOk x = true) →
    Rps H' P' (kvs.map (·.2)) ds → Rps H' P' (ts'.map V.ref) (itemsOfD .items (kvs.map fun p => kD p.1) ds)
  | [], [], [], _, _, _, _ => by simp [itemsOfD, Rps]
  | [], [], _ :: _, _, _, _, h => by simp [Rps] at h
  | _ :: _, _ :: _, [], _, _, _, h => by simp [Rps] at h
  | [], _ :: _, _, _, h, _, _ => by cases h
  | _ :: _, [], _, _, h, _, _ => by cases h
  | t :: ts', (k, v) :: kvs, d :: ds, hn, .cons h1 h2, hk, h3 => by
    simp only [List.map_cons, Rps] at h3
    obtain ⟨m1, m2⟩ := hn t List.mem_cons_self
    refine ⟨?_, pairs_rps n (fun t' ht => hn t' (List.mem_cons_of_mem _ ht)) h2 (fun p hp => hk p (List.mem_cons_of_mem _ hp)) h3.2⟩
    simp only [Rp]
    exact ⟨t, [kV k, v], rfl, n t m2 m1, h1, rp_kD fun x hx => hk _ List.mem_cons_self x hx, h3.1, trivial⟩
section
variable {X : Cx} {C : Cn} {W : WX} {e : Expr} {m : Env → Res R} {p apos cpos pos : Pos}
theorem pe_listItM (hc : X.calm = true) (he : PE X e (tM C W m)) (hg : Gl X "list") (hm : X.mg "list" = none) (hb : plainBase e = true) (hl : (apos.endLine == cpos.line) = true) : PE X (.Call (.Name "list" p) [.Call (.Attribute e "items" apos) [] [] cpos] [] pos) (tM C W (eLIt .items m)) :=
  PE.weak (pe_listItemsR hc he hg hm (by decide +kernel) (base_ok hb) hl) fun σ H Q ⟨ρ, c, S, sr, q⟩ => ⟨ρ, c, S, sr, (RW.bind q).imp fun v H1 ⟨r, x1, r1, q1⟩ => by
    split at q1
    · next ks ds e1 =>
      obtain ⟨a, kvs, rfl, hd, rfl, hk, hr⟩ := r1.dctK e1
      refine ⟨a, kvs, rfl, hd, fun H' p ts kp np nts npt eL pr => q1 (.ref p) H' kp ⟨p, rfl, np, fun z => ?_, ts.map V.ref, eL, ?_⟩⟩
      · obtain ⟨o, h⟩ := (sr.ex x1).trk p z; rw [np] at h; cases h
      · refine pairs_rps (H1 := H1) (ts := ts) (fun t ht m z => ?_) (fun t ht => ⟨ht, nts t ht⟩) pr hk ((hr.fresh np).ex kp)
        rcases z with z | z
        · obtain ⟨o, h⟩ := (sr.ex x1).trk t z; rw [ht] at h; cases h
        · subst z; exact npt m
    · exact q1.elim⟩
theorem pe_listVlM (hc : X.calm = true) (he : PE X e (tM C W m)) (hg : Gl X "list") (hm : X.mg "list" = none) (hb : plainBase e = true) (hl : (apos.endLine == cpos.line) = true) : PE X (.Call (.Name "list" p) [.Call (.Attribute e "values" apos) [] [] cpos] [] pos) (tM C W (eLIt .vals m)) :=
  PE.weak (pe_listValsR hc he hg hm (by decide +kernel) (base_ok hb) hl) fun σ H Q ⟨ρ, c, S, sr, q⟩ => ⟨ρ, c, S, sr, (RW.bind q).imp fun v H1 ⟨r, x1, r1, q1⟩ => by
    split at q1
    · next ks ds e1 =>
      obtain ⟨a, kvs, rfl, hd, rfl, hk, hr⟩ := r1.dctK e1
      exact ⟨a, kvs, rfl, hd, rw_new q1 hr (sr.ex x1).trk⟩
    · exact q1.elim⟩
end
end Mp

namespace Mp
open PySem L2

def sPtn (a b : Str) : Res R := if (b.length == 0) = false ∧ a.length ≤ 1000000 ∧ strOk (Txt.partition a b).1 = true ∧ strOk (Txt.partition a b).2.1 = true ∧ strOk (Txt.partition a b).2.2 = true then
  .ok (.val (.tup [.str (Txt.partition a b).1, .str (Txt.partition a b).2.1, .str (Txt.partition a b).2.2])) else .stuck
def sSpl2 (a b : Str) : Res R := if (b.length == 0) = false ∧ a.length ≤ 1000000 ∧ (Txt.split a b).all strOk = true then .ok (.own (.lst ((Txt.split a b).map .str))) else .stuck
def eTwoS (f : Str → Str → Res R) (mo m : Env → Res R) (ρ : Env) : Res R := (mo ρ).bind fun x => match x.d with
  | .str a => (m ρ).bind fun y => (match y.d with
    | .str b => f a b
    | _ => .stuck)
  | _ => .stuck
def ePtn : (Env → Res R) → (Env → Res R) → Env → Res R := eTwoS sPtn
def eSpl2 : (Env → Res R) → (Env → Res R) → Env → Res R := eTwoS sSpl2
section
variable {X : Cx} {C : Cn} {W : WX} {o e : Expr} {mo m : Env → Res R} {apos pos : Pos}
theorem strs_rps' {H : Hp} {P : Addr → Prop} {xs : List Str} (h : xs.all strOk = true) : Rps H P (xs.map V.str) (xs.map .str) := strs_rps fun x hx => List.all_eq_true.mp h x hx
theorem twoS_read {f : Str → Str → Res R} {r : V → List V → Hp → VK → Prop} (h : ∀ (a b : Str) (P : Addr → Prop) (σ : L2.St) (H : Hp) (Q : VK), (∀ a, P a → ∃ o, H a = some o) → RW C W P σ H (f a b) Q → r (.str a) [.str b] H Q) {σ : L2.St} {H : Hp} {Q : VK}
    (q : tM C W (eTwoS f mo m) σ H Q) : tM1 r (tM C W mo) (tM C W m) σ H Q := by
  obtain ⟨ρ, c, S, sr, q⟩ := q
  refine ⟨ρ, c, S, sr, (RW.bind q).imp fun v H1 ⟨x, x1, r1, q1⟩ => ?_⟩
  split at q1
  · next a ea =>
    obtain ⟨rfl, oa⟩ := r1.str ea
    refine ⟨⟨a, rfl⟩, ρ, c, S, sr.ex x1, (RW.bind q1).imp fun u H2 ⟨y, x2, r2, q2⟩ => ?_⟩
    split at q2
    · next b eb =>
      obtain ⟨rfl, ob⟩ := r2.str eb
      exact h a b _ σ H2 _ ((sr.ex x1).ex x2).trk q2
    · exact q2.elim
  · exact q1.elim
theorem pe_partM (ho : PE X o (tM C W mo)) (he : PE X e (tM C W m)) (hst : noStar e = true) (hb : plainBase o = true) (hl : (apos.endLine == pos.line) = true) : PE X (.Call (.Attribute o "partition" apos) [e] [] pos) (tM C W (ePtn mo m)) :=
  PE.weak (pe_partition ho he (by rw [starEach_cons hst]; rfl) (base_ok hb) hl) fun σ H Q q => twoS_read (fun a b P σ H Q hP w => by
    unfold sPtn at w
    split at w
    · next hh =>
      obtain ⟨h1, h2, h3, h4, h5⟩ := hh
      exact ⟨a, b, rfl, rfl, h1, Nat.le_trans h2 (by decide), rw_newT w ⟨rp_str h3, rp_str h4, rp_str h5, trivial⟩ hP⟩
    · exact w.elim) q
theorem pe_spltM (ho : PE X o (tM C W mo)) (he : PE X e (tM C W m)) (hst : noStar e = true) (hb : plainBase o = true) (hl : (apos.endLine == pos.line) = true) : PE X (.Call (.Attribute o "split" apos) [e] [] pos) (tM C W (eSpl2 mo m)) :=
  PE.weak (pe_split ho he (by rw [starEach_cons hst]; rfl) (base_ok hb) hl) fun σ H Q q => twoS_read (fun a b P σ H Q hP w => by
    unfold sSpl2 at w
    split at w
    · next hh =>
      obtain ⟨h1, h2, h3⟩ := hh
      exact ⟨a, b, rfl, rfl, h1, Nat.le_trans (Nat.add_le_add_right h2 2) (by decide), rw_new w (strs_rps' h3) hP⟩
    · exact w.elim) q
end
end Mp

namespace Mp
open PySem L2

def KdFind (K : PySem.W.Frag) (a : Addr) (ks : List Str) (ds : List D) (z : Str) : Prop := match dctGet (ks.map .str) ds (.str z) with
  | none => PySem.W.nsIn K a z = some none
  | some d => scOk d = true ∧ ∃ u, PySem.W.nsIn K a z = some (some u) ∧ RelV (scV d) u
structure KdK (K : PySem.W.Frag) (w : World) (mg : Str → Option Value) (x : Str) (ks : List Str) (ds : List D) : Prop where
  ex : ∃ a es n, mg x = some (.ref a) ∧ (a == sysModules) = false ∧ K.lookup a = some ⟨.type "dict", none, .dict es n, #[]⟩ ∧ PySem.W.KeysLit w.params es.toList ∧ ∀ z, KdFind K a ks ds z
structure KdE where
  h : Int
  k : Str
  t : Tok
  d : D
  u : Value
def KdE.e (q : KdE) : DictEntry := ⟨q.h, .str q.k q.t, q.u⟩
def kinR (ks : List Str) (ds : List D) (r : R) : Res R := match r.d with
  | .str z => .ok (.val (.bl (dctGet (ks.map .str) ds (.str z)).isSome))
  | _ => .stuck
def kixR (ks : List Str) (ds : List D) (r : R) : Res R := match r.d with
  | .str z => (match dctGet (ks.map .str) ds (.str z) with
    | some d => .ok (.val d)
    | none => .stuck)
  | _ => .stuck
def eKin (ks : List Str) (ds : List D) (m : Env → Res R) (ρ : Env) : Res R := (m ρ).bind (kinR ks ds)
def eKix (ks : List Str) (ds : List D) (m : Env → Res R) (ρ : Env) : Res R := (m ρ).bind (kixR ks ds)
section
variable {X : Cx} {C : Cn} {W : WX} {i : Expr} {m : Env → Res R} {x : Str} {ks : List Str} {ds : List D} {p p' pos : Pos}
def tKin (ks : List Str) (ds : List D) (t : TE) : TE := fun σ H Q => t σ H fun y H1 => ∃ z, y = .str z ∧ Q (.bl (dctGet (ks.map .str) ds (.str z)).isSome) H1
theorem pc_kd (kd : KdK X.K X.w X.mg x ks ds) (hg : Gl X x) (hd : (x == ("__debug__" : Str)) = false) {t : TE} (hi : PE X i t) : PC X .In i (.Name x p) (tKin ks ds t) := by
  obtain ⟨a, es, n, hm, low, hl, hk, hf⟩ := kd.ex
  have ho : PE X (.Name x p) (tC (.ref a)) := pe_glob hg hm rfl hd
  refine ⟨fun pins s σ H Q I h => ?_⟩
  refine thn (hi.run pins s σ H _ I h) fun iv s1 ⟨y, H1, I1, ry, z, ey, q1⟩ => thn (ho.run pins s1 σ H1 (fun v H2 => v = .ref a ∧ H2 = H1) I1 ⟨rfl, rfl⟩) fun u s2 ⟨v, H2, I2, rx, ev, eh⟩ => ?_
  subst ev eh ey
  obtain rfl : u = Value.ref a := rx
  obtain ⟨t, rfl⟩ := (show ∃ t, iv = Value.str z t from ry)
  have hm' := PySem.W.mapOf_K (prog := X.prog) (w := X.w) I2.kIn hl hk
  refine wpAny_in_of (strKind_is X.prog X.w z t) low hm' ?_
  have f := hf z
  unfold KdFind at f
  refine ⟨.bl (dctGet (ks.map .str) ds (.str z)).isSome, H2, I2.tok _, ?_, q1⟩
  cases e : dctGet (ks.map .str) ds (.str z) with
  | none => rw [e] at f; simp only at f; rw [PySem.W.find_K hl f]; rfl
  | some d => rw [e] at f; obtain ⟨_, u, f, _⟩ := f; rw [PySem.W.find_K hl f]; rfl
theorem kin_read {σ : L2.St} {H : Hp} {Q : VK} (h : tM C W (eKin ks ds m) σ H Q) : tKin ks ds (tM C W m) σ H Q := by
  obtain ⟨ρ, c, S, sr, h⟩ := h
  refine ⟨ρ, c, S, sr, (RW.bind h).imp fun v H1 ⟨r, x1, r1, q1⟩ => ?_⟩
  unfold kinR at q1
  split at q1
  · next z e =>
    obtain ⟨rfl, _⟩ := r1.str e
    exact ⟨z, rfl, q1 _ H1 (Ex.refl _) rr_bl⟩
  · exact q1.elim
theorem pe_kinM (kd : KdK X.K X.w X.mg x ks ds) (hg : Gl X x) (hd : (x == ("__debug__" : Str)) = false) (hi : PE X i (tM C W m)) (hm : behindInMarks .In (.Name x p) = false) : PE X (.Compare i [.In] [.Name x p] pos) (tM C W (eKin ks ds m)) :=
  PE.weak (pe_cmp (pc_kd kd hg hd hi) hm) fun σ H Q h => kin_read h
theorem pt_kinM (kd : KdK X.K X.w X.mg x ks ds) (hg : Gl X x) (hd : (x == ("__debug__" : Str)) = false) (hi : PE X i (tM C W m)) (hm : behindInMarks .In (.Name x p) = false) : PT X (.Compare i [.In] [.Name x p] pos) (tMt C W (eKin ks ds m)) :=
  PT.weak (pt_cmp (pc_kd kd hg hd hi) hm) fun σ H Q h => kin_read h
theorem pe_kixM (kd : KdK X.K X.w X.mg x ks ds) (hg : Gl X x) (hd : (x == ("__debug__" : Str)) = false) (hi : PE X i (tM C W m)) (hs : PlainIx i) : PE X (.Subscript (.Name x p) i pos) (tM C W (eKix ks ds m)) := by
  obtain ⟨a, es, n, hm, low, hl, hk, hf⟩ := kd.ex
  have ho : PE X (.Name x p) (tC (.ref a)) := pe_glob hg hm rfl hd
  refine PE.weak (pe_ix ix_kdict ho hi hs) fun σ H Q ⟨ρ, c, S, sr, h⟩ => ⟨ρ, c, S, sr, (RW.bind h).imp fun v H1 ⟨r, x1, r1, q1⟩ => ?_⟩
  unfold kixR at q1
  split at q1
  · next z e =>
    obtain ⟨rfl, _⟩ := r1.str e
    split at q1
    · next d ed =>
      have f := hf z
      unfold KdFind at f
      rw [ed] at f
      obtain ⟨ok, u, f, ru⟩ := f
      refine ⟨a, z, scV d, rfl, rfl, ⟨es, n, u, hl, hk, f, ru⟩, q1 _ H1 (Ex.refl _) (show Rp _ _ (scV d) d from rp_scV ok)⟩
    · exact q1.elim
  · exact q1.elim
end
end Mp

namespace Mp
open PySem PySem.Spec PyProof.Rows L2
section
variable {prog : Program} {w : World} {A : Around} {R : Result → Shared → Prop} {I : Addr} {fp wr : List Addr} {n : Nat} {P : Nat → Value → Prop} {St : Nat → Heap → Prop} {kw : List (Str × Value)}
theorem mx_name : (toString "max" ++ toString ".loop" : String) = "max.loop" := by decide
theorem mx_loop (W : Walks prog w A.in1 I fp wr n P St) (bt : Nat → Nat → Bool) (hcmp : CmpOf prog w A.in1 .Gt P bt) (S : Addr) (hSf : S ∉ fp) :
    ∀ (k j : Nat) (s : Shared) (vb : Value) (c : Nat), n - (j + 1) = k → j + 1 ≤ n → St (j + 1) s.heap → P (argBest bt j) vb →
    s.heap.get? S = some { cls := .type "list", dict := none, data := .seq #[vb, vb] c, slots := #[] } →
    (∀ v h' tk, P (argBest bt (n - 1)) v → (∀ b o, b ∉ wr → b ≠ S → s.heap.get? b = some o → h'.get? b = some o) → R (.ok (.ret v)) { s with heap := h', toks := tk }) →
    codeAny (model prog w) A (.builtin "max.loop" ⟨[.ref I, .none, .ref S], kw⟩) R s := by
  have nw : S ∉ wr := fun h => hSf (W.sub _ h)
  intro k
  induction k with
  | zero =>
    intro j s vb c hk hj hst hP hS q
    have hin : j + 1 = n := by omega
    refine codeAny_builtin F.entry_max_loop ?_
    rw [Around.under_plainId F.plain_max_loop _]
    show wpAny _ A.in1 (seqItems? (.ref S) >>= _) _ _ s
    refine wpAny_bind (wpAny_seqItems hS rfl ?_)
    show wpAny _ A.in1 (tryCatch (pyNext (.ref I)) _ >>= _) _ _ s
    refine wpAny_bind (wpAny_tryCatch (W.done s _ _ (hin ▸ hst) fun h' tk hk' => ?_))
    have hS' := hk' S _ nw hS
    show wpAny _ A.in1 (updateSeq S (fun _ => #[]) >>= _) _ _ _
    refine wpAny_bind (wpAny_updateSeq hS' rfl (wpAny_bind (wpAny_letGo (wpAny_pure ?_))))
    exact q vb _ tk (by rw [← hin]; exact hP) fun b o hbw hbS e => (Heap.get?_update_other _ _ (Ne.symm hbS)).trans (hk' b o hbw e)
  | succ k ih =>
    intro j s vb c hk hj hst hP hS q
    have hlt : j + 1 < n := by omega
    refine codeAny_builtin F.entry_max_loop ?_
    rw [Around.under_plainId F.plain_max_loop _]
    show wpAny _ A.in1 (seqItems? (.ref S) >>= _) _ _ s
    refine wpAny_bind (wpAny_seqItems hS rfl ?_)
    show wpAny _ A.in1 (tryCatch (pyNext (.ref I)) _ >>= _) _ _ s
    refine wpAny_bind (wpAny_tryCatch (W.item (j + 1) s _ _ hlt hst fun v h' tk hv hst' hk' => ?_))
    have hS' := hk' S _ nw hS
    show wpAny _ A.in1 (tryCatch (holding [v, v] (richCompare .Gt v vb >>= _)) _ >>= _) _ _ _
    refine wpAny_bind (wpAny_tryCatch (wpAny_holding (wpAny_bind (hcmp (j + 1) (argBest bt j) v vb _ _ _ hv hP ?_))))
    refine wpAny_bind (wpAny_holding (wpAny_truthy_bool ?_))
    refine wpAny_bind (wpAny_letGo (wpAny_pure ?_))
    cases hb : bt (j + 1) (argBest bt j) with
    | true =>
      simp only [if_true]
      refine wpAny_bind (wpAny_updateSeq hS' rfl (wpAny_bind (wpAny_letGo ?_)))
      rw [mx_name]
      refine wpAny_pure ⟨plainId_quiet F.plain_max_loop _, ih (j + 1) _ v _ (by omega) hlt (W.frame _ _ _ hst' fun b hbf o e => (Heap.get?_update_other _ _ fun h : S = b => hSf (by rw [h]; exact hbf)).trans e) (by simp only [argBest, hb, if_true]; exact hv) (Heap.get?_update_self _ hS' rfl) fun v' h2 tk2 hv' hk2 => ?_⟩
      exact q v' h2 tk2 hv' fun b o hbw hbS e => hk2 b o hbw hbS ((Heap.get?_update_other _ _ (Ne.symm hbS)).trans (hk' b o hbw e))
    | false =>
      simp only [Bool.false_eq_true, if_false]
      refine wpAny_bind (wpAny_letGo ?_)
      rw [mx_name]
      refine wpAny_pure ⟨plainId_quiet F.plain_max_loop _, ih (j + 1) _ vb c (by omega) hlt hst' (by simp only [argBest, hb, Bool.false_eq_true, if_false]; exact hP) hS' fun v' h2 tk2 hv' hk2 => ?_⟩
      exact q v' h2 tk2 hv' fun b o hbw hbS e => hk2 b o hbw hbS (hk' b o hbw e)
theorem mx_start (W : Walks prog w A.in1 I fp wr n P St) (bt : Nat → Nat → Bool) (hcmp : CmpOf prog w A.in1 .Gt P bt) (S : Addr) (hSf : S ∉ fp) {s : Shared} {c : Nat} {d : Value} {x : Str} (hst : St 0 s.heap)
    (hS : s.heap.get? S = some { cls := .type "list", dict := none, data := .seq #[] c, slots := #[] })
    (q : ∀ v h' tk, (∀ b o, b ∉ wr → b ≠ S → s.heap.get? b = some o → h'.get? b = some o) → (n = 0 → v = d) → (0 < n → P (argBest bt (n - 1)) v) → R (.ok (.ret v)) { s with heap := h', toks := tk }) :
    codeAny (model prog w) A (.builtin "max.loop" ⟨[.ref I, .none, .ref S], [(x, d)]⟩) R s := by
  have nw : S ∉ wr := fun h => hSf (W.sub _ h)
  refine codeAny_builtin F.entry_max_loop ?_
  rw [Around.under_plainId F.plain_max_loop _]
  show wpAny _ A.in1 (seqItems? (.ref S) >>= _) _ _ s
  refine wpAny_bind (wpAny_seqItems hS rfl ?_)
  show wpAny _ A.in1 (tryCatch (pyNext (.ref I)) _ >>= _) _ _ s
  by_cases h0 : n = 0
  · refine wpAny_bind (wpAny_tryCatch (W.done s _ _ (h0 ▸ hst) fun h' tk hk' => ?_))
    show wpAny _ A.in1 (rule _ >>= _) _ _ _
    refine wpAny_bind (wpAny_rule (wpAny_pure ?_))
    exact q d h' tk (fun b o hbw _ e => hk' b o hbw e) (fun _ => rfl) (fun h => absurd h (by omega))
  · refine wpAny_bind (wpAny_tryCatch (W.item 0 s _ _ (by omega) hst fun v h' tk hv hst' hk' => ?_))
    have hS' := hk' S _ nw hS
    show wpAny _ A.in1 (updateSeq S (fun _ => #[v, v]) >>= _) _ _ _
    refine wpAny_bind (wpAny_updateSeq hS' rfl ?_)
    rw [mx_name]
    refine wpAny_pure ⟨plainId_quiet F.plain_max_loop _, mx_loop W bt hcmp S hSf _ 0 _ v _ rfl (by omega) (W.frame _ _ _ hst' fun b hbf o e => (Heap.get?_update_other _ _ fun h : S = b => hSf (by rw [h]; exact hbf)).trans e) hv (Heap.get?_update_self _ hS' rfl) fun v' h2 tk2 hv' hk2 => ?_⟩
    exact q v' h2 tk2 (fun b o hbw hbS e => hk2 b o hbw hbS ((Heap.get?_update_other _ _ (Ne.symm hbS)).trans (hk' b o hbw e))) (fun h => absurd h h0) (fun _ => hv')
end
section
variable {prog : Program} {w : World} {A : Around} {E : Value → Shared → Prop} {s : Shared}
theorem mx_args (a b : Value) : argsOk "max" ⟨[a], [("default", b)]⟩ := by unfold argsOk; kernel_rfl
theorem mx_call {xs : Array (Int × Tok)} {l : Addr} {d : Value} {Q : Value → Shared → Prop} (hh : A.handled = none) (hl : s.heap.IsList l (intItems xs))
    (q : ∀ v h' tk, (∀ b o, s.heap.get? b = some o → h'.get? b = some o) → (xs.size = 0 → v = d) → (0 < xs.size → (intItems xs)[argBest (fun i j => decide (numAt xs i > numAt xs j)) (xs.size - 1)]? = some v) → Q v { s with heap := h', toks := tk }) :
    wpAny (model prog w) A (call (.builtin "max") [.ref l] [("default", d)]) Q E s := by
  refine wpAny_call (codeAny_call_builtin F.plain_max F.entry_max ?_)
  have chk : ∀ {Q' : Unit → Shared → Prop} {E' : Value → Shared → Prop}, Q' () s → wpAny (model prog w) A.in1 (checkBuiltinCall "max" ⟨[.ref l], [("default", d)]⟩) Q' E' s := fun {Q' E'} h => by
    simp only [checkBuiltinCall, F.kind_max]
    have ha := mx_args (.ref l) d
    cases hsig : Manifest.signature? "max" with
    | none => exact wpAny_pure h
    | some sig =>
      simp only [argsOk, hsig] at ha
      have h2 : Bind.checkArgs "max" sig ⟨[.ref l], [("default", d)]⟩ = pure () := ha
      show wpAny _ A.in1 (Bind.checkArgs "max" sig ⟨[.ref l], [("default", d)]⟩) _ _ s
      rw [h2]
      exact wpAny_pure h
  refine chk ?_
  show wpAny _ A.in1 (Builtin.Builtins.bindParams "max" ["key", "default"] 0 ⟨[], [("default", d)]⟩ >>= _) _ _ s
  refine wpAny_bind (wpAny_of_eq (show Builtin.Builtins.bindParams "max" ["key", "default"] 0 ⟨[], [("default", d)]⟩ = pure [none, some d] from rfl) ?_)
  refine wpAny_bind (wpAny_pure ?_)
  refine wpAny_bind (iter_intList hl fun s2 e st hfp hlI => ?_)
  refine wpAny_bind (wpAny_newObj_type ?_)
  have hSf : s2.heap.objs.size ∉ [s.heap.objs.size, l] := fun hm => Nat.lt_irrefl _ (hfp _ hm)
  rw [mx_name]
  have W := Walks.list (prog := prog) (w := w) (A := A.in1) hh s.heap.objs.size l hlI (intItems xs)
  refine wpAny_pure ⟨plainId_quiet F.plain_max_loop _, mx_start W _ (CmpOf.ints_gt (numAt xs) (fun _ _ => intItems_at)) s2.heap.objs.size hSf (W.frame _ _ _ st fun b _ o e => Heap.get?_push_of_some _ e) (Heap.get?_push_size _ rfl) fun v h' tk hk h0 h1 => ?_⟩
  subst e
  have sz : (intItems xs).size = xs.size := by simp [intItems]
  rw [sz] at h0 h1
  refine q v h' tk (fun b o eb => ?_) h0 h1
  have lt := Heap.lt_size eb
  have e1 : (s.heap.push { cls := .type "list_iterator", data := .fields #[.ref l, .int 0 0] }).get? b = some o := Heap.get?_push_of_some _ eb
  refine hk b o (fun hm => Nat.lt_irrefl _ (List.mem_singleton.mp hm ▸ lt)) (Nat.ne_of_lt (Nat.lt_of_lt_of_le lt ?_)) (Heap.get?_push_of_some _ e1)
  show s.heap.objs.size ≤ (s.heap.push _).objs.size
  rw [Heap.size_push]
  exact Nat.le_succ _
theorem mx_raw {its : List Value} {ns : List Int} {l : Addr} {d : Value} {Q : Value → Shared → Prop} (hh : A.handled = none) (hl : s.heap.IsList l its.toArray) (hi : IntsAre its ns)
    (q : ∀ v h' tk, (∀ b o, s.heap.get? b = some o → h'.get? b = some o) → (ns = [] → v = d) → (ns ≠ [] → ∃ M t, v = .int M t ∧ M ∈ ns ∧ ∀ a, a ∈ ns → a ≤ M) → Q v { s with heap := h', toks := tk }) :
    wpAny (model prog w) A (call (.builtin "max") [.ref l] [("default", d)]) Q E s := by
  obtain ⟨xs, e⟩ := hi.allInts.items
  have hn : numsOf (intItems xs).toList = ns := by rw [← e]; exact hi.numsOf
  rw [nums_intItems] at hn
  subst hn
  rw [e] at hl
  refine mx_call hh hl fun v h' tk hk h0 h1 => q v h' tk hk (fun z => h0 (by simpa using z)) fun z => ?_
  have hsz : 0 < xs.size := Nat.pos_of_ne_zero fun h => z (by simpa using h)
  have hv := h1 hsz
  obtain ⟨t, rfl⟩ := intItems_at hv
  obtain ⟨h2, h3⟩ := argBest_gt (numAt xs) (xs.size - 1)
  refine ⟨_, t, rfl, ?_, fun a ha => ?_⟩
  · rw [numAt_eq]; exact PySem.getD_mem (by rw [List.length_map, Array.length_toList]; omega)
  · obtain ⟨j, hj, rfl⟩ := mem_getD ha
    rw [List.length_map, Array.length_toList] at hj
    rw [← numAt_eq]; exact h3 j (by omega)
end
section
variable {M : Model} {A : Around} {E : Value → Shared → Prop} {s : Shared}
theorem callWith_bkw {pos : Pos} {id : String} {args : List (Bool × Sem Value)} {kws : List (Option Str × Sem Value)} {Q : Value → Shared → Prop} (hplain : (args.any (·.1) || kws.any (·.1.isNone)) = false)
    (h : wpAny M A (evalArgs (.builtin id) true args kws) (fun a s₁ => wpAny M A (call (.builtin id) a.pos a.kw) Q E s₁) E s) :
    wpAny M A (callWith pos (.builtin id) [] args kws) Q E s := by
  unfold callWith
  refine wpAny_bind (wpAny_holding (wpAny_mono h (fun a s₁ h₁ => wpAny_bind (wpAny_standAt ?_)) fun _ _ x => x))
  simp only [hplain]
  refine wpAny_bind (wpAny_pure ?_)
  exact wpAny_bind (wpAny_mono h₁ (fun r s₂ hr => wpAny_bind (wpAny_holding (wpAny_point (wpAny_pure hr)))) fun _ _ x => x)
end
section
variable {X : Cx} {x : Str} {p kp cp pos : Pos} {e : Expr} {t : TA}
def rMxD (K : PySem.W.Frag) (d : Int) : List V → Hp → VK → Prop := fun vs H Q => ∃ (a : Addr) (ns : List Int), vs = [V.ref a] ∧ SqL K H a (ns.map V.int) ∧ ∀ m, (ns = [] → m = d) → (ns ≠ [] → m ∈ ns ∧ ∀ y, y ∈ ns → y ≤ m) → Q (.int m) H
theorem pe_mxD {d : Int} {j} (hc : X.calm = true) (hg : Gl X "max") (hm : X.mg "max" = none) (ha : PA X [e] t) (hst : noStar e = true) :
    PE X (.Call (.Name "max" p) [e] [⟨some "default", .Constant (.int d) j cp, kp⟩] pos) (tCB (rMxD X.K d) t) := by
  refine ⟨fun pins s σ H Q I h => ?_⟩
  have he : starEach [e] X.env = (false, eval e X.env) :: starEach [] X.env := starEach_cons hst
  refine wpAny_Call_Name_kw (ld_blt I hg hm (show bootBuiltins "max" = some (.builtin "max") by decide +kernel) ?_ (by decide) (by decide))
  refine callWith_bkw ?_ (PyProof.Rows.evalArgs_kw2 (e := e) (rest := []) (kws := [⟨some "default", .Constant (.int d) j cp, kp⟩]) rfl (thn (ha.run pos pins s σ H _ I h) fun us s1 ⟨vs, H1, I1, r1, q1⟩ => ?_) he)
  · rw [he]; rfl
  · refine thn ((pk_cons (nm := some "default") (kpos := kp) pe_int pk_nil : PK X [⟨some "default", .Constant (.int d) j cp, kp⟩] _).run pos pins s1 σ H1 (fun zs H2 => zs = [V.int d] ∧ rMxD X.K d vs H2 Q) I1 ⟨rfl, q1⟩) fun ws s2 ⟨zs, H2, I2, r2, ez, q2⟩ => ?_
    subst ez
    obtain ⟨a, ns, rfl, hs, q⟩ := q2
    obtain ⟨its, rv, hl, _⟩ := I2.list hs
    cases r2 with
    | cons y z =>
      cases z
      obtain ⟨tk, rfl⟩ := y
      rw [Vals.ref1 r1]
      show wpAny _ _ (call (.builtin "max") [.ref a] [("default", .int d tk)]) _ _ _
      refine mx_raw (I2.ok.hd hc) hl.isList rv.ints fun v h' tk' hk h0 h1 => ?_
      by_cases hn : ns = []
      · rw [h0 hn]
        exact ⟨.int d, H2, I2.kept hk, ⟨_, rfl⟩, q d (fun _ => rfl) (fun z => absurd hn z)⟩
      · obtain ⟨m, t', rfl, m1, m2⟩ := h1 hn
        exact ⟨.int m, H2, I2.kept hk, ⟨_, rfl⟩, q m (fun z => absurd z hn) (fun _ => ⟨m1, m2⟩)⟩
end
def mxD (d : Int) : List Int → Int
  | [] => d
  | a :: as => as.foldl (fun m b => if m < b then b else m) a
theorem mx_fold : ∀ (as : List Int) (a : Int), (as.foldl (fun m b => if m < b then b else m) a ∈ a :: as) ∧ ∀ y ∈ a :: as, y ≤ as.foldl (fun m b => if m < b then b else m) a
  | [], a => by simp
  | b :: as, a => by
    obtain ⟨h1, h2⟩ := mx_fold as (if a < b then b else a)
    rw [List.foldl_cons]
    generalize as.foldl (fun m b => if m < b then b else m) (if a < b then b else a) = z at h1 h2
    have h3 := h2 _ (List.mem_cons_self ..)
    refine ⟨?_, fun y hy => ?_⟩
    · rcases List.mem_cons.mp h1 with h | h
      · rw [h]
        split <;> simp
      · simp [h]
    · rcases List.mem_cons.mp hy with rfl | hy
      · split at h3 <;> omega
      · rcases List.mem_cons.mp hy with rfl | hy
        · split at h3 <;> omega
        · exact h2 y (List.mem_cons_of_mem _ hy)
theorem mxD_eq {d m : Int} {ns : List Int} (h0 : ns = [] → m = d) (h1 : ns ≠ [] → m ∈ ns ∧ ∀ y, y ∈ ns → y ≤ m) : m = mxD d ns := by
  cases ns with
  | nil => exact h0 rfl
  | cons a as =>
    obtain ⟨a1, a2⟩ := h1 (by simp)
    obtain ⟨b1, b2⟩ := mx_fold as a
    have x1 := a2 _ b1
    have x2 := b2 _ a1
    exact Int.le_antisymm x2 x1
def bMxD (d : Int) : List R → Res R
  | [r] => (match r.d with
    | .lst ds => (match ints' ds with | some bs => .ok (.val (.int (mxD d bs))) | none => .stuck)
    | _ => .stuck)
  | _ => .stuck
def bMaxA : List R → Res R
  | [r] => (match r.d with
    | .lst ds => (match ints' ds with
      | some (b :: bs) => .ok (.val (.int (mxD 0 (b :: bs))))
      | _ => .stuck)
    | _ => .stuck)
  | rs => bMax rs
def eMxD (d : Int) (m : Env → Res R) : Env → Res R := eBlt (bMxD d) [m]
theorem gv_mxD {C : Cn} {d : Int} : BltGives C (bMxD d) (rMxD C.K d) := by
  intro W P σ H0 H Q vs rs hP rp h
  unfold bMxD at h
  split at h
  · next r =>
    obtain ⟨v, rfl, rv⟩ := paired1 rp
    split at h
    · next ds e =>
      obtain ⟨a, ws, rfl, h1, h2⟩ := rv.lst e
      split at h
      · next bs e2 =>
        rw [h2.ints' e2] at h1
        exact ⟨a, bs, rfl, h1, fun m m0 m1 => by rw [mxD_eq m0 m1]; exact rw_val h (by simp [Rp])⟩
      · exact h.elim
    · exact h.elim
  · exact h.elim
section
variable {X : Cx} {C : Cn} {W : WX} {e : Expr} {m : Env → Res R} {p kp cp pos : Pos}
theorem pe_mxDM {d : Int} {j} (hK : X.K = C.K) (hc : X.calm = true) (hg : Gl X "max") (hm : X.mg "max" = none) (ha : PA X [e] (tMs C W (eArgs [m]))) (hst : noStar e = true) :
    PE X (.Call (.Name "max" p) [e] [⟨some "default", .Constant (.int d) j cp, kp⟩] pos) (tM C W (eMxD d m)) :=
  PE.weak (pe_mxD hc hg hm ha hst) fun σ H Q ⟨ρ, c, S, sr, q⟩ => ⟨ρ, c, S, sr, (RWs.bind q).imp fun vs H1 ⟨rs, x1, r1, q1⟩ => by
    rw [hK]
    exact gv_mxD W _ σ H H1 Q vs rs (sr.ex x1).trk r1 q1⟩
end
def rMaxA (K : PySem.W.Frag) : List V → Hp → VK → Prop := fun xs H Q => (∃ i j, xs = [.int i, .int j] ∧ Q (.int (if j > i then j else i)) H) ∨ rMax K xs H Q
theorem gv_maxA {C : Cn} : BltGives C bMaxA (rMaxA C.K) := by
  intro W P σ H0 H Q vs rs hP rp h
  unfold bMaxA at h
  split at h
  · next r =>
    obtain ⟨v, rfl, rv⟩ := paired1 rp
    split at h
    · next ds e =>
      obtain ⟨a, ws, rfl, h1, h2⟩ := rv.lst e
      split at h
      · next b bs e2 =>
        rw [h2.ints' e2] at h1
        exact .inr ⟨a, b :: bs, rfl, h1, by simp, fun m m0 m1 => by rw [mxD_eq (d := 0) (m := m) (ns := b :: bs) (fun z => by cases z) (fun _ => ⟨m0, m1⟩)]; exact rw_val h (by simp [Rp])⟩
      · exact h.elim
    · exact h.elim
  · exact .inl (gv_max W P σ H0 H Q vs rs hP rp h)
end Mp

namespace Mp
open PySem L2

section
variable {X : Cx} {pins : List (Addr × Obj)} {σ : L2.St} {H : Hp} {s : Shared}
theorem inv_suiteT (I : Inv X pins σ H s) (a : Addr) : Inv (X.suite a (X.pn ++ pins)) [] σ H s :=
  ⟨I.ok.suite _ _, I.os, I.bare, I.base, I.loc, I.cell, I.free, I.freeC, fun p hp => I.pin p (by rw [List.append_nil] at hp; exact hp), I.hok, I.len⟩
theorem inv_unsuiteT {a : Addr} {pn' : List (Addr × Obj)} (I : Inv (X.suite a (X.pn ++ pins)) pn' σ H s) (ok : X.Ok) : Inv X pins σ H s :=
  ⟨ok, I.os, I.bare, I.base, I.loc, I.cell, I.free, I.freeC, fun p hp => I.pin p (List.mem_append_left _ hp), I.hok, I.len⟩
theorem inv_track {a C : Addr} {oe : Obj} {vs : Array Value} {od : Option Addr} (I : Inv X pins σ H s) (ha : s.heap.get? a = some oe) (hc : oe.cls = .ref C) (hdt : oe.dict = od) (hd : oe.data = .fields vs) (na : H a = none)
    (nL : a ≠ X.env.locals) (n0 : ∀ o, X.s_0.heap.get? a = some o → a ∈ X.ex) (nC : ∀ x c, X.env.cells.lookup x = some c → c ≠ a) (nP : ∀ p ∈ X.pn ++ pins, p.1 ≠ a) : Inv X pins σ (upd H a (exT a C od)) s where
  ok := I.ok
  os := I.os
  bare := I.bare
  base := ⟨I.base.keep, I.base.slot, fun b o q n hx => by
      have hb : b ≠ a := fun z => by subst z; exact hx (n0 o q)
      rw [upd_ne hb]; exact I.base.free b o q n hx, I.base.there,
    fun b xs q => by have z := I.base.tups b xs q; rw [upd_ne (ne_of_none z na)]; exact z,
    fun b o u q => by have z := I.base.frzs b o u q; rw [upd_ne (ne_of_none z na)]; exact z,
    fun b ps q => by obtain ⟨more, z⟩ := I.base.tbls b ps q; exact ⟨more, by rw [upd_ne (ne_of_none z na)]; exact z⟩⟩
  loc := I.loc
  cell := I.cell
  free := by rw [upd_ne (fun z => nL z.symm)]; exact I.free
  freeC := fun x c e => by rw [upd_ne (nC x c e)]; exact I.freeC x c e
  pin := fun p hp => let ⟨h1, h2, h3⟩ := I.pin p hp; ⟨h1, by rw [upd_ne (nP p hp)]; exact h2, h3⟩
  hok := fun b u e => by
    by_cases hb : b = a
    · subst hb
      rw [upd_same] at e
      cases e
      exact ⟨⟨oe, vs, ha, hc, hdt, hd⟩, ⟨oe, ha⟩, fun h1 h2 ⟨o, ws, e1, e2, e3, e4⟩ k => ⟨o, ws, k o e1, e2, e3, e4⟩⟩
    · rw [upd_ne hb] at e
      exact (I.hok b u e).stay (fun c v _ q => q) (fun c q => by rw [upd_ne (ne_of_none q na)]; exact q) fun c xs q => by rw [upd_ne (ne_of_none q na)]; exact q
  len := I.len
end
def unE (i : Nat) (D : Ends) : Ends := { nx := fun σ H => D.nx (σ.set i none) H, rt := D.rt, bk := fun σ H => D.bk (σ.set i none) H, ct := fun σ H => D.ct (σ.set i none) H }
def wManyA (K : PySem.W.Frag) (Wout : WX) (D : Ends) : List (Value × Option Nat × (Addr → Value → Option Addr → TS)) → WX
  | [] => Wout
  | (c, none, ts) :: r => fun cls d σ H => ∃ b, PySem.W.exmOne K cls c = some b ∧ (b = true → ∀ a, H a = none → ts a cls d D σ H) ∧ (b = false → wManyA K Wout D r cls d σ H)
  | (c, some i, ts) :: r => fun cls d σ H => ∃ b, PySem.W.exmOne K cls c = some b ∧ (b = true → ∃ C, cls = .ref C ∧ ∀ a, H a = none → ts a cls d (unE i D) (σ.set i (some (.ref a))) (upd H a (exT a C d))) ∧ (b = false → wManyA K Wout D r cls d σ H)
inductive HdsA (X : Cx) : List ExceptHandler → List (Value × Option Nat × (Addr → Value → Option Addr → TS)) → Prop
  | nil : HdsA X [] []
  | cons {x : Str} {c : Value} {ts : Addr → Value → Option Addr → TS} {b₀ : Stmt} {suite : List Stmt} {np pos' : Pos} {hds : List ExceptHandler} {l : List (Value × Option Nat × (Addr → Value → Option Addr → TS))} (hc : Names X x c)
      (hsu : ∀ (a : Addr) (cls : Value) (d : Option Addr) (pn : List (Addr × Obj)), PSs (X.suite a pn) (b₀ :: suite) (ts a cls d)) (r : HdsA X hds l) :
      HdsA X (.ExceptHandler (some (.Name x np)) none (b₀ :: suite) pos' :: hds) ((c, none, ts) :: l)
  | conA {x n : Str} {i : Nat} {c : Value} {ts : Addr → Value → Option Addr → TS} {b₀ : Stmt} {suite : List Stmt} {np pos' : Pos} {hds : List ExceptHandler} {l : List (Value × Option Nat × (Addr → Value → Option Addr → TS))} (hi : X.N[i]? = some n) (hln : X.env.kindOf n = some .local) (hc : Names X x c)
      (hsu : ∀ (a : Addr) (cls : Value) (d : Option Addr) (pn : List (Addr × Obj)), PSs (X.suite a pn) (b₀ :: suite) (ts a cls d)) (r : HdsA X hds l) :
      HdsA X (.ExceptHandler (some (.Name x np)) (some n) (b₀ :: suite) pos' :: hds) ((c, some i, ts) :: l)
theorem sky_no {B : Heap} {l : List PySem.Env} {a : Addr} {Z : Obj → Prop} {L : Addr} {h : Heap} (sk : Sky B l a Z L h) : B.get? a = none := by
  rcases sk with q | q | q
  · exact q.2.1
  · exact q.2.1
  · exact q.2.1
section
variable {X : Cx} {body : List Stmt} {h₀ : ExceptHandler} {hds : List ExceptHandler} {l : List (Value × Option Nat × (Addr → Value → Option Addr → TS))} {pos : Pos} {tb : WX → TS} {Wout : WX}
theorem ps_tryAs {orelse : List Stmt} {u : TS} (ho : PSs X orelse u) (hN : X.N.Nodup) (hs : X.stack = X.env :: X.outer) (hf : X.env.frame = some X.env.locals) (tk : Takes X Wout)
    (hb : ∀ (W : WX) (pn : List (Addr × Obj)) (xe : Value → Shared → Prop), Takes (X.tr pn xe) W → PassesOwn (model X.prog X.w) X.A X.env xe → PSs (X.tr pn xe) body (tb W))
    (hh : HdsA X (h₀ :: hds) l) : PS X (.Try body (h₀ :: hds) orelse [] pos) (fun D σ H => tb (wManyA X.K Wout D l) { D with nx := u D } σ H) := by
  refine ⟨fun pins s σ H D I h => ?_⟩
  have ok := I.ok
  have hfr : X.A.frames = some (X.env :: X.outer) := by rw [ok.frames, hs]
  refine wpAny_Try_except ?_
  refine wpAny_mono ((hb (wManyA X.K Wout D l) (X.pn ++ pins) (fun e s₁ => wpAny (model X.prog X.w) X.A (noteFrame e X.env) (fun _ s₂ => wpAny (model X.prog X.w) X.A (setFlight e none) (fun _ s₃ =>
    wpAny (model X.prog X.w) X.A (handleBy e X.env (h₀ :: hds)) (SP X pins D) X.xe s₃) X.xe s₂) X.xe s₁) (fun u s' xx => ?_) PassesOwn.looking).run [] s σ H { D with nx := u D } (I.toTry _) h) (fun f s1 hsp => ?_) (fun e s1 he => he)
  · obtain ⟨a, B, sI, pins', σ', H', cls, d, rfl, J', nb, up, sky, na, os, ag, w⟩ := xx
    have J : Inv X pins σ' H' sI := J'.ofTry ok
    have sky' : Sky B (X.env :: X.outer) a (Zc cls d) X.env.locals s'.heap := by rw [← hs]; exact sky
    show wpAny (model X.prog X.w) X.A (noteFrame (.ref a) X.env) _ _ _
    refine Sky.land Zc.steady hfr hf sky' fun h3 fl3 up3 => ?_
    have J3 : Inv X pins σ' H' { s' with heap := h3 } := J.landed nb fl3.1 (up.trans up3) os ag
    obtain ⟨oe3, vs3, he3, hz3, hd3⟩ := fl3.there
    have notFr : ∀ {h : Heap} {o : Obj} {vs : Array Value}, h.FunFrames B (X.env :: X.outer) → h.get? a = some o → o.data = .fields vs → a ∉ frs (X.env :: X.outer) := fun {h o vs} ff e dd hm => by
      obtain ⟨_, o', e', hnf⟩ := ff.mem hm
      rw [e] at e'; cases e'
      exact hnf _ dd
    have nfr := notFr fl3.2.2.1 he3 hd3
    have nL : a ≠ X.env.locals := fun z => nfr (List.mem_filterMap.mpr ⟨X.env, List.mem_cons_self, by rw [hf, z]⟩)
    have nF : a ∉ X.fs := fun hm => by
      obtain ⟨e, he, q⟩ := List.mem_filterMap.mp hm
      exact nfr (List.mem_filterMap.mpr ⟨e, List.mem_cons_of_mem _ he, q⟩)
    -- it stood nowhere ahead of the body
    have nI : sI.heap.get? a = none := by
      cases q : sI.heap.get? a with
      | none => rfl
      | some o =>
        have := nb a o q (by rw [hs]; exact nfr)
        rw [sky_no sky'] at this
        cases this
    have n0 : ∀ o, X.s_0.heap.get? a = some o → a ∈ X.ex := fun o q => by
      by_cases hx : a ∈ X.ex
      · exact hx
      · obtain ⟨o', z⟩ := J.base.there a o q hx
        rw [nI] at z
        cases z
    have nC : ∀ x c, X.env.cells.lookup x = some c → c ≠ a := fun x c e z => by
      subst z
      obtain ⟨v, o, z, _⟩ := J.cell x c e
      rw [nI] at z
      cases z
    have nP : ∀ p ∈ X.pn ++ pins, p.1 ≠ a := fun p hp z => by
      have q := (J.pin p hp).1
      rw [z, nI] at q
      cases q
    have S3 := J3.suite he3 hd3 na nL nF
    have go : ∀ {hds' : List ExceptHandler} {l' : List (Value × Option Nat × (Addr → Value → Option Addr → TS))}, HdsA X hds' l' → wManyA X.K Wout D l' cls d σ' H' →
        wpAny (model X.prog X.w) X.A (handleBy (.ref a) X.env hds') (SP X pins D) X.xe { s' with heap := h3 } := by
      have LT : PySem.W.Looks (model X.prog X.w) h3 (typeOf (.ref a)) cls := fun A Q E s k q => wpAny_typeOf_ref (k _ _ he3) (by rw [hz3.1]; exact q)
      have test : ∀ {x : Str} {np : Pos} {c : Value} (hc : Names X x c) {Q : Value → Shared → Prop} {E : Value → Shared → Prop}, Q c { s' with heap := h3 } → wpAny (model X.prog X.w) (X.A.mark (some (.ref a))) (eval (.Name x np) X.env) Q E { s' with heap := h3 } := fun {x np c} hc {Q E} q => by
        obtain ⟨hg, hdbg, hm | ⟨hm, hv, hnn⟩⟩ := hc
        · exact ld_glob (X := X.suite a ((a, oe3) :: (X.pn ++ pins))) S3 hg hm q hdbg
        · exact ld_blt (X := X.suite a ((a, oe3) :: (X.pn ++ pins))) S3 hg hm hv q hnn hdbg
      intro hds' l' hk
      induction hk with
      | nil =>
        intro w
        refine wpAny_handleBy_nil ?_
        obtain ⟨k1, k2, k3, oe, vs, T, oT, ts', he, hz, hd, h1, hr⟩ := id fl3
        unfold PySem.passOn
        refine wpAny_bind (wpAny_field he hd h1 ?_)
        rw [if_neg (show ¬ ((Value.ref T == Value.none) = true) from by simp)]
        have fin : wpAny (model X.prog X.w) X.A (setFlight (.ref a) X.env.frame) (fun _ s4 => wpAny (model X.prog X.w) X.A (throw (.ref a) : Sem Flow) (SP X pins D) X.xe s4) X.xe { s' with heap := h3 } := by
          rw [hf]
          refine HandSPX.setFlight_upZ fl3 fun h4 hh4 up4 => wpAny_throw (tk _ _ ?_)
          exact ⟨a, B, sI, pins, σ', H', cls, d, rfl, J, nb, (up.trans up3).trans up4, .inr (.inr (by rw [hs]; exact hh4)), na, os, ag, w⟩
        first
          | exact wpAny_bind (wpAny_pure (wpAny_bind fin))
          | exact wpAny_bind fin
      | @cons x c ts b₀ suite np pos' hds2 l2 hc hsu r ih =>
        intro w
        obtain ⟨b, hb1, hyes, hno⟩ := w
        refine wpAny_handleBy_cons (codeAny_handlers_test ?_) (by intro q; cases q)
        have LM := PySem.W.exm_one (M := model X.prog X.w) (J3.kIn) LT hb1
        refine test hc (LM.here ?_)
        cases b with
        | true =>
          refine codeAny_handlers_suite ?_
          refine HandSPX.lands_againZ fl3 fun h4 fl4 up4 => ?_
          have J4 : Inv X pins σ' H' { s' with heap := h4 } := J.landed nb fl4.1 ((up.trans up3).trans up4) os ag
          obtain ⟨oe4, vs4, he4, hz4, hd4⟩ := fl4.there
          have S4 := J4.suite he4 hd4 na nL nF
          refine wpAny_mono ((hsu a cls d ((a, oe4) :: (X.pn ++ pins))).run [] _ _ H' _ S4 (hyes rfl a na)) (fun f s6 hsp => ?_) (fun _ _ z => False.elim z)
          cases f with
          | next =>
            obtain ⟨σ6, H6, S6, q6⟩ := hsp
            exact ⟨_, _, S6.unsuite ok, q6⟩
          | brk =>
            obtain ⟨σ6, H6, S6, q6⟩ := hsp
            exact ⟨_, _, S6.unsuite ok, q6⟩
          | cont =>
            obtain ⟨σ6, H6, S6, q6⟩ := hsp
            exact ⟨_, _, S6.unsuite ok, q6⟩
          | ret u =>
            obtain ⟨v6, σ6, H6, S6, r6, q6⟩ := hsp
            exact ⟨_, _, _, S6.unsuite ok, r6, q6⟩
        | false =>
          show wpAny _ X.A (handleBy (.ref a) X.env hds2) _ _ _
          exact ih (hno rfl)
      | @conA x n i c ts b₀ suite np pos' hds2 l2 hi hln hc hsu r ih =>
        intro w
        obtain ⟨b, hb1, hyes, hno⟩ := w
        have hloc : Loc X.env.scope n := .inl hln
        refine wpAny_handleBy_cons (codeAny_handlers_test ?_) (by intro q; cases q)
        have LM := PySem.W.exm_one (M := model X.prog X.w) (J3.kIn) LT hb1
        refine test hc (LM.here ?_)
        cases b with
        | true =>
          obtain ⟨C, ec, hyes⟩ := hyes rfl
          refine codeAny_handlers_suite_as ?_
          refine HandSPX.lands_againZ fl3 fun h4 fl4 up4 => ?_
          have J4 : Inv X pins σ' H' { s' with heap := h4 } := J.landed nb fl4.1 ((up.trans up3).trans up4) os ag
          obtain ⟨oe4, vs4, he4, hz4, hd4⟩ := fl4.there
          have T4 := inv_suiteT (inv_track J4 he4 (hz4.1.trans ec) hz4.2 hd4 na nL n0 nC nP) a
          refine store_ok (X := X.suite a (X.pn ++ pins)) (v := .ref a) T4 hN hi hloc rfl (fun s5 S5 => ?_) (.inr hln)
          refine wpAny_mono ((hsu a cls d (X.pn ++ pins)).run [] s5 _ _ _ S5 (hyes a na)) (fun f s6 hsp => ?_) (fun _ _ z => False.elim z)
          have end_ : ∀ {σ6 : L2.St} {H6 : Hp} {Q : Shared → Prop}, Inv (X.suite a (X.pn ++ pins)) [] σ6 H6 s6 → (∀ s7, Inv X pins (σ6.set i none) H6 s7 → Q s7) →
              wpAny (model X.prog X.w) X.A (do bindName X.env n .none; unbindBehindTheSuite X.env n pos') (fun _ s7 => Q s7) X.xe s6 := fun {σ6 H6 Q} S6 hq => gone_ok (inv_unsuiteT S6 ok) hN hi hln hq
          cases f with
          | next =>
            obtain ⟨σ6, H6, S6, q6⟩ := hsp
            exact end_ S6 fun s7 J7 => ⟨_, _, J7, q6⟩
          | brk =>
            obtain ⟨σ6, H6, S6, q6⟩ := hsp
            exact end_ S6 fun s7 J7 => ⟨_, _, J7, q6⟩
          | cont =>
            obtain ⟨σ6, H6, S6, q6⟩ := hsp
            exact end_ S6 fun s7 J7 => ⟨_, _, J7, q6⟩
          | ret u =>
            obtain ⟨v6, σ6, H6, S6, r6, q6⟩ := hsp
            exact end_ S6 fun s7 J7 => ⟨_, _, _, J7, r6, q6⟩
        | false =>
          show wpAny _ X.A (handleBy (.ref a) X.env hds2) _ _ _
          exact ih (hno rfl)
    exact go hh w
  · cases f with
    | next =>
      obtain ⟨σ', H', J', q⟩ := hsp
      exact ho.run pins s1 σ' H' D (J'.ofTry ok) q
    | brk =>
      obtain ⟨σ', H', J', q⟩ := hsp
      exact ⟨σ', H', J'.ofTry ok, q⟩
    | cont =>
      obtain ⟨σ', H', J', q⟩ := hsp
      exact ⟨σ', H', J'.ofTry ok, q⟩
    | ret u =>
      obtain ⟨v, σ', H', J', r, q⟩ := hsp
      exact ⟨v, σ', H', J'.ofTry ok, r, q⟩
end

def unO (i : Nat) : Out → Out
  | .nx ρ => .nx (ρ.set i none)
  | .rt r ρ => .rt r ρ
  | .bk ρ => .bk (ρ.set i none)
  | .ct ρ => .ct (ρ.set i none)
  | .ex _ _ _ => .stuck
  | .stuck => .stuck
def exoR (k : Nat) (C : Addr) (pl : List (Str × D)) : R := .val (.exo k C (pl.map (·.1)) (pl.map (·.2)))
def catchA (t : Nat → Nat → Option Bool) (ca : Nat → Addr) (k : Nat) (pl : List (Str × D)) (ρ : Env) : List (Nat × Option Nat × (Env → Out)) → Out
  | [] => .ex k pl ρ
  | (j, oi, ms) :: r => match t k j with
    | some true => (match oi with
      | some i => unO i (ms (ρ.set i (some (exoR k (ca k) pl))))
      | none => (match ms ρ with
        | .ex _ _ _ => .stuck
        | o => o))
    | some false => catchA t ca k pl ρ r
    | none => .stuck
def sTryA (t : Nat → Nat → Option Bool) (ca : Nat → Addr) (mb : Env → Out) (hs : List (Nat × Option Nat × (Env → Out))) (mo : Env → Out) (ρ : Env) : Out := match mb ρ with
  | .ex k pl ρ' => catchA t ca k pl ρ' hs
  | .nx ρ' => mo ρ'
  | o => o
theorem exo_rp {H : Hp} {P : Addr → Prop} {a C : Addr} {k : Nat} {d : Option Addr} {pl : List (Str × D)} (xp : XP H P d pl) (na : H a = none) (hP : ∀ a, P a → ∃ o, H a = some o) : Rp (upd H a (exT a C d)) P (.ref a) (.exo k C (pl.map (·.1)) (pl.map (·.2))) := by
  simp only [Rp]
  refine ⟨a, d, rfl, (fun z => by obtain ⟨o, q⟩ := hP a z; rw [na] at q; cases q), upd_same, ?_⟩
  rcases xp with ⟨rfl, rfl⟩ | ⟨dd, fs, rfl, n1, e1, e2, r⟩
  · exact .inl ⟨rfl, rfl, rfl⟩
  · exact .inr ⟨dd, fs, rfl, n1, by rw [upd_ne (ne_of_none e1 na)]; exact e1, e2, r.ex (Ex.new na)⟩
section
variable {X : Cx} {C : Cn} {W : WX} {io : List Nat} {pos : Pos}
inductive HdsMA (X : Cx) (C : Cn) (io : List Nat) : List ExceptHandler → List (Nat × Option Nat × (Env → Out)) → Prop
  | nil : HdsMA X C io [] []
  | cons {x : Str} {j : Nat} {m : Env → Out} {b₀ : Stmt} {suite : List Stmt} {np pos' : Pos} {hds : List ExceptHandler} {l : List (Nat × Option Nat × (Env → Out))} (hc : Names X x (.ref (C.ca j))) (hsu : ∀ (a : Addr) (pn : List (Addr × Obj)), PSs (X.suite a pn) (b₀ :: suite) (tS C WN io m)) (r : HdsMA X C io hds l) :
      HdsMA X C io (.ExceptHandler (some (.Name x np)) none (b₀ :: suite) pos' :: hds) ((j, none, m) :: l)
  | conA {x n : Str} {j i : Nat} {m : Env → Out} {b₀ : Stmt} {suite : List Stmt} {np pos' : Pos} {hds : List ExceptHandler} {l : List (Nat × Option Nat × (Env → Out))} (hi : X.N[i]? = some n) (hln : X.env.kindOf n = some .local) (hio : i ∉ io) (hc : Names X x (.ref (C.ca j))) (hsu : ∀ (a : Addr) (pn : List (Addr × Obj)), PSs (X.suite a pn) (b₀ :: suite) (tS C WN io m)) (r : HdsMA X C io hds l) :
      HdsMA X C io (.ExceptHandler (some (.Name x np)) (some n) (b₀ :: suite) pos' :: hds) ((j, some i, m) :: l)
def hdTA (C : Cn) (io : List Nat) (l : List (Nat × Option Nat × (Env → Out))) : List (Value × Option Nat × (Addr → Value → Option Addr → TS)) := l.map fun p => (.ref (C.ca p.1), p.2.1, fun _ _ _ => tS C WN io p.2.2)
theorem HdsMA.ok {hds : List ExceptHandler} {l : List (Nat × Option Nat × (Env → Out))} (h : HdsMA X C io hds l) : HdsA X hds (hdTA C io l) := by
  induction h with
  | nil => exact .nil
  | cons hc hsu _ ih => exact .cons hc (fun a _ _ pn => hsu a pn) ih
  | conA hi hln _ hc hsu _ ih => exact .conA hi hln hc (fun a _ _ pn => hsu a pn) ih
theorem HdsMA.ios {hds : List ExceptHandler} {l : List (Nat × Option Nat × (Env → Out))} (h : HdsMA X C io hds l) : ∀ j i m, (j, some i, m) ∈ l → i ∉ io := by
  induction h with
  | nil => intro j i m z; cases z
  | cons _ _ _ ih =>
    intro j i m z
    rcases List.mem_cons.mp z with z | z
    · cases z
    · exact ih j i m z
  | conA _ _ hio _ _ _ ih =>
    intro j i m z
    rcases List.mem_cons.mp z with z | z
    · cases z; exact hio
    · exact ih j i m z
theorem catchA_ok {K : PySem.W.Frag} {t : Nat → Nat → Option Bool} {E : Ends} {σ' : L2.St} {ρ' : Mp.Env} {c' : Nat → List Addr} {S : Addr → Prop} {H' : Hp} {k : Nat} {pl : List (Str × D)} {d : Option Addr} (ht : ∀ k j b, t k j = some b → PySem.W.exmOne K (.ref (C.ca k)) (.ref (C.ca j)) = some b)
    (sr' : SR C.K σ' H' ρ' c' S) (xp : XP H' (Mp.Own c' S) d pl) : ∀ l : List (Nat × Option Nat × (Env → Out)), (∀ j i m, (j, some i, m) ∈ l → i ∉ io) → SW C W io E σ' ρ' c' S H' (catchA t C.ca k pl ρ' l) → wManyA K W E (hdTA C io l) (.ref (C.ca k)) d σ' H'
  | [], _, h' => h' σ' H' c' d sr' Stp.refl xp
  | (j, none, ms) :: r, hl, h' => by
    unfold catchA at h'
    split at h'
    · next e2 =>
      refine ⟨true, ht _ _ _ e2, fun _ a _ => ⟨ρ', c', S, sr', ?_⟩, fun z => by cases z⟩
      show SW C WN io E σ' ρ' c' S H' (ms ρ')
      simp only at h'
      cases e3 : ms ρ' with
      | nx ρ2 => rw [e3] at h'; exact h'
      | rt r ρ2 => rw [e3] at h'; exact h'
      | bk ρ2 => rw [e3] at h'; exact h'
      | ct ρ2 => rw [e3] at h'; exact h'
      | stuck => rw [e3] at h'; exact h'
      | ex k2 pl2 ρ2 => rw [e3] at h'; exact h'.elim
    · next e2 => exact ⟨false, ht _ _ _ e2, fun z => (by cases z), fun _ => catchA_ok ht sr' xp r (fun j i m z => hl j i m (List.mem_cons_of_mem _ z)) h'⟩
    · exact h'.elim
  | (j, some i, ms) :: r, hl, h' => by
    have hio : i ∉ io := hl j i ms List.mem_cons_self
    unfold catchA at h'
    split at h'
    · next e2 =>
      refine ⟨true, ht _ _ _ e2, fun _ => ⟨C.ca k, rfl, fun a na => ⟨ρ'.set i (some (exoR k (C.ca k) pl)), cut c' i, S, (sr'.ex (Ex.new na)).setV' (exo_rp xp na sr'.trk), ?_⟩⟩, fun z => by cases z⟩
      simp only at h'
      have st0 : Stp io σ' ρ' c' H' (σ'.set i (some (.ref a))) (ρ'.set i (some (exoR k (C.ca k) pl))) (cut c' i) (upd H' a (exT a (C.ca k) d)) := (Stp.ex (Ex.new na)).trans (Stp.setV hio)
      have st1 : ∀ {σ2 : L2.St} {ρ2 : Mp.Env} {c2 : Nat → List Addr} {H2 : Hp}, Stp io σ2 ρ2 c2 H2 (σ2.set i none) (ρ2.set i none) (cut c2 i) H2 := fun {σ2 ρ2 c2 H2} =>
        ⟨fun a o _ q => q, fun a o q => ⟨o, q⟩, fun a q => .inl (cut_cel q), fun j d q => ⟨(set_none q).1, List.getElem?_set_ne (set_none q).2⟩, fun j hj => by unfold cut; rw [if_neg]; intro z; subst z; exact hio hj⟩
      show SW C WN io (unE i E) (σ'.set i (some (.ref a))) (ρ'.set i (some (exoR k (C.ca k) pl))) (cut c' i) S (upd H' a (exT a (C.ca k) d)) (ms (ρ'.set i (some (exoR k (C.ca k) pl))))
      cases e3 : ms (ρ'.set i (some (exoR k (C.ca k) pl))) with
      | nx ρ2 => rw [e3] at h'; exact fun σ2 H2 c2 s2 st => h' _ H2 _ (s2.drop i) ((st0.trans st).trans st1)
      | bk ρ2 => rw [e3] at h'; exact fun σ2 H2 c2 s2 st => h' _ H2 _ (s2.drop i) ((st0.trans st).trans st1)
      | ct ρ2 => rw [e3] at h'; exact fun σ2 H2 c2 s2 st => h' _ H2 _ (s2.drop i) ((st0.trans st).trans st1)
      | rt r ρ2 => rw [e3] at h'; exact fun v σ2 H2 c2 s2 st rt => h' v σ2 H2 c2 s2 (st0.trans st) (rt.before st0)
      | stuck => rw [e3] at h'; exact h'
      | ex k2 pl2 ρ2 => rw [e3] at h'; exact h'.elim
    · next e2 => exact ⟨false, ht _ _ _ e2, fun z => (by cases z), fun _ => catchA_ok ht sr' xp r (fun j i m z => hl j i m (List.mem_cons_of_mem _ z)) h'⟩
    · exact h'.elim
theorem ps_tryMA {body orelse : List Stmt} {hds : List ExceptHandler} {h₀ : ExceptHandler} {mb mo : Env → Out} {l : List (Nat × Option Nat × (Env → Out))} {t : Nat → Nat → Option Bool} (hN : X.N.Nodup) (hs : X.stack = X.env :: X.outer) (hf : X.env.frame = some X.env.locals) (tk : Takes X W)
    (ht : ∀ k j b, t k j = some b → PySem.W.exmOne X.K (.ref (C.ca k)) (.ref (C.ca j)) = some b)
    (hb : ∀ (W : WX) (pn : List (Addr × Obj)) (xe : Value → Shared → Prop), Takes (X.tr pn xe) W → PassesOwn (model X.prog X.w) X.A X.env xe → PSs (X.tr pn xe) body (tS C W io mb))
    (hh : HdsMA X C io (h₀ :: hds) l) (ho : PSs X orelse (tS C W io mo)) : PS X (.Try body (h₀ :: hds) orelse [] pos) (tS C W io (sTryA t C.ca mb l mo)) :=
  PS.weak (ps_tryAs (tb := fun W => tS C W io mb) ho hN hs hf tk hb hh.ok) fun E σ H ⟨ρ, c, S, sr, h⟩ => by
    refine ⟨ρ, c, S, sr, ?_⟩
    unfold sTryA at h
    cases e1 : mb ρ with
    | nx ρ' =>
      rw [e1] at h
      exact fun σ' H' c' sr' st => ⟨ρ', c', S, sr', SW.after st h⟩
    | rt r ρ' => rw [e1] at h; exact h
    | bk ρ' => rw [e1] at h; exact h
    | ct ρ' => rw [e1] at h; exact h
    | stuck => rw [e1] at h; exact h.elim
    | ex k pl ρ' =>
      rw [e1] at h
      exact fun σ' H' c' d sr' st xp => catchA_ok ht sr' xp l hh.ios (SW.after st h)
end

structure XeK (K : PySem.W.Frag) (C : Addr) : Prop where
  xf : XfC K C
  ha : PySem.W.findIn K (.ref C) "__class__" = some (some (.builtin "object.__class__"))
  hn : PySem.W.specialIn K (.builtin "object.__class__") "__get__" = some (some (.builtin "getset_descriptor.__get__"))
  ht : PySem.W.takesIn K (.builtin "object.__class__") = some true
  hm : PySem.W.mroIn K C (.type "object") = some true
theorem exo_at {X : Cx} {pins : List (Addr × Obj)} {σ : L2.St} {H : Hp} {s : Shared} {a C : Addr} {od : Option Addr} (I : Inv X pins σ H s) (h : H a = some (exT a C od)) : ∃ oe vs, s.heap.get? a = some oe ∧ oe.cls = .ref C ∧ oe.dict = od ∧ oe.data = .fields vs := by
  have q : ObjOk X.prog X.w H s.heap a (exT a C od) := I.hok a _ h
  exact q.1
def tXfT (C : Addr) (f : Str) (te : TE) : TE := fun σ H Q => te σ H fun x H1 => ∃ (a dd : Addr) (fs : List (Str × V)) (v : V), x = .ref a ∧ H1 a = some (exT a C (some dd)) ∧ H1 dd = some (.xd fs) ∧ fs.lookup f = some v ∧ Q v H1
theorem pe_xfT {X : Cx} {C : Addr} {e : Expr} {te : TE} {pos : Pos} {n : Str} (T : XfC X.K C) (hno : PySem.W.findIn X.K (.ref C) n = some none) (he : PE X e te) (hb : attributeBase e n X.env (eval e X.env) = eval e X.env) : PE X (.Attribute e n pos) (tXfT C n te) := by
  refine ⟨fun pins s σ H Q I h => ?_⟩
  refine attr_of hb (thn (he.run pins s σ H _ I h) fun u s1 hh => ?_)
  obtain ⟨x, H1, I1, rx, a, dd, fs, v, ex, e1, e2, l, q⟩ := hh
  subst ex
  obtain rfl : u = Value.ref a := rx
  obtain ⟨oe, vs, ha, hc, hdt, hd⟩ := exo_at I1 e1
  have hx : ObjOk X.prog X.w H1 s1.heap dd (.xd fs) := I1.hok dd _ e2
  obtain ⟨mA, hns, hr⟩ := hx
  obtain ⟨od, ho, hl⟩ := lookIn_ns hns
  obtain ⟨u, hu, ru⟩ := RelO.some_of (v := v) (o := mA n) (by rw [← l]; exact hr n)
  have J : PySem.W.InstAt s1.heap a oe C (some od) := ⟨ha, hc, by unfold PySem.W.notCls; rw [hd] <;> rfl, by rw [hdt]; exact ho⟩
  exact HandSPX.exc_get I1.kIn J T.ga T.gg T.exC (PySem.W.findObj_own T.hdC hno rfl (by rw [hl, hu])) (handed_of ru) ⟨v, H1, I1.tok _, ru, q⟩
def rIsT (K : PySem.W.Frag) : List V → Hp → VK → Prop := fun xs H Q => ∃ (a D : Addr) (od : Option Addr) (c : V) (cv : Value) (b : Bool), xs = [.ref a, c] ∧ H a = some (exT a D od) ∧ (od = none ∨ ∃ dd fs, od = some dd ∧ H dd = some (.xd fs)) ∧ XeK K D ∧ (∀ u, RelV c u → u = cv) ∧ PySem.W.kitOne K (.ref D) cv = some b ∧ Q (.bl b) H
theorem call_isT {X : Cx} : CallR X (.builtin "isinstance") (rIsT X.K) := by
  intro pins s σ H xs us Q I r h
  obtain ⟨a, D, od, c, cv, b, rfl, e1, e2, T, hcv, e, q⟩ := h
  cases r with
  | cons rx rr =>
    cases rr with
    | cons rt rr =>
      cases rr
      cases rx
      have ec := hcv _ rt
      subst ec
      obtain ⟨oe, vs, ha, hc, hdt, hd⟩ := exo_at I e1
      obtain ⟨cd, hcd⟩ : ∃ cd, PySem.W.clsIn X.K D = some cd := by
        obtain ⟨cd, h1, _⟩ := PySem.W.any_some T.xf.hdC
        exact ⟨cd, h1⟩
      have hcl : (PySem.W.clsIn X.K D).isSome = true := by rw [hcd]; rfl
      rcases e2 with rfl | ⟨dd, fs, rfl, e2⟩
      · have J : PySem.W.InstAt s.heap a oe D none := ⟨ha, hc, by unfold PySem.W.notCls; rw [hd] <;> rfl, by rw [hdt]; trivial⟩
        exact PySem.W.kia_one (PySem.W.kitx_exc hcl T.xf.ga T.xf.gg T.xf.exC T.ha T.hn T.ht T.hm) I.kIn J e (fun z => nomatch z) fun tk => ⟨.bl b, H, I.kept (t' := tk) fun _ _ z => z, rfl, q⟩
      · have hx : ObjOk X.prog X.w H s.heap dd (.xd fs) := I.hok dd _ e2
        obtain ⟨mA, hns, hr⟩ := hx
        obtain ⟨od, ho, hl⟩ := lookIn_ns hns
        have J : PySem.W.InstAt s.heap a oe D (some od) := ⟨ha, hc, by unfold PySem.W.notCls; rw [hd] <;> rfl, by rw [hdt]; exact ho⟩
        exact PySem.W.kia_one (PySem.W.kitx_exc hcl T.xf.ga T.xf.gg T.xf.exC T.ha T.hn T.ht T.hm) I.kIn J e (fun z => nomatch z) fun tk => ⟨.bl b, H, I.kept (t' := tk) fun _ _ z => z, rfl, q⟩
def opXf (C : Addr) (f : Str) (x : R) : Res R := match x.d with
  | .exo _ C' ns ds => if C' = C then (match fldGet f ns ds with
    | some d => .ok (.val d)
    | none => .stuck) else .stuck
  | _ => .stuck
def eXf (C : Addr) (f : Str) (m : Env → Res R) (ρ : Env) : Res R := (m ρ).bind (opXf C f)
def opXi (ca : Nat → Addr) (t : Nat → Option Bool) (x : R) : Res R := match x.d with
  | .exo k C' _ _ => if C' = ca k then (match t k with
    | some b => .ok (.val (.bl b))
    | none => .stuck) else .stuck
  | _ => .stuck
def eXi (ca : Nat → Addr) (t : Nat → Option Bool) (m : Env → Res R) (ρ : Env) : Res R := (m ρ).bind (opXi ca t)
theorem RR.exo {K : PySem.W.Frag} {H0 H : Hp} {P : Addr → Prop} {v : V} {r : R} {k : Nat} {C : Addr} {ns : List Str} {ds : List D} (h : RR K H0 H P v r) (e : r.d = .exo k C ns ds) : Rp H P v (.exo k C ns ds) := by
  have := h.sc (by rw [e]; rfl)
  rw [e] at this
  exact this
end Mp
namespace Mp
open PySem L2
section
variable {X : Cx} {C : Cn} {W : WX} {e : Expr} {m : Env → Res R} {CA : Addr} {f x : Str} {p p' pos : Pos}
theorem pe_xfM (T : XfC X.K CA) (hno : PySem.W.findIn X.K (.ref CA) f = some none) (he : PE X e (tM C W m)) (hb : attributeBase e f X.env (eval e X.env) = eval e X.env) : PE X (.Attribute e f pos) (tM C W (eXf CA f m)) :=
  PE.weak (pe_xfT T hno he hb) fun σ H Q ⟨ρ, c', S, sr, q⟩ => ⟨ρ, c', S, sr, (RW.bind q).imp fun v H1 ⟨r, x1, r1, q1⟩ => by
    unfold opXf at q1
    split at q1
    · next k C' ns ds e1 =>
      split at q1
      · next ec =>
        subst ec
        split at q1
        · next d e2 =>
          have rp := r1.exo e1
          simp only [Rp] at rp
          obtain ⟨a, od, rfl, np, ha, hh⟩ := rp
          rcases hh with ⟨rfl, rfl, rfl⟩ | ⟨dd, fs, rfl, nd, hd, rfl, r4⟩
          · simp [fldGet] at e2
          · have hr := fld_rel f r4
            rw [e2] at hr
            cases e3 : fs.lookup f with
            | none => rw [e3] at hr; exact hr.elim
            | some y =>
              rw [e3] at hr
              exact ⟨a, dd, fs, y, rfl, ha, hd, e3, q1 y H1 (Ex.refl _) hr⟩
        · exact q1.elim
      · exact q1.elim
    · exact q1.elim⟩
theorem xi_read {cv : Value} {c : V} {t : Nat → Option Bool} (hK : X.K = C.K) (hcv : ∀ u, RelV c u → u = cv) (hT : ∀ k b, t k = some b → XeK X.K (C.ca k) ∧ PySem.W.kitOne X.K (.ref (C.ca k)) cv = some b) {P : Addr → Prop} {σ : L2.St} {H0 H : Hp} {Q : VK} {v : V} {r : R} (r1 : RR C.K H0 H P v r) (q : RW C W P σ H (opXi C.ca t r) Q) : rIsT X.K [v, c] H Q := by
  unfold opXi at q
  split at q
  · next k C' ns ds e1 =>
    split at q
    · next ec =>
      subst ec
      split at q
      · next b e2 =>
        have rp := r1.exo e1
        simp only [Rp] at rp
        obtain ⟨a, od, rfl, np, ha, hh⟩ := rp
        obtain ⟨T, hk⟩ := hT k b e2
        refine ⟨a, _, od, c, cv, b, rfl, ha, ?_, T, hcv, hk, rw_bl q⟩
        rcases hh with ⟨rfl, _⟩ | ⟨dd, fs, rfl, _, hd, _⟩
        · exact .inl rfl
        · exact .inr ⟨dd, fs, rfl, hd⟩
      · exact q.elim
    · exact q.elim
  · exact q.elim
theorem pe_xiM {t : Nat → Option Bool} (hK : X.K = C.K) (hg : Gl X "isinstance") (hm : X.mg "isinstance" = none) (hgC : Gl X x) (hmC : X.mg x = some (.ref CA)) (hdb : (x == ("__debug__" : Str)) = false) (hT : ∀ k b, t k = some b → XeK X.K (C.ca k) ∧ PySem.W.kitOne X.K (.ref (C.ca k)) (.ref CA) = some b) (he : PE X e (tM C W m)) (hst : noStar e = true) :
    PE X (.Call (.Name "isinstance" p) [e, .Name x p'] [] pos) (tM C W (eXi C.ca t m)) := by
  refine PE.weak (pe_callB call_isT hg hm (by decide +kernel) (pa_cons he (pa_cons (pe_glob (v := .ref CA) hgC hmC rfl hdb) pa_nil (starEach_cons rfl)) (starEach_cons hst)) (by decide) (by decide) (starEach_cons hst) (starEach_any rfl)) fun σ H Q ⟨ρ, c', S, sr, q⟩ => ?_
  exact ⟨ρ, c', S, sr, (RW.bind q).imp fun v H1 ⟨r, x1, r1, q1⟩ => xi_read hK (fun u z => by cases z; rfl) hT r1 q1⟩
theorem pe_xvM {t : Nat → Option Bool} (hK : X.K = C.K) (hg : Gl X "isinstance") (hm : X.mg "isinstance" = none) (hgC : Gl X "ValueError") (hmC : X.mg "ValueError" = none) (hT : ∀ k b, t k = some b → XeK X.K (C.ca k) ∧ PySem.W.kitOne X.K (.ref (C.ca k)) (.type "ValueError") = some b) (he : PE X e (tM C W m)) (hst : noStar e = true) :
    PE X (.Call (.Name "isinstance" p) [e, .Name "ValueError" p'] [] pos) (tM C W (eXi C.ca t m)) := by
  refine PE.weak (pe_callB call_isT hg hm (by decide +kernel) (pa_cons he (pa_cons (pe_bltn (v := .ty "ValueError") hgC hmC (by decide +kernel) rfl (by decide) (by decide)) pa_nil (starEach_cons rfl)) (starEach_cons hst)) (by decide) (by decide) (starEach_cons hst) (starEach_any rfl)) fun σ H Q ⟨ρ, c', S, sr, q⟩ => ?_
  exact ⟨ρ, c', S, sr, (RW.bind q).imp fun v H1 ⟨r, x1, r1, q1⟩ => xi_read hK (fun u z => by cases z; rfl) hT r1 q1⟩
theorem kit_ref {K : PySem.W.Frag} {c C : Addr} {cd : ClassData} {b : Bool} (ne : c ≠ C ∨ b = true) (h2 : PySem.W.clsIn K C = some cd) (h3 : PySem.W.typeIn K (.ref C) = some (.type "type")) (h4 : PySem.W.subIn K (.ref c) (.ref C) = some b) : PySem.W.kitOne K (.ref c) (.ref C) = some b := by
  unfold PySem.W.kitOne PySem.W.kitCls
  by_cases e : c = C
  · subst e
    rcases ne with ne | rfl
    · exact absurd rfl ne
    · rw [if_pos (by simp)]
  · rw [if_neg (by simpa using e)]
    show (if ((PySem.W.clsIn K C).isSome && PySem.W.typeIn K (.ref C) == some (.type "type")) = true then PySem.W.subIn K (.ref c) (.ref C) else none) = some b
    rw [h2, h3, h4]
    rfl
theorem kit_ve {K : PySem.W.Frag} {c : Addr} {b : Bool} (h4 : PySem.W.subIn K (.ref c) (.type "ValueError") = some b) : PySem.W.kitOne K (.ref c) (.type "ValueError") = some b := by
  unfold PySem.W.kitOne PySem.W.kitCls
  rw [if_neg (by simp)]
  show (if PySem.W.kitMeta "ValueError" = true then PySem.W.subIn K (.ref c) (.type "ValueError") else none) = some b
  rw [if_pos (by decide +kernel), h4]
end
end Mp

namespace Mp
open PySem L2

section
open PySem.W PySem.Calls PyProof.Rows PyProof.V PySem.Spec
variable {prog : Program} {w : World} {K : Type} [DecidableEq K] {knd : HeapKind prog w K} {A : Around} {E : Value → Shared → Prop}
def CarriesH (knd : HeapKind prog w K) (h : Heap) : List (Value × Value) → List (K × Addr × Value) → Prop
  | [], [] => True
  | (key, v) :: vs, (k, a, v') :: xs => key = .ref a ∧ knd.is h k a ∧ v = v' ∧ CarriesH knd h vs xs
  | _, _ => False
theorem CarriesH.keeps {h h' : Heap} {d : Addr} {o : Obj} {es ep} (ho : h.get? d = some o) (hd : o.data = .dict es ep) (hs : Heap.SameBut d h h') : ∀ {vs : List (Value × Value)} {xs : List (K × Addr × Value)}, CarriesH knd h vs xs → CarriesH knd h' vs xs
  | [], [], _ => trivial
  | (key, v) :: vs, (k, a, v') :: xs, q => ⟨q.1, knd.keeps q.2.1 ho hd hs, q.2.2.1, CarriesH.keeps ho hd hs q.2.2.2⟩
  | [], _ :: _, q => q.elim
  | _ :: _, [], q => q.elim
theorem CarriesH.length {h : Heap} : ∀ {vs : List (Value × Value)} {xs : List (K × Addr × Value)}, CarriesH knd h vs xs → xs.length = vs.length
  | [], [], _ => rfl
  | (_, _) :: _, (_, _, _) :: _, q => by rw [List.length_cons, List.length_cons, CarriesH.length q.2.2.2]
  | [], _ :: _, q => q.elim
  | _ :: _, [], q => q.elim
def mergedH (acc : List (K × Addr × Value)) (xs : List (K × Addr × Value)) : List (K × Addr × Value) := xs.foldl (fun acc x => storedH acc x.1 x.2.1 x.2.2) acc
theorem storedH_len (xs : List (K × Addr × Value)) (k : K) (a : Addr) (v : Value) : (storedH xs k a v).length ≤ xs.length + 1 := by
  unfold storedH
  split <;> simp
theorem storeAllH {d : Addr} (hu : knd.room A) : ∀ (vs : List (Value × Value)) (xs acc : List (K × Addr × Value)) (s : Shared) (Q : PUnit → Shared → Prop), CarriesH knd s.heap vs xs → s.heap.DictOfH knd d acc → acc.length + xs.length ≤ sizeLine →
    (∀ h' tk, h'.DictOfH knd d (mergedH acc xs) → Heap.SameBut d s.heap h' → Q PUnit.unit { s with heap := h', toks := tk }) →
    wpAny (model prog w) A (forIn vs PUnit.unit fun (x : Value × Value) (_ : PUnit) => (do dictSet d x.1 x.2; pure (ForInStep.yield PUnit.unit) : Sem (ForInStep PUnit))) Q E s
  | [], [], acc, s, Q, _, hm, _, hQ => by
    rw [List.forIn_nil]
    exact wpAny_pure (hQ s.heap s.toks hm (Heap.SameBut.refl _ _))
  | (key, v) :: vs, (k, a, v') :: xs, acc, s, Q, hc, hm, hsz, hQ => by
    obtain ⟨rfl, hkey, rfl, hc'⟩ := hc
    rw [List.length_cons] at hsz
    rw [List.forIn_cons]
    refine wpAny_bind (wpAny_bind (wpAny_dictSet_heap (hsz := by omega) hu hkey hm fun h₁ hm₁ hs₁ => wpAny_pure ?_))
    obtain ⟨o, es, ep, ho, _, hd, _⟩ := id hm
    refine storeAllH hu vs xs (storedH acc k a v) _ Q (CarriesH.keeps ho hd hs₁ hc') hm₁ (by have := storedH_len acc k a v; omega) fun h' tk hm' hs' => ?_
    exact hQ h' tk hm' (hs₁.trans hs')
  | [], _ :: _, _, _, _, hc, _, _, _ => hc.elim
  | _ :: _, [], _, _, _, hc, _, _, _ => hc.elim
theorem subDictH {s : Shared} {pairs : List (Sem Value × Sem Value)} {Q : Addr → Shared → Prop} (hu : knd.room A) (hlen : pairs.length ≤ 15)
    (h : wpAny (model prog w) A (evalPairs pairs) (fun vs s₁ => ∃ xs, CarriesH knd s₁.heap vs xs ∧ s₁.heap.DictOfH knd s.heap.objs.size [] ∧
      ∀ h' tk, h'.DictOfH knd s.heap.objs.size (mergedH [] xs) → Heap.SameBut s.heap.objs.size s₁.heap h' → Q s.heap.objs.size { s₁ with heap := h', toks := tk }) E
      { s with heap := s.heap.push { cls := .type "dict", data := .dict #[] } }) :
    wpAny (model prog w) A (subDict pairs) Q E s := by
  unfold subDict
  refine wpAny_bind (wpAny_alloc ?_)
  refine wpAny_bind (wpAny_holding ?_)
  rw [if_pos hlen]
  refine wpAny_bind (wpAny_mono (wpAny_evalPairs_len h) (fun vs s₁ h₁ => ?_) fun _ _ e => e)
  obtain ⟨hvl, xs, hc, hm, hQ⟩ := h₁
  have hsz : ([] : List (K × Addr × Value)).length + xs.length ≤ sizeLine := by
    have e := hc.length
    rw [sizeLine_eq, List.length_nil]; omega
  refine wpAny_holding ?_
  exact wpAny_bind (storeAllH (knd := knd) hu vs xs [] s₁ _ hc hm hsz fun h' tk hm' hs' => wpAny_pure (wpAny_pure (hQ h' tk hm' hs')))
theorem dispH {s : Shared} {env : PySem.Env} {keys : List (Option Expr)} {values : List Expr} {pos : Pos} {Q : Value → Shared → Prop} (hu : knd.room A)
    (hall : keys.all (·.isSome) = true) (hl : keys.length = values.length) (h0 : keys ≠ []) (hlen : keys.length ≤ 15)
    (h : wpAny (model prog w) A (evalPairs (pairTrees keys values env pos)) (fun vs s₁ => ∃ xs, CarriesH knd s₁.heap vs xs ∧ s₁.heap.DictOfH knd s.heap.objs.size [] ∧
      ∀ h' tk, h'.DictOfH knd s.heap.objs.size (mergedH [] xs) → Heap.SameBut s.heap.objs.size s₁.heap h' → Q (.ref s.heap.objs.size) { s₁ with heap := h', toks := tk }) E
      { s with heap := s.heap.push { cls := .type "dict", data := .dict #[] } }) :
    wpAny (model prog w) A (eval (.Dict keys values pos) env) Q E s := by
  have hn := pairTrees_length keys values env pos hall hl
  have hne : pairTrees keys values env pos ≠ [] := fun he => by
    rw [he] at hn
    exact h0 (List.length_eq_zero_iff.mp hn.symm)
  rw [arm_eval_Dict, zip_pairTrees keys values env pos hall hl, dictDisplay_pairs _ hne (by omega)]
  exact wpAny_bind (wpAny_standAt (wpAny_bind (subDictH (knd := knd) (Q := fun d s' => wpAny (model prog w) A (pure (Value.ref d)) Q E s') hu (by omega)
    (wpAny_mono h (fun vs s₁ h₁ => by obtain ⟨xs, hc, hm, hq⟩ := h₁; exact ⟨xs, hc, hm, fun h' tk a b => wpAny_pure (hq h' tk a b)⟩) fun _ _ e => e))))
end
def mergeT (kvs more : List (List Key × V)) : List (List Key × V) := more.foldl (fun acc kv => putK acc kv.1 kv.2) kvs
def PrT (H : Hp) (q : V × V) (kv : List Key × V) : Prop := ∃ b, q.1 = .ref b ∧ H b = some (.tup (kv.1.map kV)) ∧ q.2 = kv.2
theorem mergeT_len : ∀ (more kvs : List (List Key × V)), (mergeT kvs more).length ≤ kvs.length + more.length
  | [], kvs => by show kvs.length ≤ kvs.length + 0; omega
  | p :: r, kvs => by
    have h1 := mergeT_len r (putK kvs p.1 p.2)
    have h2 := length_putK kvs p.1 p.2
    show (mergeT (putK kvs p.1 p.2) r).length ≤ _
    rw [List.length_cons]; omega
theorem carriesT {P : Program} {w : World} {H : Hp} {h : Heap} (ok : HOk P w H h) {ps : List (V × V)} {kvs : List (List Key × V)} (r : Paired (PrT H) ps kvs) : ∀ {ws : List (Value × Value)}, VV ps ws → ∃ xs, CarriesH (tupleKind (mixKind P w)) h ws xs ∧ KT H kvs xs := by
  induction r with
  | nil =>
    intro ws v
    cases v
    exact ⟨[], True.intro, .nil⟩
  | @cons p kv ps kvs h1 h2 ih =>
    intro ws v
    cases v with
    | @cons a b as bs hh t =>
      obtain ⟨xs, c, q⟩ := ih t
      obtain ⟨ad, e1, e2, e3⟩ := h1
      obtain ⟨b1, b2⟩ := b
      obtain ⟨r1, r2⟩ := hh
      rw [e1] at r1
      obtain rfl : b1 = Value.ref ad := r1
      rw [e3] at r2
      exact ⟨(kv.1, ad, b2) :: xs, ⟨rfl, key_of ok e2, rfl, c⟩, .cons ⟨rfl, e2, r2⟩ q⟩
theorem KT.merge {H : Hp} : ∀ {more : List (List Key × V)} {rs : List (List Key × Addr × Value)} {kvs : List (List Key × V)} {xs : List (List Key × Addr × Value)}, KT H more rs → KT H kvs xs → KT H (mergeT kvs more) (mergedH xs rs) := by
  intro more rs kvs xs r
  unfold KT at r
  induction r generalizing kvs xs with
  | nil => intro q; exact q
  | @cons p q ps qs h t ih =>
    intro r0
    obtain ⟨k, ad, y⟩ := q
    obtain ⟨h1, h2, h3⟩ := h
    have h1' : p.1 = k := h1
    subst h1'
    exact ih (r0.put p.1 h2 h3)
def tDispT (trs : List (TE × TE)) : TE := fun σ H Q => ∀ p, H p = none → tPairs trs σ (upd H p (.dT [])) fun ps H2 => H2 p = some (.dT []) ∧ ∃ kvs : List (List Key × V), Paired (PrT H2) ps kvs ∧ kvs.length ≤ 15 ∧ Q (.ref p) (upd H2 p (.dT (mergeT [] kvs)))
theorem pe_dispT {X : Cx} {pos : Pos} {keys : List (Option Expr)} {values : List Expr} {trs : List (TE × TE)} (hu : X.A.units + 1 < cLine) (h : PPs X pos keys values trs) (hall : keys.all (·.isSome) = true) (hl : keys.length = values.length) (h0 : keys ≠ [])
    (h15 : keys.length ≤ 15) : PE X (.Dict keys values pos) (tDispT trs) := by
  refine ⟨fun pins s σ H Q I q => ?_⟩
  have hn := I.hok.fresh (Nat.le_refl s.heap.objs.size)
  have I1 := I.laid (a := s.heap.objs.size) (o := .dT []) (h' := s.heap.push { cls := .type "dict", data := .dict #[] }) (t' := s.toks) (fun _ _ q => Heap.get?_push_of_some _ q) (Nat.le_refl _) (dt_empty s.heap I.big)
  refine dispH (knd := tupleKind (mixKind X.prog X.w)) (show X.A.units < cLine by omega) hall hl h0 h15 (thn (h.run pins _ σ _ _ I1 (q _ hn)) fun ws s2 ⟨ps, H2, I2, rel, e, kvs, pp, lk, q2⟩ => ?_)
  obtain ⟨xs, c, rk⟩ := carriesT I2.hok pp rel
  obtain ⟨z, hd, xs0, r0, dd⟩ := dt_of I2.hok e
  cases r0
  refine ⟨xs, c, dd, fun h' tk dd' hs => ⟨.ref s.heap.objs.size, _, ?_, rfl, q2⟩⟩
  have hz : (mergeT [] kvs).length ≤ sizeLine := by
    have h1 := mergeT_len kvs []
    rw [List.length_nil] at h1
    rw [sizeLine_eq]; omega
  obtain ⟨ob, es, ep, hq, h2, h3, h4, _, h5⟩ := dd'
  refine d_write I2 (by rw [e]; exact True.intro) hs ⟨ob, hq⟩ ⟨hz, hd, _, (KT.merge rk .nil).keeps fun c ys ec => ?_, ob, es, ep, hq, h2, h3, h4, h5⟩
  rw [upd_ne (ne_of ec e (fun z => nomatch z))]
  exact ec

def dispGo (tk : Bool) : List R → List D → List D → Option (List D × List D)
  | [], ks, vs => some (ks, vs)
  | k :: v :: r, ks, vs => match dKey tk k, v.froz with
    | some kk, some dd => dispGo tk r (dctPutK ks kk) (dctPutV ks vs kk dd)
    | _, _ => none
  | [_], _, _ => none
def dispR (tk : Bool) (rs : List R) : Res R := match dispGo tk rs [] [] with
  | some (ks, vs) => if rs.length ≤ 30 then .ok (.own (.dct tk ks vs)) else .stuck
  | none => .stuck
def eDisp (tk : Bool) (ms : List (Env → Res R)) (ρ : Env) : Res R := (eArgs ms ρ).bind (dispR tk)
def flatP (ps : List (V × V)) : List V := ps.flatMap fun p => [p.1, p.2]
section
variable {X : Cx} {C : Cn} {W : WX}
theorem pairs_of {σ : L2.St} {ρ : Mp.Env} {c : Nat → List Addr} {S : Addr → Prop} : ∀ (l : List ((Env → Res R) × (Env → Res R))) {H : Hp} {Q : List V → Hp → Prop}, SR C.K σ H ρ c S → RWs C W (Mp.Own c S) σ H (eArgs (l.flatMap fun p => [p.1, p.2]) ρ) Q →
    tPairs (l.map fun p => (tM C W p.1, tM C W p.2)) σ H fun ps H' => Q (flatP ps) H'
  | [], H, Q, sr, q => q [] H (Ex.refl _) .nil
  | (mk, mv) :: l, H, Q, sr, q => by
    simp only [List.flatMap_cons, List.cons_append, List.nil_append, eArgs] at q
    show tM C W mk σ H fun x H1 => tM C W mv σ H1 fun y H2 => tPairs _ σ H2 fun ps H3 => Q (flatP ((x, y) :: ps)) H3
    refine ⟨ρ, c, S, sr, ?_⟩
    cases e1 : mk ρ with
    | stuck => rw [e1] at q; exact q.elim
    | exc k pl => rw [e1] at q; exact q
    | ok r1 =>
      rw [e1] at q
      simp only at q
      intro v H1 x1 q1
      refine ⟨ρ, c, S, sr.ex x1, ?_⟩
      cases e2 : mv ρ with
      | stuck => rw [e2] at q; exact q.elim
      | exc k pl => rw [e2] at q; exact fun H' d x2 p => q H' d (x1.trans x2) p
      | ok r2 =>
        rw [e2] at q
        simp only at q
        intro u H2 x2 q2
        show tPairs _ σ H2 fun ps H3 => (fun vs H3 => Q (v :: u :: vs) H3) (flatP ps) H3
        refine pairs_of l (Q := fun vs H3 => Q (v :: u :: vs) H3) ((sr.ex x1).ex x2) ?_
        cases e3 : eArgs (l.flatMap fun p => [p.1, p.2]) ρ with
        | stuck => rw [e3] at q; exact q.elim
        | exc k pl => rw [e3] at q; exact fun H' d x3 p => q H' d ((x1.trans x2).trans x3) p
        | ok rs =>
          rw [e3] at q
          intro vs H3 x3 q3
          exact q (v :: u :: vs) H3 ((x1.trans x2).trans x3) (.cons (q1.mono (Ex.refl _) (x2.trans x3)) (.cons (q2.mono x1 x3) (Pd.mono (x1.trans x2) (Ex.refl _) q3)))
theorem Ppd.inv2 {K : PySem.W.Frag} {H0 H : Hp} {P : Addr → Prop} {ps : List (V × V)} {rs : List R} (h : Paired (RR K H0 H P) (flatP ps) rs) : (ps = [] ∧ rs = []) ∨ ∃ p ps' r1 r2 rs', ps = p :: ps' ∧ rs = r1 :: r2 :: rs' ∧ RR K H0 H P p.1 r1 ∧ RR K H0 H P p.2 r2 ∧ Paired (RR K H0 H P) (flatP ps') rs' := by
  cases ps with
  | nil => cases h; exact .inl ⟨rfl, rfl⟩
  | cons p ps =>
    have h' : Paired (RR K H0 H P) (p.1 :: p.2 :: flatP ps) rs := h
    cases h' with
    | cons a t =>
      cases t with
      | cons b t => exact .inr ⟨p, ps, _, _, _, rfl, rfl, a, b, t⟩
theorem disp_K {K : PySem.W.Frag} {H0 H : Hp} {P : Addr → Prop} : ∀ (n : Nat) {ps : List (V × V)} {rs : List R} {kvs : List (Key × V)} {ds ks' ds' : List D}, rs.length ≤ n → Paired (RR K H0 H P) (flatP ps) rs → (∀ p ∈ kvs, ∀ x, p.1 = .inr x → strOk x = true) → Rps H P (kvs.map (·.2)) ds →
    dispGo false rs (kvs.map fun p => kD p.1) ds = some (ks', ds') → ∃ more : List (Key × V), ps = more.map (fun kv => (kV kv.1, kv.2)) ∧ ks' = (mergeK kvs more).map (fun p => kD p.1) ∧ (∀ p ∈ mergeK kvs more, ∀ x, p.1 = .inr x → strOk x = true) ∧ Rps H P ((mergeK kvs more).map (·.2)) ds'
  | n, ps, rs, kvs, ds, ks', ds', hn, hp, ho, hr, e => by
    rcases Ppd.inv2 hp with ⟨rfl, rfl⟩ | ⟨p, ps, r1, r2, rs, rfl, rfl, a, b, t⟩
    · simp only [dispGo, Option.some.injEq, Prod.mk.injEq] at e
      obtain ⟨rfl, rfl⟩ := e
      exact ⟨[], rfl, rfl, ho, hr⟩
    · cases n with
      | zero => simp at hn
      | succ n =>
        simp only [dispGo] at e
        split at e
        · next kk dd ek ed =>
          obtain ⟨key, rfl, e1, hk⟩ := key_K a ek
          have rd := b.froz ed
          obtain ⟨p1, p2⟩ := put_rel keq_kD key rd hr
          rw [← p1] at e
          obtain ⟨more, q1, q2, q3, q4⟩ := disp_K n (kvs := putK kvs key p.2) (by simp only [List.length_cons] at hn; omega) t (fun p' hp' y hy => by
            rcases putK_mem hp' with e | ⟨q, hq, e⟩
            · exact hk y (e ▸ hy)
            · exact ho q hq y (e.trans hy)) p2 e
          refine ⟨(key, p.2) :: more, ?_, q2, q3, q4⟩
          rw [List.map_cons, ← q1, ← e1]
        · cases e
theorem disp_T {K : PySem.W.Frag} {H0 H : Hp} {P : Addr → Prop} : ∀ (n : Nat) {ps : List (V × V)} {rs : List R} {kvs : List (List Key × V)} {ds ks' ds' : List D}, rs.length ≤ n → Paired (RR K H0 H P) (flatP ps) rs → (∀ p ∈ kvs, ∀ x, Sum.inr x ∈ p.1 → strOk x = true) → Rps H P (kvs.map (·.2)) ds →
    dispGo true rs (kvs.map fun p => ksD p.1) ds = some (ks', ds') → ∃ more : List (List Key × V), Paired (PrT H) ps more ∧ ks' = (mergeT kvs more).map (fun p => ksD p.1) ∧ (∀ p ∈ mergeT kvs more, ∀ x, Sum.inr x ∈ p.1 → strOk x = true) ∧ Rps H P ((mergeT kvs more).map (·.2)) ds'
  | n, ps, rs, kvs, ds, ks', ds', hn, hp, ho, hr, e => by
    rcases Ppd.inv2 hp with ⟨rfl, rfl⟩ | ⟨p, ps, r1, r2, rs, rfl, rfl, a, b, t⟩
    · simp only [dispGo, Option.some.injEq, Prod.mk.injEq] at e
      obtain ⟨rfl, rfl⟩ := e
      exact ⟨[], .nil, rfl, ho, hr⟩
    · cases n with
      | zero => simp at hn
      | succ n =>
        simp only [dispGo] at e
        split at e
        · next kk dd ek ed =>
          obtain ⟨key, ad, rfl, e1, hb, hk⟩ := key_T a ek
          have rd := b.froz ed
          obtain ⟨p1, p2⟩ := put_rel keq_ksD key rd hr
          rw [← p1] at e
          obtain ⟨more, q1, q2, q3, q4⟩ := disp_T n (kvs := putK kvs key p.2) (by simp only [List.length_cons] at hn; omega) t (fun p' hp' y hy => by
            rcases putK_mem hp' with e | ⟨q, hq, e⟩
            · exact hk y (e ▸ hy)
            · exact ho q hq y (by rw [e]; exact hy)) p2 e
          exact ⟨(key, p.2) :: more, .cons ⟨ad, e1, hb, rfl⟩ q1, q2, q3, q4⟩
        · cases e
theorem tPairs_imp {C : Cn} {W : WX} {σ : L2.St} : ∀ {l : List ((Env → Res R) × (Env → Res R))} {H : Hp} {Q Q' : List (V × V) → Hp → Prop}, tPairs (l.map fun p => (tM C W p.1, tM C W p.2)) σ H Q → (∀ ps H', Q ps H' → Q' ps H') → tPairs (l.map fun p => (tM C W p.1, tM C W p.2)) σ H Q'
  | [], H, Q, Q', h, k => k _ _ h
  | (mk, mv) :: l, H, Q, Q', h, k => by
    obtain ⟨ρ, c, S, sr, q⟩ := (show tM C W mk σ H _ from h)
    refine ⟨ρ, c, S, sr, q.imp fun x H1 q1 => ?_⟩
    obtain ⟨ρ, c, S, sr, q⟩ := (show tM C W mv σ H1 _ from q1)
    exact ⟨ρ, c, S, sr, q.imp fun y H2 q2 => tPairs_imp q2 fun ps H3 q3 => k _ _ q3⟩
theorem SR.addS {K : PySem.W.Frag} {σ : L2.St} {H : Hp} {ρ : Mp.Env} {c : Nat → List Addr} {S : Addr → Prop} (h : SR K σ H ρ c S) {p : Addr} (hp : H p = none) (o : HO) : SR K σ (L2.upd H p o) ρ c (fun a => S a ∨ a = p) where
  len := h.len
  rep := fun i r e => by
    obtain ⟨v, h1, h2⟩ := h.rep i r e
    refine ⟨v, h1, h2.move (fun a o _ q => Ex.new hp a o q) (fun a o n _ => n) (fun a o _ q => Ex.new hp a o q) (fun a o n q z => ?_) fun a ha => ?_⟩
    · rcases z with z | z | z
      · exact n (.inl z)
      · exact n (.inr z)
      · subst z; rw [hp] at q; cases q
    · obtain ⟨o', q⟩ := h.trk a (.inl ⟨i, ha⟩)
      rw [upd_ne (ne_of_none q hp)]
  off := h.off
  dis := h.dis
  sep := fun i a ha z => z.elim (h.sep i a ha) fun z => by
    subst z
    obtain ⟨o', q⟩ := h.trk a (.inl ⟨i, ha⟩)
    rw [hp] at q
    cases q
  trk := fun a z => by
    rcases z with z | z | z
    · obtain ⟨o', q⟩ := h.trk a (.inl z); exact ⟨o', Ex.new hp a o' q⟩
    · obtain ⟨o', q⟩ := h.trk a (.inr z); exact ⟨o', Ex.new hp a o' q⟩
    · subst z; exact ⟨o, upd_same⟩
theorem disp_len : ∀ {ps : List (V × V)} {rs : List R} {K : PySem.W.Frag} {H0 H : Hp} {P : Addr → Prop}, Paired (RR K H0 H P) (flatP ps) rs → rs.length = 2 * ps.length
  | [], rs, K, H0, H, P, h => by cases h; rfl
  | p :: ps, rs, K, H0, H, P, h => by
    rcases Ppd.inv2 h with ⟨e, _⟩ | ⟨p', ps', r1, r2, rs', e, rfl, a, b, t⟩
    · cases e
    · cases e
      have := disp_len t
      simp only [List.length_cons]
      omega
theorem pe_dispM {tk : Bool} {pos : Pos} {keys : List (Option Expr)} {values : List Expr} {l : List ((Env → Res R) × (Env → Res R))} (hu : X.A.units + 1 < cLine) (h : PPs X pos keys values (l.map fun p => (tM C W p.1, tM C W p.2))) (hall : keys.all (·.isSome) = true) (hl : keys.length = values.length) (h0 : keys ≠ [])
    (h15 : keys.length ≤ 15) : PE X (.Dict keys values pos) (tM C W (eDisp tk (l.flatMap fun p => [p.1, p.2]))) := by
  have main : ∀ {o : HO} {σ : L2.St} {H : Hp} {Q : VK} {p : Addr} (Z : List V → Hp → Prop), H p = none → tM C W (eDisp tk (l.flatMap fun p => [p.1, p.2])) σ H Q →
      (∀ (c : Nat → List Addr) (S : Addr → Prop) (vs : List V) (H2 : Hp) (rs : List R) (ks ds : List D), (∀ a, Mp.Own c S a → ∃ o, H a = some o) → Ex (upd H p o) H2 → Paired (RR C.K (upd H p o) H2 (Mp.Own c fun a => S a ∨ a = p)) vs rs → dispGo tk rs [] [] = some (ks, ds) → rs.length ≤ 30 → (∀ v H', Ex H H' → RR C.K H H' (Mp.Own c S) v (.own (.dct tk ks ds)) → Q v H') → Z vs H2) →
      tPairs (l.map fun p => (tM C W p.1, tM C W p.2)) σ (upd H p o) fun ps H2 => Z (flatP ps) H2 := by
    intro o σ H Q p Z hp ⟨ρ, c, S, sr, q⟩ k
    refine pairs_of l (sr.addS hp o) ?_
    unfold eDisp Res.bind at q
    cases e1 : eArgs (l.flatMap fun p => [p.1, p.2]) ρ with
    | stuck => rw [e1] at q; exact q.elim
    | exc k pl =>
      rw [e1] at q
      exact fun H' d x xp => q H' d ((Ex.new hp).trans x) (xp_less (fun a z => z.imp id .inl) xp)
    | ok rs =>
      rw [e1] at q
      simp only [dispR] at q
      intro vs H2 x2 r2
      split at q
      · next ks ds e2 =>
        split at q
        · next h30 => exact k c S vs H2 rs ks ds sr.trk x2 r2 e2 h30 q
        · exact q.elim
      · exact q.elim
  have fin : ∀ {c : Nat → List Addr} {S : Addr → Prop} {H H2 : Hp} {o : HO} {p : Addr} {vs : List V} {ds : List D}, Rps H2 (Mp.Own c fun a => S a ∨ a = p) vs ds → Rps (upd H2 p o) (fun b => Mp.Own c S b ∨ b = p) vs ds := fun {c S H H2 o p vs ds} r =>
    r.move (fun a o' n q => by rw [upd_ne (fun z => n (.inr (.inr z)))]; exact q) fun a o' n q z => n (by
      rcases z with (z | z) | z
      · exact .inl z
      · exact .inr (.inl z)
      · exact .inr (.inr z))
  have exu : ∀ {H H2 : Hp} {o o' : HO} {p : Addr}, H p = none → Ex (upd H p o) H2 → Ex H (upd H2 p o') := fun {H H2 o o' p} hp x a u q => by
    have ne := ne_of_none q hp
    rw [upd_ne ne]
    exact x a u (by rw [upd_ne ne]; exact q)
  have nop : ∀ {c : Nat → List Addr} {S : Addr → Prop} {H : Hp} {p : Addr}, (∀ a, Mp.Own c S a → ∃ o, H a = some o) → H p = none → ¬ Mp.Own c S p := fun {c S H p} t hp z => by
    obtain ⟨o, q⟩ := t p z
    rw [hp] at q
    cases q
  cases tk with
  | false =>
    refine PE.weak (pe_disp h hall hl h0 h15) fun σ H Q q p hp => ?_
    have z := main (o := .dK []) (fun vs H2 => ∀ ps, vs = flatP ps → H2 p = some (.dK []) ∧ ∃ kvs : List (Key × V), ps = kvs.map (fun kv => (kV kv.1, kv.2)) ∧ kvs.length ≤ 15 ∧ Q (.ref p) (upd H2 p (.dK (mergeK [] kvs)))) hp q (by
      intro c S vs H2 rs ks ds tr x2 r2 e2 h30 qq ps eps
      subst eps
      obtain ⟨more, q1, q2, q3, q4⟩ := disp_K rs.length (kvs := []) (ds := []) (Nat.le_refl _) r2 (fun _ z => by cases z) (by simp [Rps]) e2
      have hlen := disp_len r2
      refine ⟨x2 p _ upd_same, more, q1, by rw [q1, List.length_map] at hlen; omega, qq _ _ (exu hp x2) ⟨p, rfl, hp, nop tr hp, _, upd_same, q2, q3, fin (H := H) q4⟩⟩)
    exact tPairs_imp z fun ps H2 y => y ps rfl
  | true =>
    refine PE.weak (pe_dispT hu h hall hl h0 h15) fun σ H Q q p hp => ?_
    have z := main (o := .dT []) (fun vs H2 => ∀ ps, vs = flatP ps → H2 p = some (.dT []) ∧ ∃ kvs : List (List Key × V), Paired (PrT H2) ps kvs ∧ kvs.length ≤ 15 ∧ Q (.ref p) (upd H2 p (.dT (mergeT [] kvs)))) hp q (by
      intro c S vs H2 rs ks ds tr x2 r2 e2 h30 qq ps eps
      subst eps
      obtain ⟨more, q1, q2, q3, q4⟩ := disp_T rs.length (kvs := []) (ds := []) (Nat.le_refl _) r2 (fun _ z => by cases z) (by simp [Rps]) e2
      have hlen := disp_len r2
      refine ⟨x2 p _ upd_same, more, q1, by rw [q1.length] at hlen; omega, qq _ _ (exu hp x2) ⟨p, rfl, hp, nop tr hp, _, upd_same, q2, q3, fin (H := H) q4⟩⟩)
    exact tPairs_imp z fun ps H2 y => y ps rfl
end
end Mp

namespace Mp
open PySem L2

inductive Bt where
  | len | str | int | list | tuple | all | any | sum | min | max | sorted | dict
def Bt.nm : Bt → Str
  | .len => "len" | .str => "str" | .int => "int" | .list => "list" | .tuple => "tuple" | .all => "all" | .any => "any" | .sum => "sum" | .min => "min" | .max => "max" | .sorted => "sorted" | .dict => "dict"
def Bt.easy : Bt → Bool
  | .len => true | .str => true | .int => true | .tuple => true | _ => false
def Bt.fn : Bt → List R → Res R
  | .len => bLen | .str => bStr | .int => bInt | .list => bList | .tuple => bTuple | .all => bAll | .any => bAny | .sum => bSum | .min => bMin | .max => bMaxA | .sorted => bSorted | .dict => bDict
inductive Ty where
  | str | int | bool | list | tuple | dict
def Ty.T : Ty → String
  | .str => "str" | .int => "int" | .bool => "bool" | .list => "list" | .tuple => "tuple" | .dict => "dict"
def Ty.nm : Ty → Str
  | .str => "str" | .int => "int" | .bool => "bool" | .list => "list" | .tuple => "tuple" | .dict => "dict"
inductive Op where
  | fld (c : Nat) (f : Str) | meth (f c : Nat) (m : Str) (dd : List D) | mk (f c : Nat) (dd : List D) | isC (c : Nat) (x : Str) | lit (k : Dk) | part | splt | maxd (d : Int) | xfld (c : Nat) (f : Str) | xis (j : Nat) (x : Str) | disp (tk : Bool)
inductive Xp where
  | var (i : Nat) | cst (d : D) | glo (x : Str)
  | tup (es : List Xp) | lst (es : List Xp)
  | and (a b : Xp) | or (a b : Xp) | not (a : Xp) | neg (a : Xp)
  | bin (op : Operator) (a b : Xp) | cmp (op : CmpOp) (a b : Xp) | chn (op op' : CmpOp) (a b c : Xp)
  | ite (c a b : Xp) | ix (a b : Xp) | sl (a : Xp) (lo hi : List Xp)
  | blt (b : Bt) (es : List Xp) | isi (a : Xp) (T : Ty) | join (a b : Xp) | get2 (a b c : Xp)
  | call (f : Nat) (es : List Xp) (dd : List D) | rng (es : List Xp)
  | lc (elt : Xp) (t : Tg) (src : Xp) (tt : List Xp)
  | lcd (elt : Xp) (t : Tg) (k : Dk) (src : Xp) (tt : List Xp) | op (o : Op) (es : List Xp)
  | dct0 (tk : Bool) | din (neg : Bool) (a b : Xp) | get1 (a b : Xp)
  | kin (x : Str) (ks : List Str) (ds : List D) (a : Xp) | kix (x : Str) (ks : List Str) (ds : List D) (a : Xp)
structure G where
  runC : Nat → List R → CR
  glo : List (Str × R)
  sub : Nat → Nat → Option Bool
  ca : Nat → Addr
  mkC : Option (Nat → List R → CR)
  lv : Nat
  kit : Nat → Nat → Option Bool
def G.run (g : G) (f : Nat) (rs : List R) : Res R := (g.runC f rs).fin
def eGlo (g : G) (x : Str) (_ : Env) : Res R := match g.glo.lookup x with
  | some r => .ok r
  | none => .stuck
def eRngV (ms : List (Env → Res R)) (ρ : Env) : Res R := match eRng ms ρ with
  | .ok ds => .ok (.val (.lst ds))
  | .exc c pl => .exc c pl
  | .stuck => .stuck
def eOp_mk (g : G) (f c : Nat) (dd : List D) (ms : List (Env → Res R)) (ρ : Env) : Res R := match g.mkC with
  | some r => eMk (g.ca c) (fun rs => r f (rs ++ dd.map .val)) ms ρ
  | none => .stuck
def eOp (g : G) : Op → List (Env → Res R) → Env → Res R
  | .fld c f, [m] => eFld (g.ca c) f m
  | .meth f c m dd, mo :: ms => eMeth (g.ca c) m (fun rs => g.run f (rs ++ dd.map .val)) mo ms
  | .mk f c dd, ms => eOp_mk g f c dd ms
  | .isC c _, [m] => eIsC (g.ca c) m
  | .lit k, [m] => eLIt k m
  | .part, [a, b] => ePtn a b
  | .splt, [a, b] => eSpl2 a b
  | .maxd d, [m] => eMxD d m
  | .xfld c f, [m] => eXf (g.ca c) f m
  | .xis j _, [m] => eXi g.ca (fun k => g.kit k j) m
  | .disp tk, ms => eDisp tk ms
  | _, _ => fun _ => .stuck
mutual
def den (g : G) : Xp → Env → Res R
  | .var i => eVar i
  | .cst d => fun _ => ofD d
  | .glo x => eGlo g x
  | .tup es => eTup (dens g es)
  | .lst es => eLst (dens g es)
  | .and a b => eAnd (den g a) (den g b)
  | .or a b => eOr (den g a) (den g b)
  | .not a => eNot (den g a)
  | .neg a => eNeg (den g a)
  | .bin op a b => eBin op (den g a) (den g b)
  | .cmp op a b => eCmp op (den g a) (den g b)
  | .chn op op' a b c => eChain op op' (den g a) (den g b) (den g c)
  | .ite c a b => eIte (den g c) (den g a) (den g b)
  | .ix a b => eIx (den g a) (den g b)
  | .sl a lo hi => eSl (den g a) (dens g lo).head? (dens g hi).head?
  | .blt b es => eBlt b.fn (dens g es)
  | .isi a T => eIsi T.T (den g a)
  | .join a b => eJoin (den g a) (den g b)
  | .get2 a b c => eGet2 (den g a) (den g b) (den g c)
  | .call f es dd => eCall (fun rs => g.run f (rs ++ dd.map .val)) (dens g es)
  | .rng es => eRngV (dens g es)
  | .lc elt t src tt => eLc t (eSeq (den g src)) (dens g tt).head? (den g elt)
  | .lcd elt t k src tt => eLcD t k (den g src) (dens g tt).head? (den g elt)
  | .op o es => eOp g o (dens g es)
  | .dct0 tk => eDct0 tk
  | .din neg a b => eDin neg (den g a) (den g b)
  | .get1 a b => eGet1 (den g a) (den g b)
  | .kin _ ks ds a => eKin ks ds (den g a)
  | .kix _ ks ds a => eKix ks ds (den g a)
def dens (g : G) : List Xp → List (Env → Res R)
  | [] => []
  | m :: ms => den g m :: dens g ms
end
theorem dens_len (g : G) : ∀ ms, (dens g ms).length = ms.length
  | [] => rfl
  | _ :: ms => by rw [dens, List.length_cons, List.length_cons, dens_len g ms]

structure Tb where
  fs : List (Str × (Nat × Nat × List D))
  os : List (Str × (Nat × Nat × List Nat × List D))
  bs : List Str
  xs : List (Str × Nat)
  cs : List (Str × Nat)
  fl : List (Nat × Str)
  ms : List ((Nat × Str) × (Nat × Nat × List D))
  mo : List ((Nat × Str) × (Nat × Nat × List Nat × List D))
  nw : List (Str × (Nat × Nat × Nat × List D))
  kd : List (Str × (List Str × List D))
  xf : List (Str × Nat)
  xl : List (Nat × Str)
  xn : List (Str × Nat)
structure Ck extends Tb where
  N : List Str
  sc : Scope
  fn : Str → Bool
  calm : Bool
def scEq : D → D → Bool
  | .non, .non => true
  | .bl a, .bl b => a == b
  | .int a, .int b => decide (a = b)
  | .str a, .str b => decide (a = b)
  | _, _ => false
def scEqs : List D → List D → Bool
  | [], [] => true
  | a :: as, b :: bs => scEq a b && scEqs as bs
  | _, _ => false
theorem scEq_ok {a b : D} (h : scEq a b = true) : a = b := by
  cases a <;> cases b <;> simp [scEq] at h <;> first | rfl | (subst h; rfl)
theorem scEqs_ok : ∀ {as bs : List D}, scEqs as bs = true → as = bs
  | [], [], _ => rfl
  | a :: as, b :: bs, h => by
    rw [scEqs, Bool.and_eq_true] at h
    rw [scEq_ok h.1, scEqs_ok h.2]
  | [], _ :: _, h => by simp [scEqs] at h
  | _ :: _, [], h => by simp [scEqs] at h
def dflOk (dfl dd : List D) : Bool := scEqs dd (dfl.drop (dfl.length - dd.length))
def fsIs (f n : Nat) (dd : List D) : Option (Nat × Nat × List D) → Bool
  | some (f', n', dfl) => decide (f' = f) && (decide (n' = n + dd.length) && dflOk dfl dd)
  | none => false
def osIs (f n : Nat) (ios : List Nat) (dd : List D) : Option (Nat × Nat × List Nat × List D) → Bool
  | some (f', n', ios', dfl) => decide (f' = f) && (decide (n' = n + dd.length) && (decide (ios' = ios) && dflOk dfl dd))
  | none => false
def nwIs (c f n : Nat) (dd : List D) : Option (Nat × Nat × Nat × List D) → Bool
  | some (c', f', n', dfl) => decide (c' = c) && (decide (f' = f) && (decide (n' = n + dd.length + 1) && dflOk dfl dd))
  | none => false
def kdIs (ks : List Str) (ds : List D) : Option (List Str × List D) → Bool
  | some (ks', ds') => decide (ks' = ks) && scEqs ds' ds
  | none => false
inductive Md where
  | v | t | s
def visOk (sc : Scope) (x : Str) : Bool := match sc.names.lookup x with
  | some .local => true
  | some .cell => true
  | some .free => true
  | _ => false
def isLC : Expr → Bool
  | .ListComp .. => true
  | _ => false
def gloOk (sc : Scope) (x : Str) : Bool := match sc.names.lookup x with
  | some .globalImplicit => true
  | _ => false
def okName (x : Str) : Bool := !(x == ("__debug__" : Str)) && !(x == ("__classdict__" : Str))
def pl : Md → Expr → Bool
  | .t, e => plainTest e
  | _, _ => true
def chkC : Const → D → Bool
  | .none, .non => true
  | .bool b, .bl c => b == c
  | .int i, .int j => decide (i = j)
  | .str x, .str y => decide (x = y) && strOk y
  | _, _ => false
def notS : Md → Bool
  | .s => false
  | _ => true
def isS : Md → Bool
  | .s => true
  | _ => false
def ownOf (N : List Str) (is : List Nat) : List (Str × Nat) := is.map fun i => ((N[i]?).getD "", i)
def Ck.blk (k : Ck) (scope : Scope) : Ck := { k with sc := relS scope k.sc, fn := fun x => scope.names.lookup x == some .cell }
def dIter : Dk → Expr → Option Expr
  | .keys, e => some e
  | .vals, .Call (.Attribute e f ap) [] [] cp => if decide (f = ("values" : Str)) && (plainBase e && (ap.endLine == cp.line)) then some e else none
  | .items, .Call (.Attribute e f ap) [] [] cp => if decide (f = ("items" : Str)) && (plainBase e && (ap.endLine == cp.line)) then some e else none
  | _, _ => none
def tupT : Dk → Expr → Bool
  | .items, .Tuple _ _ _ => true
  | .items, _ => false
  | _, _ => true
def xisB (k : Ck) (j : Nat) (z : Str) : Bool := if j = 99 then decide (z = ("ValueError" : Str)) && k.bs.contains z else decide (k.xn.lookup z = some j)
def interD : List (Option Expr) → List Expr → List Expr
  | some k :: ks, v :: vs => k :: v :: interD ks vs
  | _, _ => []
def opParts (k : Ck) : Op → Nat → Expr → Option (List Expr)
  | .fld c f, _, .Attribute e f' _ => if decide (f' = f) && (k.fl.contains (c, f) && plainBase e) then some [e] else none
  | .meth f c m dd, n, .Call (.Attribute o m' ap) ys [] cp => if decide (m' = m) && (fsIs f n dd (k.ms.lookup (c, m)) && (ys.all noStar && (decide (ys.length < 29) && (plainBase o && (ap.endLine == cp.line))))) then some (o :: ys) else none
  | .mk f c dd, n, .Call (.Name x _) ys [] _ => if nwIs c f n dd (k.nw.lookup x) && (gloOk k.sc x && (okName x && ys.all noStar)) then some ys else none
  | .isC c z, _, .Call (.Name x _) [y, .Name z' _] [] _ => if decide (x = ("isinstance" : Str)) && (decide (z' = z) && (gloOk k.sc x && (gloOk k.sc z && (okName z && (k.bs.contains x && (decide (k.cs.lookup z = some c) && noStar y)))))) then some [y] else none
  | .lit .items, _, .Call (.Name x _) [.Call (.Attribute e f ap) [] [] cp] [] _ => if decide (x = ("list" : Str)) && (decide (f = ("items" : Str)) && (k.calm && (gloOk k.sc x && (k.bs.contains x && (plainBase e && (ap.endLine == cp.line)))))) then some [e] else none
  | .lit .vals, _, .Call (.Name x _) [.Call (.Attribute e f ap) [] [] cp] [] _ => if decide (x = ("list" : Str)) && (decide (f = ("values" : Str)) && (k.calm && (gloOk k.sc x && (k.bs.contains x && (plainBase e && (ap.endLine == cp.line)))))) then some [e] else none
  | .part, _, .Call (.Attribute o f ap) [y] [] cp => if decide (f = ("partition" : Str)) && (noStar y && (plainBase o && (ap.endLine == cp.line))) then some [o, y] else none
  | .splt, _, .Call (.Attribute o f ap) [y] [] cp => if decide (f = ("split" : Str)) && (noStar y && (plainBase o && (ap.endLine == cp.line))) then some [o, y] else none
  | .maxd d, _, .Call (.Name x _) [y] [⟨some f, .Constant (.int d') _ _, _⟩] _ => if decide (x = ("max" : Str)) && (decide (f = ("default" : Str)) && (decide (d' = d) && (k.calm && (gloOk k.sc x && (k.bs.contains x && noStar y))))) then some [y] else none
  | .xfld c f, _, .Attribute e f' _ => if decide (f' = f) && (k.xl.contains (c, f) && plainBase e) then some [e] else none
  | .xis j z, _, .Call (.Name x _) [y, .Name z' _] [] _ => if decide (x = ("isinstance" : Str)) && (decide (z' = z) && (gloOk k.sc x && (gloOk k.sc z && (okName z && (k.bs.contains x && (noStar y && xisB k j z)))))) then some [y] else none
  | .disp _, _, .Dict keys values _ => if keys.all (·.isSome) && (decide (keys.length = values.length) && (!keys.isEmpty && decide (keys.length ≤ 15))) then some (interD keys values) else none
  | _, _, _ => none
mutual
def chk : Xp → Md → Ck → Expr → Bool
  | .var i, t, k, e => pl t e && (match e with
    | .Name x _ => decide (k.N[i]? = some x) && (visOk k.sc x && okName x)
    | _ => false)
  | .cst d, t, k, e => pl t e && (match e with
    | .Constant c _ _ => chkC c d
    | _ => false)
  | .glo y, t, k, e => pl t e && (match e with
    | .Name x _ => decide (x = y) && (gloOk k.sc x && okName x)
    | _ => false)
  | .tup es, t, k, e => pl t e && (match e with
    | .Tuple xs _ _ => xs.all noStar && chks es k xs
    | _ => false)
  | .lst es, t, k, e => pl t e && (match e with
    | .List xs _ => xs.all noStar && chks es k xs
    | _ => false)
  | .and a b, t, k, e => notS t && (match e with
    | .BoolOp .And (x :: y :: r) p => chk a t k x && (match r with
      | [] => chk b t k y
      | z :: r => chk b t k (.BoolOp .And (y :: z :: r) p))
    | _ => false)
  | .or a b, t, k, e => notS t && (match e with
    | .BoolOp .Or (x :: y :: r) p => chk a t k x && (match r with
      | [] => chk b t k y
      | z :: r => chk b t k (.BoolOp .Or (y :: z :: r) p))
    | _ => false)
  | .not a, t, k, e => notS t && (match e with
    | .UnaryOp .Not x _ => chk a t k x
    | _ => false)
  | .neg a, t, k, e => pl t e && (match e with
    | .UnaryOp .USub x _ => chk a .v k x
    | _ => false)
  | .bin op a b, t, k, e => pl t e && (match e with
    | .BinOp x o y _ => decide (o = op) && (chk a .v k x && chk b .v k y)
    | _ => false)
  | .cmp op a b, t, k, e => notS t && (match e with
    | .Compare x [o] [y] _ => decide (o = op) && (!behindInMarks op y && (chk a .v k x && chk b .v k y))
    | _ => false)
  | .chn op op' a b c, t, k, e => notS t && (match e with
    | .Compare x [o, o'] [y, z] _ => decide (o = op) && (decide (o' = op') && (!lastMarks [op, op'] [y, z] && (chk a .v k x && (chk b .v k y && chk c .v k z))))
    | _ => false)
  | .ite c a b, t, k, e => pl t e && (match e with
    | .IfExp x y z _ => chk c .t k x && (chk a .v k y && chk b .v k z)
    | _ => false)
  | .ix a b, t, k, e => pl t e && (match e with
    | .Subscript x y _ => noSlice y && (chk a .v k x && chk b .v k y)
    | _ => false)
  | .sl a lo hi, t, k, e => pl t e && (match e with
    | .Subscript x (.Slice l h none _) _ => chk a .v k x && (chko lo k l && chko hi k h)
    | _ => false)
  | .blt b es, t, k, e => pl t e && (match e with
    | .Call (.Name x _) (y :: ys) [] _ => decide (x = b.nm) && (gloOk k.sc x && (k.bs.contains x && ((b.easy || k.calm) && ((y :: ys).all noStar && chks es k (y :: ys)))))
    | _ => false)
  | .isi a T, t, k, e => pl t e && (match e with
    | .Call (.Name x _) [y, .Name z _] [] _ => decide (x = ("isinstance" : Str)) && (decide (z = T.nm) && (gloOk k.sc x && (gloOk k.sc z && (k.bs.contains x && (k.bs.contains z && (noStar y && chk a .v k y))))))
    | _ => false)
  | .join a b, t, k, e => pl t e && (match e with
    | .Call (.Attribute o f ap) [y] [] cp => decide (f = ("join" : Str)) && (noStar y && (plainBase o && ((ap.endLine == cp.line) && (chk a .v k o && chk b .v k y))))
    | _ => false)
  | .get2 a b c, t, k, e => pl t e && (match e with
    | .Call (.Attribute o f ap) [y, z] [] cp => decide (f = ("get" : Str)) && (noStar y && (noStar z && (plainBase o && ((ap.endLine == cp.line) && (chk a .v k o && (chk b .v k y && chk c .v k z))))))
    | _ => false)
  | .call f es dd, t, k, e => pl t e && (match e with
    | .Call (.Name x _) (y :: ys) [] _ => fsIs f es.length dd (k.fs.lookup x) && (gloOk k.sc x && (okName x && ((y :: ys).all noStar && chks es k (y :: ys))))
    | _ => false)
  | .rng es, t, k, e => isS t && (match e with
    | .Call (.Name x _) ys [] _ => decide (x = ("range" : Str)) && (gloOk k.sc x && (k.bs.contains x && ((ys.length == 1 || ys.length == 2) && (ys.all noStar && chks es k ys))))
    | _ => false)
  | .lc elt g src tt, t, k, e => pl t e && (match e with
    | .ListComp x [⟨tg, it, ifs, a⟩] sc _ => decide (a = 0) && k.calm && (chkTg k.N (k.blk sc).sc (k.blk sc).fn tg g && (blkC k.N k.sc sc (ownOf k.N g.slots) && (plainIter it && (chk src .s k it && (chkt tt (k.blk sc) ifs && chk elt .v (k.blk sc) x)))))
    | _ => false)
  | .lcd elt g d src tt, t, k, e => pl t e && (match e with
    | .ListComp x [⟨tg, it, ifs, a⟩] sc _ => decide (a = 0) && k.calm && (chkTg k.N (k.blk sc).sc (k.blk sc).fn tg g && (blkC k.N k.sc sc (ownOf k.N g.slots) && (plainIter it && (tupT d tg && ((match dIter d it with
      | some b => chk src .v k b
      | none => false) && (chkt tt (k.blk sc) ifs && chk elt .v (k.blk sc) x))))))
    | _ => false)
  | .op o es, t, k, e => pl t e && (!isLC e && (match opParts k o es.length e with
    | some xs => chks es k xs
    | none => false))
  | .dct0 _, t, k, e => pl t e && (match e with
    | .Dict [] [] _ => true
    | _ => false)
  | .din neg a b, t, k, e => notS t && (match e with
    | .Compare x [.In] [y] _ => !neg && (!behindInMarks .In y && (chk a .v k x && chk b .v k y))
    | .Compare x [.NotIn] [y] _ => neg && (!behindInMarks .NotIn y && (chk a .v k x && chk b .v k y))
    | _ => false)
  | .get1 a b, t, k, e => pl t e && (match e with
    | .Call (.Attribute o f ap) [y] [] cp => decide (f = ("get" : Str)) && (noStar y && (plainBase o && ((ap.endLine == cp.line) && (chk a .v k o && chk b .v k y))))
    | _ => false)
  | .kin x ks ds a, t, k, e => notS t && (match e with
    | .Compare y [.In] [.Name x' p] _ => decide (x' = x) && (!behindInMarks .In (.Name x' p) && (gloOk k.sc x && (okName x && (kdIs ks ds (k.kd.lookup x) && chk a .v k y))))
    | _ => false)
  | .kix x ks ds a, t, k, e => pl t e && (match e with
    | .Subscript (.Name x' _) y _ => decide (x' = x) && (noSlice y && (gloOk k.sc x && (okName x && (kdIs ks ds (k.kd.lookup x) && chk a .v k y))))
    | _ => false)
def chks : List Xp → Ck → List Expr → Bool
  | [], _, es => es.isEmpty
  | m :: ms, k, es => (match es with
    | e :: es => chk m .v k e && chks ms k es
    | [] => false)
/-- a part that may be left out -/
def chko : List Xp → Ck → Option Expr → Bool
  | [], _, o => o.isNone
  | m :: ms, k, o => (match o with
    | some e => ms.isEmpty && chk m .v k e
    | none => false)
/-- a comprehension's test -/
def chkt : List Xp → Ck → List Expr → Bool
  | [], _, es => es.isEmpty
  | m :: ms, k, es => (match es with
    | [e] => ms.isEmpty && chk m .t k e
    | _ => false)
end

def kvA (ca : Nat → Addr) (j : Nat) : Value := if j = 99 then .type "ValueError" else .ref (ca j)
structure Gd (X : Cx) (C : Cn) (W : WX) (k : Ck) (g : G) : Prop where
  hK : X.K = C.K
  hN : X.N = k.N
  nd : X.N.Nodup
  sc : X.env.scope = k.sc
  fn : X.fn = k.fn
  calm : k.calm = true → X.calm = true
  un : X.A.units + 200 < cLine
  tk : Takes X W
  top : ∃ F, Top X F
  tf : TkF X W
  bs : ∀ x, k.bs.contains x = true → X.mg x = none
  fs : ∀ x f n dfl, k.fs.lookup x = some (f, n, dfl) → ∀ j, CallOk X C n (dfl.drop j) (g.run f) x
  os : ∀ x f n ios dfl, k.os.lookup x = some (f, n, ios, dfl) → ∃ run : List R → Out, (∀ rs, g.runC f rs = (run rs).cr ios) ∧ ∀ j, CallOkG X C n ios (dfl.drop j) run x
  ca : g.ca = C.ca
  cs : ∀ x c, k.cs.lookup x = some c → X.mg x = some (.ref (g.ca c)) ∧ C8.InsC X.K (g.ca c)
  fl : ∀ c f, k.fl.contains (c, f) = true → Cls X.K (g.ca c) ∧ NoAttr X.K (g.ca c) f
  ms : ∀ c m f n dfl, k.ms.lookup (c, m) = some (f, n, dfl) → ∀ j, MthAt X C (g.ca c) m n (dfl.drop j) (g.run f)
  mo : ∀ c m f n ios dfl, k.mo.lookup (c, m) = some (f, n, ios, dfl) → ∃ run : List R → Out, (∀ rs, g.runC f rs = (run rs).cr ios) ∧ ∀ j, MthAtG X C (g.ca c) m n ios (dfl.drop j) run
  nw : ∀ x c f n dfl, k.nw.lookup x = some (c, f, n, dfl) → ∀ r, g.mkC = some r → ∃ run : List R → Out, (∀ rs, r f rs = (run rs).cr [0]) ∧ ∀ j, MkAt X C (g.ca c) x n (dfl.drop j) run
  xc : ∀ x j, k.xs.lookup x = some j → ExcAt X x (C.ca j)
  xm : ∀ i j b, g.sub i j = some b → PySem.W.exmOne X.K (.ref (C.ca i)) (.ref (C.ca j)) = some b
  gl : ∀ x r, g.glo.lookup x = some r → ∃ v u, X.mg x = some u ∧ RelV v u ∧ ∀ H0 H P, RR C.K H0 H P v r
  kd : ∀ x ks ds, k.kd.lookup x = some (ks, ds) → KdK X.K X.w X.mg x ks ds
  xf : ∀ x j, k.xf.lookup x = some j → X.mg x = some (.ref (C.ca j)) ∧ (2 ≤ g.lv → XfAt X x (C.ca j))
  xl : ∀ c f, k.xl.contains (c, f) = true → XfC X.K (g.ca c) ∧ PySem.W.findIn X.K (.ref (g.ca c)) f = some none
  xn : ∀ x j, k.xn.lookup x = some j → X.mg x = some (.ref (g.ca j))
  kt : ∀ i j b, g.kit i j = some b → XeK X.K (g.ca i) ∧ PySem.W.kitOne X.K (.ref (g.ca i)) (kvA g.ca j) = some b
theorem Top.blk {X : Cx} {F : Addr} (h : Top X F) {s : Shared} {H : Hp} {scope : Scope} {C' : Addr} {cl : List (Str × Addr)} {fp : List Addr} : Top (X.blk s H scope (compEnvC scope cl C' X.env) fp) F := ⟨h.fr, h.st⟩
theorem Gd.blk {X : Cx} {C : Cn} {W : WX} {k : Ck} {g : G} (h : Gd X C W k g) (s : Shared) (H : Hp) (scope : Scope) (C' : Addr) (cl : List (Str × Addr)) (fp : List Addr) : Gd (X.blk s H scope (compEnvC scope cl C' X.env) fp) C WN (k.blk scope) g where
  hK := h.hK
  hN := h.hN
  nd := h.nd
  sc := by show relS scope X.env.scope = relS scope k.sc; rw [h.sc]
  fn := rfl
  calm := h.calm
  un := h.un
  tk := takes0
  top := let ⟨F, z⟩ := h.top; ⟨F, z.blk⟩
  tf := fun _ _ _ _ x => by obtain ⟨_, _, _, _, _, _, _, _, _, _, _, _, _, _, _, _, w⟩ := x; exact w.elim
  bs := h.bs
  fs := h.fs
  os := h.os
  ca := h.ca
  cs := h.cs
  fl := h.fl
  ms := fun c m f n dfl e j => let z := h.ms c m f n dfl e j; ⟨z.cl, z.ex⟩
  mo := fun c m f n ios dfl e => let ⟨run, a, b⟩ := h.mo c m f n ios dfl e; ⟨run, a, fun j => let z := b j; ⟨z.cl, z.ex⟩⟩
  nw := fun x c f n dfl e r er => let ⟨run, a, b⟩ := h.nw x c f n dfl e r er; ⟨run, a, fun j => let z := b j; ⟨z.mg, z.ex⟩⟩
  xc := fun x j e => let z := h.xc x j e; ⟨z.mg, z.kp, z.sub, z.ty, z.ex⟩
  xm := h.xm
  gl := h.gl
  kd := h.kd
  xf := fun x j e => ⟨(h.xf x j e).1, fun l => let z := (h.xf x j e).2 l; ⟨z.mg, z.oex, z.nf, z.ex⟩⟩
  xl := h.xl
  xn := h.xn
  kt := h.kt
theorem Gd.blkE {X : Cx} {C : Cn} {W : WX} {k : Ck} {g : G} (h : Gd X C W k g) (s : Shared) (H : Hp) (scope : Scope) (C' : Addr) (cl : List (Str × Addr)) (fp : List Addr) {W' : WX} {E : Value → Shared → Prop} (tk' : Takes ((X.blk s H scope (compEnvC scope cl C' X.env) fp).wish E) W') (tf' : TkF ((X.blk s H scope (compEnvC scope cl C' X.env) fp).wish E) W') : Gd ((X.blk s H scope (compEnvC scope cl C' X.env) fp).wish E) C W' (k.blk scope) g where
  hK := h.hK
  hN := h.hN
  nd := h.nd
  sc := by show relS scope X.env.scope = relS scope k.sc; rw [h.sc]
  fn := rfl
  calm := h.calm
  un := h.un
  tk := tk'
  top := let ⟨F, z⟩ := h.top; ⟨F, ⟨z.fr, z.st⟩⟩
  tf := tf'
  bs := h.bs
  fs := h.fs
  os := h.os
  ca := h.ca
  cs := h.cs
  fl := h.fl
  ms := fun c m f n dfl e j => let z := h.ms c m f n dfl e j; ⟨z.cl, z.ex⟩
  mo := fun c m f n ios dfl e => let ⟨run, a, b⟩ := h.mo c m f n ios dfl e; ⟨run, a, fun j => let z := b j; ⟨z.cl, z.ex⟩⟩
  nw := fun x c f n dfl e r er => let ⟨run, a, b⟩ := h.nw x c f n dfl e r er; ⟨run, a, fun j => let z := b j; ⟨z.mg, z.ex⟩⟩
  xc := fun x j e => let z := h.xc x j e; ⟨z.mg, z.kp, z.sub, z.ty, z.ex⟩
  xm := h.xm
  gl := h.gl
  kd := h.kd
  xf := fun x j e => ⟨(h.xf x j e).1, fun l => let z := (h.xf x j e).2 l; ⟨z.mg, z.oex, z.nf, z.ex⟩⟩
  xl := h.xl
  xn := h.xn
  kt := h.kt
theorem Gd.fsAt {X : Cx} {C : Cn} {W : WX} {k : Ck} {g : G} (gd : Gd X C W k g) {x : Str} {f n : Nat} {dd : List D} (h : fsIs f n dd (k.fs.lookup x) = true) : CallOk X C (n + dd.length) dd (g.run f) x := by
  cases e : k.fs.lookup x with
  | none => rw [e] at h; cases h
  | some p =>
    obtain ⟨f', n', dfl⟩ := p
    rw [e] at h
    simp only [fsIs, Bool.and_eq_true, decide_eq_true_eq] at h
    obtain ⟨rfl, rfl, h⟩ := h
    have q := gd.fs x _ _ _ e (dfl.length - dd.length)
    rw [← scEqs_ok h] at q
    exact q
theorem Gd.osAt {X : Cx} {C : Cn} {W : WX} {k : Ck} {g : G} (gd : Gd X C W k g) {x : Str} {f n : Nat} {ios : List Nat} {dd : List D} (h : osIs f n ios dd (k.os.lookup x) = true) : ∃ run : List R → Out, g.runC f = (fun rs => (run rs).cr ios) ∧ CallOkG X C (n + dd.length) ios dd run x := by
  cases e : k.os.lookup x with
  | none => rw [e] at h; cases h
  | some p =>
    obtain ⟨f', n', ios', dfl⟩ := p
    rw [e] at h
    simp only [osIs, Bool.and_eq_true, decide_eq_true_eq] at h
    obtain ⟨rfl, rfl, rfl, h⟩ := h
    obtain ⟨run, h1, h2⟩ := gd.os x _ _ _ _ e
    have q := h2 (dfl.length - dd.length)
    rw [← scEqs_ok h] at q
    exact ⟨run, funext h1, q⟩
theorem Gd.msAt {X : Cx} {C : Cn} {W : WX} {k : Ck} {g : G} (gd : Gd X C W k g) {c : Nat} {m : Str} {f n : Nat} {dd : List D} (h : fsIs f n dd (k.ms.lookup (c, m)) = true) : MthAt X C (g.ca c) m (n + dd.length) dd (g.run f) := by
  cases e : k.ms.lookup (c, m) with
  | none => rw [e] at h; cases h
  | some p =>
    obtain ⟨f', n', dfl⟩ := p
    rw [e] at h
    simp only [fsIs, Bool.and_eq_true, decide_eq_true_eq] at h
    obtain ⟨rfl, rfl, h⟩ := h
    have q := gd.ms c m _ _ _ e (dfl.length - dd.length)
    rw [← scEqs_ok h] at q
    exact q
theorem Gd.moAt {X : Cx} {C : Cn} {W : WX} {k : Ck} {g : G} (gd : Gd X C W k g) {c : Nat} {m : Str} {f n : Nat} {ios : List Nat} {dd : List D} (h : osIs f n ios dd (k.mo.lookup (c, m)) = true) : ∃ run : List R → Out, g.runC f = (fun rs => (run rs).cr ios) ∧ MthAtG X C (g.ca c) m (n + dd.length) ios dd run := by
  cases e : k.mo.lookup (c, m) with
  | none => rw [e] at h; cases h
  | some p =>
    obtain ⟨f', n', ios', dfl⟩ := p
    rw [e] at h
    simp only [osIs, Bool.and_eq_true, decide_eq_true_eq] at h
    obtain ⟨rfl, rfl, rfl, h⟩ := h
    obtain ⟨run, h1, h2⟩ := gd.mo c m _ _ _ _ e
    have q := h2 (dfl.length - dd.length)
    rw [← scEqs_ok h] at q
    exact ⟨run, funext h1, q⟩
theorem Gd.nwAt {X : Cx} {C : Cn} {W : WX} {k : Ck} {g : G} (gd : Gd X C W k g) {x : Str} {c f n : Nat} {dd : List D} (h : nwIs c f n dd (k.nw.lookup x) = true) {r : Nat → List R → CR} (hr : g.mkC = some r) : ∃ run : List R → Out, r f = (fun rs => (run rs).cr [0]) ∧ MkAt X C (g.ca c) x (n + dd.length + 1) dd run := by
  cases e : k.nw.lookup x with
  | none => rw [e] at h; cases h
  | some p =>
    obtain ⟨c', f', n', dfl⟩ := p
    rw [e] at h
    simp only [nwIs, Bool.and_eq_true, decide_eq_true_eq] at h
    obtain ⟨rfl, rfl, rfl, h⟩ := h
    obtain ⟨run, h1, h2⟩ := gd.nw x _ _ _ _ e r hr
    have q := h2 (dfl.length - dd.length)
    rw [← scEqs_ok h] at q
    exact ⟨run, funext h1, q⟩
theorem Gd.kdAt {X : Cx} {C : Cn} {W : WX} {k : Ck} {g : G} (gd : Gd X C W k g) {x : Str} {ks : List Str} {ds : List D} (h : kdIs ks ds (k.kd.lookup x) = true) : KdK X.K X.w X.mg x ks ds := by
  cases e : k.kd.lookup x with
  | none => rw [e] at h; cases h
  | some p =>
    obtain ⟨ks', ds'⟩ := p
    rw [e] at h
    simp only [kdIs, Bool.and_eq_true, decide_eq_true_eq] at h
    obtain ⟨rfl, h⟩ := h
    rw [← scEqs_ok h]
    exact gd.kd x _ _ e
theorem vis_of {sc : Scope} {x : Str} (h : visOk sc x = true) : Vis sc x := by
  unfold visOk at h
  unfold Vis
  split at h
  · next e => exact .inl e
  · next e => exact .inr (.inl e)
  · next e => exact .inr (.inr e)
  · cases h
theorem glo_of {X : Cx} {x : Str} (h : gloOk X.env.scope x = true) : Gl X x := by
  unfold gloOk at h
  split at h
  · next e => exact e
  · cases h
theorem okName_of {x : Str} (h : okName x = true) : (x == ("__debug__" : Str)) = false ∧ (x == ("__classdict__" : Str)) = false := by
  unfold okName at h
  simp only [Bool.and_eq_true, Bool.not_eq_true'] at h
  exact h
section
variable {X : Cx} {C : Cn} {W : WX} {k : Ck} {g : G}
theorem pe_cst {c : Const} {d : D} {j : Nat} {p : Pos} (h : chkC c d = true) : PE X (.Constant c j p) (tM C W fun _ => ofD d) := by
  unfold chkC at h
  split at h
  · exact pe_sc pe_non fun _ _ => by simp [Rp]
  · have e := eq_of_beq h; subst e; exact pe_sc pe_bl fun _ _ => by simp [Rp]
  · have e := of_decide_eq_true h; subst e; exact pe_sc pe_int fun _ _ => by simp [Rp]
  · rw [Bool.and_eq_true] at h
    have e := of_decide_eq_true h.1
    subst e
    exact pe_sc pe_str fun _ _ => rp_str h.2
  · cases h
theorem pe_gloM {x : Str} {p : Pos} (gd : Gd X C W k g) (hg : Gl X x) (hd : (x == ("__debug__" : Str)) = false) : PE X (.Name x p) (tM C W (eGlo g x)) := by
  cases e : g.glo.lookup x with
  | none =>
    refine PE.weak (t := tM C W fun _ => .stuck) pe_stuck fun σ H Q ⟨ρ, c, S, sr, q⟩ => ?_
    unfold eGlo at q
    rw [e] at q
    exact q.elim
  | some r =>
    obtain ⟨v, u, h1, h2, h3⟩ := gd.gl x r e
    refine PE.weak (pe_glob hg h1 h2 hd) fun σ H Q ⟨ρ, c, S, sr, q⟩ => ?_
    unfold eGlo at q
    rw [e] at q
    exact q v H (Ex.refl _) (h3 _ _ _)
theorem pe_btM (gd : Gd X C W k g) (b : Bt) (hcb : b.easy = true ∨ X.calm = true) {e : Expr} {es : List Expr} {ms : List (Env → Res R)} {p pos : Pos} (hg : Gl X b.nm) (hm : X.mg b.nm = none) (ha : PA X (e :: es) (tMs C W (eArgs ms))) (hst : (e :: es).all noStar = true) :
    PE X (.Call (.Name b.nm p) (e :: es) [] pos) (tM C W (eBlt b.fn ms)) := by
  have hK := gd.hK
  have hc : ∀ {p : Bool}, p = b.easy → p = false → X.calm = true := fun e1 e2 => hcb.elim (fun z => by rw [← e1, e2] at z; cases z) id
  cases b with
  | len => exact pe_bltM call_lenX (by rw [hK]; exact gv_len) hg hm (by decide +kernel) ha (by decide) (by decide) hst
  | str => exact pe_tyM call_str_int gv_str hg hm (by decide +kernel) ha (by decide) (by decide) hst
  | int => exact pe_tyM (call_int1.or call_int_str) gv_int hg hm (by decide +kernel) ha (by decide) (by decide) hst
  | list => exact pe_tyM (call_list_of.or (call_listD (hc rfl rfl))) (by rw [hK]; exact gv_list) hg hm (by decide +kernel) ha (by decide) (by decide) hst
  | tuple => exact pe_tyM call_tuple_of (by rw [hK]; exact gv_tuple) hg hm (by decide +kernel) ha (by decide) (by decide) hst
  | all => exact pe_bltM (cr_all (hc rfl rfl)) (by rw [hK]; exact gv_all) hg hm (by decide +kernel) ha (by decide) (by decide) hst
  | any => exact pe_bltM (cr_any (hc rfl rfl)) (by rw [hK]; exact gv_any) hg hm (by decide +kernel) ha (by decide) (by decide) hst
  | sum => exact pe_bltM (cr_sum (hc rfl rfl)) (by rw [hK]; exact gv_sum) hg hm (by decide +kernel) ha (by decide) (by decide) hst
  | min => exact pe_bltM (call_min2 (hc rfl rfl)) gv_min hg hm (by decide +kernel) ha (by decide) (by decide) hst
  | sorted => exact pe_bltM ((cr_sortedS.or cr_sortedI).or (call_sortedD (hc rfl rfl))) (by rw [hK]; exact gv_sorted) hg hm (by decide +kernel) ha (by decide) (by decide) hst
  | dict => exact pe_tyM call_dictD gv_dict hg hm (by decide +kernel) ha (by decide) (by decide) hst
  | max => exact pe_bltM ((call_max2 (hc rfl rfl)).or (cr_max (hc rfl rfl))) (by rw [hK]; exact gv_maxA) hg hm (by decide +kernel) ha (by decide) (by decide) hst
theorem pe_isM (gd : Gd X C W k g) (T : Ty) {e : Expr} {m : Env → Res R} {p p' pos : Pos} (hg : Gl X "isinstance") (hm : X.mg "isinstance" = none) (hgT : Gl X T.nm) (hmT : X.mg T.nm = none) (he : PE X e (tM C W m)) (hst : noStar e = true) :
    PE X (.Call (.Name "isinstance" p) [e, .Name T.nm p'] [] pos) (tM C W (eIsi T.T m)) := by
  cases T <;> exact pe_isiM gd.hK hg hm hgT hmT (by decide +kernel) (by decide) (by decide) he hst
def PEs (X : Cx) (C : Cn) (W : WX) (es : List Expr) (ms : List (Env → Res R)) : Prop := Paired (fun e m => PE X e (tM C W m)) es ms
theorem PEs.pa : ∀ {es : List Expr} {ms : List (Env → Res R)}, PEs X C W es ms → es.all noStar = true → PA X es (tMs C W (eArgs ms))
  | _, _, .nil, _ => pa_nilM
  | e :: es, m :: ms, .cons h hs, st => by
    rw [List.all_cons, Bool.and_eq_true] at st
    exact pa_consM h (PEs.pa hs st.2) (starEach_cons st.1)
theorem PEs.len {es : List Expr} {ms : List (Env → Res R)} (h : PEs X C W es ms) : es.length = ms.length := Paired.length h
theorem opParts_lc {e : Expr} (h : isLC e = false) : ∀ elt cs scope pos, e ≠ .ListComp elt cs scope pos := fun _ _ _ _ z => by subst z; cases h
theorem pi_dit {d : Dk} {tg it b : Expr} {m : Env → Res R} (hd : dIter d it = some b) (ht : tupT d tg = true) (h : PE X b (tM C W m)) : PI X tg it (tID X C W d m) := by
  unfold dIter at hd
  split at hd
  · cases hd; exact pi_dM0 .keys rfl h
  · split at hd
    · next q =>
      cases hd
      simp only [Bool.and_eq_true, decide_eq_true_eq] at q
      obtain ⟨rfl, q1, q2⟩ := q
      exact pi_dMv h q1 q2
    · cases hd
  · split at hd
    · next q =>
      cases hd
      simp only [Bool.and_eq_true, decide_eq_true_eq] at q
      obtain ⟨rfl, q1, q2⟩ := q
      cases tg <;> first | (simp [tupT] at ht; done) | exact pi_dMi h q1 q2
    · cases hd
  · cases hd
theorem pi_ditV {d : Dk} {tg it b : Expr} {i : Nat} (hd : dIter d it = some b) (ht : tupT d tg = true) (h : PE X b (tVar i)) : PI X tg it (tIV X d i) := by
  unfold dIter at hd
  split at hd
  · cases hd; exact pi_dV0 h
  · split at hd
    · next q =>
      cases hd
      simp only [Bool.and_eq_true, decide_eq_true_eq] at q
      obtain ⟨rfl, q1, q2⟩ := q
      exact pi_dVv h q1 q2
    · cases hd
  · split at hd
    · next q =>
      cases hd
      simp only [Bool.and_eq_true, decide_eq_true_eq] at q
      obtain ⟨rfl, q1, q2⟩ := q
      cases tg <;> first | (simp [tupT] at ht; done) | exact pi_dVi h q1 q2
    · cases hd
  · cases hd
theorem pe_stuckM {e : Expr} : PE X e (tM C W fun _ => .stuck) := PE.weak (t := tM C W fun _ => .stuck) pe_stuck fun _ _ _ h => h
theorem interD_ok {pos : Pos} : ∀ (keys : List (Option Expr)) (values : List Expr) {ms : List (Env → Res R)}, keys.all (·.isSome) = true → keys.length = values.length → PEs X C W (interD keys values) ms → ∃ l : List ((Env → Res R) × (Env → Res R)), ms = (l.flatMap fun p => [p.1, p.2]) ∧ PPs X pos keys values (l.map fun p => (tM C W p.1, tM C W p.2))
  | [], [], ms, _, _, h => by
    cases h
    exact ⟨[], rfl, pps_nil⟩
  | [], _ :: _, ms, _, h, _ => by simp at h
  | _ :: _, [], ms, _, h, _ => by simp at h
  | none :: _, _ :: _, ms, h, _, _ => by simp at h
  | some k :: ks, v :: vs, ms, h, hl, hp => by
    have hp' : PEs X C W (k :: v :: interD ks vs) ms := hp
    cases hp' with
    | cons a t =>
      cases t with
      | cons b t =>
        obtain ⟨l, e, q⟩ := interD_ok (pos := pos) ks vs (by simpa using h) (by simpa using hl) t
        exact ⟨(_, _) :: l, by rw [e]; rfl, pps_cons a b q⟩
theorem op_ok (gd : Gd X C W k g) {o : Op} {e : Expr} {xs : List Expr} {ms : List (Env → Res R)} (h : opParts k o ms.length e = some xs) (hp : PEs X C W xs ms) : PE X e (tM C W (eOp g o ms)) := by
  have hK := gd.hK
  have sc : ∀ {x}, gloOk k.sc x = true → Gl X x := fun z => glo_of (by rw [gd.sc]; exact z)
  unfold opParts at h
  split at h
  · -- fld
    next c f n e' f' p =>
    split at h
    · next q =>
      cases h
      simp only [Bool.and_eq_true, decide_eq_true_eq] at q
      obtain ⟨rfl, q1, q2⟩ := q
      rcases hp with _ | ⟨h1, hs⟩
      cases hs
      obtain ⟨a, b⟩ := gd.fl _ _ q1
      exact pe_fldM a hK b h1 (base_ok q2)
    · cases h
  · -- meth
    next f c m dd n o' m' ap ys cp =>
    split at h
    · next q =>
      cases h
      simp only [Bool.and_eq_true, decide_eq_true_eq] at q
      obtain ⟨rfl, q1, q2, q3, q4, q5⟩ := q
      cases ms with
      | nil => cases hp
      | cons mo ms =>
        rcases hp with _ | ⟨h1, hs⟩
        have M := gd.msAt q1
        cases ys with
        | nil =>
          cases hs
          exact pe_methM0 hK gd.tk M h1 (by simp [Nat.add_comm]) q4 q5
        | cons y ys => exact pe_methM hK gd.tk M h1 (PEs.pa hs q2) q2 (by simp; omega) q4 q3 q5
    · cases h
  · -- mk
    next e' f c dd x p ys p' =>
    split at h
    · next q =>
      cases h
      simp only [Bool.and_eq_true, decide_eq_true_eq] at q
      obtain ⟨q1, q2, q3, q4⟩ := q
      show PE X _ (tM C W (eOp_mk g f c dd ms))
      cases er : g.mkC with
      | none =>
        have : eOp_mk g f c dd ms = fun _ => .stuck := by funext ρ; unfold eOp_mk; rw [er]
        rw [this]
        exact pe_stuckM
      | some r =>
        obtain ⟨run, e1, M⟩ := gd.nwAt q1 er
        have : eOp_mk g f c dd ms = eMk (g.ca c) (fun rs => (run (rs ++ dd.map .val)).cr [0]) ms := by funext ρ; unfold eOp_mk; rw [er]; simp only [e1]
        rw [this]
        cases xs with
        | nil =>
          cases hp
          exact pe_mkM0 gd.tk M (sc q2) (okName_of q3).1 (by simp)
        | cons y ys => exact pe_mkM gd.tk M (sc q2) (okName_of q3).1 (PEs.pa hp q4) q4 rfl
    · cases h
  · -- isC
    next c z n x p y z' p' p2 =>
    split at h
    · next q =>
      cases h
      simp only [Bool.and_eq_true, decide_eq_true_eq] at q
      obtain ⟨rfl, rfl, q2, q3, q4, q5, q6, q7⟩ := q
      rcases hp with _ | ⟨h1, hs⟩
      cases hs
      obtain ⟨a, b⟩ := gd.cs _ _ q6
      exact pe_isCM b (sc q2) (gd.bs _ q5) (sc q3) a (okName_of q4).1 h1 q7
    · cases h
  · -- items
    split at h
    · next q =>
      cases h
      simp only [Bool.and_eq_true, decide_eq_true_eq] at q
      obtain ⟨rfl, rfl, q1, q2, q3, q4, q5⟩ := q
      rcases hp with _ | ⟨h1, hs⟩
      cases hs
      exact pe_listItM (gd.calm q1) h1 (sc q2) (gd.bs _ q3) q4 q5
    · cases h
  · split at h
    · next q =>
      cases h
      simp only [Bool.and_eq_true, decide_eq_true_eq] at q
      obtain ⟨rfl, rfl, q1, q2, q3, q4, q5⟩ := q
      rcases hp with _ | ⟨h1, hs⟩
      cases hs
      exact pe_listVlM (gd.calm q1) h1 (sc q2) (gd.bs _ q3) q4 q5
    · cases h
  · split at h
    · next q =>
      cases h
      simp only [Bool.and_eq_true, decide_eq_true_eq] at q
      obtain ⟨rfl, q1, q2, q3⟩ := q
      rcases hp with _ | ⟨h1, _ | ⟨h2, hs⟩⟩
      cases hs
      exact pe_partM h1 h2 q1 q2 q3
    · cases h
  · split at h
    · next q =>
      cases h
      simp only [Bool.and_eq_true, decide_eq_true_eq] at q
      obtain ⟨rfl, q1, q2, q3⟩ := q
      rcases hp with _ | ⟨h1, _ | ⟨h2, hs⟩⟩
      cases hs
      exact pe_spltM h1 h2 q1 q2 q3
    · cases h
  · split at h
    · next q =>
      cases h
      simp only [Bool.and_eq_true, decide_eq_true_eq] at q
      obtain ⟨rfl, rfl, rfl, q1, q2, q3, q4⟩ := q
      cases ms with
      | nil => cases hp
      | cons m ms =>
        rcases hp with _ | ⟨h1, hs⟩
        cases hs
        exact pe_mxDM hK (gd.calm q1) (sc q2) (gd.bs _ q3) (PEs.pa (.cons h1 .nil) (by simp [q4])) q4
    · cases h
  · split at h
    · next q =>
      cases h
      simp only [Bool.and_eq_true, decide_eq_true_eq] at q
      obtain ⟨rfl, q1, q2⟩ := q
      rcases hp with _ | ⟨h1, hs⟩
      cases hs
      obtain ⟨a, b⟩ := gd.xl _ _ q1
      exact pe_xfM a b h1 (base_ok q2)
    · cases h
  · split at h
    · next q =>
      cases h
      simp only [Bool.and_eq_true, decide_eq_true_eq] at q
      obtain ⟨rfl, rfl, q2, q3, q4, q5, q6, q7⟩ := q
      rcases hp with _ | ⟨h1, hs⟩
      cases hs
      unfold xisB at q7
      split at q7
      · next ej =>
        subst ej
        simp only [Bool.and_eq_true, decide_eq_true_eq] at q7
        obtain ⟨rfl, q8⟩ := q7
        show PE X _ (tM C W (eXi g.ca (fun k => g.kit k 99) _))
        rw [gd.ca]
        exact pe_xvM hK (sc q2) (gd.bs _ q5) (sc q3) (gd.bs _ q8) (fun i b e => by have := gd.kt i 99 b e; rw [gd.ca] at this; exact this) h1 q6
      · next nj =>
        have q8 := of_decide_eq_true q7
        have m := gd.xn _ _ q8
        show PE X _ (tM C W (eXi g.ca (fun k => g.kit k _) _))
        rw [gd.ca] at m ⊢
        exact pe_xiM hK (sc q2) (gd.bs _ q5) (sc q3) m (okName_of q4).1 (fun i b e => by have := gd.kt i _ b e; rw [gd.ca] at this; unfold kvA at this; rw [if_neg nj] at this; exact this) h1 q6
    · cases h
  · split at h
    · next q =>
      cases h
      simp only [Bool.and_eq_true, decide_eq_true_eq, Bool.not_eq_true'] at q
      obtain ⟨q1, q2, q3, q4⟩ := q
      obtain ⟨l, el, pl⟩ := interD_ok (pos := by assumption) _ _ q1 q2 hp
      subst el
      exact pe_dispM (by have := gd.un; omega) pl q1 q2 (by intro z; rw [z] at q3; cases q3) q4
    · cases h
  · cases h
end
end Mp

namespace Mp
open PySem L2

def isBo : Expr → Bool
  | .BoolOp .. => true
  | _ => false
theorem plainTest_bo {e : Expr} (h : plainTest e = true) : isBo e = false := by
  cases e <;> first | rfl | simp [plainTest] at h
def swB (env : PySem.Env) (scope : Scope) (y : Str) (py pos : Pos) : Bool :=
  env.scope.kind == .function && env.kindOf y == some .local && py.line == pos.line && !(scope.names.any fun (n, k) => n == y && (k == .local || k == .cell))
theorem swaps_lc {elt : Expr} {gs : List Comprehension} {scope : Scope} {pos py : Pos} {y : Str} {l : Nat} {env : PySem.Env} (hk : env.scope.kind = .function) :
    swapsWith (.ListComp elt gs scope pos) (some (.Name y py)) l env = pure (swB env scope y py pos) := by
  have hb : env.blockKind = .function := by unfold PySem.Env.blockKind; rw [hk]; rfl
  unfold swapsWith swB
  simp only [hb, hk, Expr.pos]
  first | rfl | skip
structure Sound (m : Xp) (X : Cx) (C : Cn) (W : WX) (k : Ck) (g : G) (e : Expr) : Prop where
  pe : chk m .v k e = true → PE X e (tM C W (den g m))
  pt : chk m .t k e = true → PT X e (tMt C W (den g m)) ∧ (isBo e = true → PW X e (tMt C W (den g m)))
  ps : chk m .s k e = true → ∀ tg x, PI X tg e (tI C W x (if x = true then eSeqX (den g m) else eSeq (den g m)))
  pc : chk m .v k e = true → ∀ elt cs scope pos y py spos i io ow, e = .ListComp elt cs scope pos → X.N[i]? = some y → stoOk X.env.scope X.fn y = true → X.env.scope.kind = .function → i ∉ io → PS X (.Assign [.Name y py] e spos) (tS C W io (sSet ow i (den g m)))
def AllSound (m : Xp) : Prop := ∀ {X C W k g} (_ : Gd X C W k g) (e : Expr), Sound m X C W k g e
theorem pi_both {X : Cx} {C : Cn} {W : WX} {e : Expr} {m : Env → Res R} (hK : X.K = C.K) (h : PE X e (tM C W m)) (tg : Expr) (x : Bool) : PI X tg e (tI C W x (if x = true then eSeqX m else eSeq m)) := by
  cases x with
  | true => exact pi_seqMX hK h
  | false => exact pi_seqM hK h
theorem Sound.mk' {m : Xp} {X : Cx} {C : Cn} {W : WX} {k : Ck} {g : G} {e : Expr} (gd : Gd X C W k g) (body : Bool) (hd : ∀ t, chk m t k e = (pl t e && body)) (h : body = true → PE X e (tM C W (den g m)))
    (hc : body = true → ∀ elt cs scope pos, e ≠ .ListComp elt cs scope pos) : Sound m X C W k g e where
  pe := fun q => h (by rw [hd, Bool.and_eq_true] at q; exact q.2)
  pt := fun q => by
    rw [hd, Bool.and_eq_true] at q
    exact ⟨pt_of (h q.2) (isTrue_of q.1), fun z => by rw [plainTest_bo q.1] at z; cases z⟩
  ps := fun q tg x => pi_both gd.hK (h (by rw [hd, Bool.and_eq_true] at q; exact q.2)) tg x
  pc := fun q elt cs scope pos _ _ _ _ _ _ z => absurd z (hc (by rw [hd, Bool.and_eq_true] at q; exact q.2) elt cs scope pos)
section
variable {X : Cx} {C : Cn} {W : WX} {k : Ck} {g : G}
theorem Sound.lg {m : Xp} {e : Expr} (gd : Gd X C W k g) (pe : chk m .v k e = true → PE X e (tM C W (den g m))) (pt : chk m .t k e = true → PT X e (tMt C W (den g m)) ∧ (isBo e = true → PW X e (tMt C W (den g m)))) (hs : chk m .s k e = false)
    (hc : chk m .v k e = true → ∀ elt cs scope pos, e ≠ .ListComp elt cs scope pos) : Sound m X C W k g e :=
  ⟨pe, pt, fun q => (by rw [hs] at q; cases q), fun q elt cs scope pos _ _ _ _ _ _ z _ _ _ _ => absurd z (hc q elt cs scope pos)⟩
end
def AllsSound (ms : List Xp) : Prop := (∀ {X C W k g} (_ : Gd X C W k g) (es : List Expr), chks ms k es = true → es.all noStar = true → PA X es (tMs C W (eArgs (dens g ms))) ∧ es.length = ms.length) ∧
  (∀ {X C W k g} (_ : Gd X C W k g) (o : Option Expr), chko ms k o = true → (∀ e, o = some e → ∃ m, (dens g ms).head? = some m ∧ PE X e (tM C W m)) ∧ (o = none → (dens g ms).head? = none)) ∧
  (∀ {X C W k g} (_ : Gd X C W k g) (es : List Expr), chkt ms k es = true → PTs X es (tTt C W (dens g ms).head?)) ∧
  (∀ {X C W k g} (_ : Gd X C W k g) (es : List Expr), chks ms k es = true → PEs X C W es (dens g ms))
theorem sound_nil : AllsSound [] := by
  refine ⟨fun gd es h _ => ?_, fun gd o h => ?_, fun gd es h => ?_, fun gd es h => ?_⟩
  · simp only [chks, List.isEmpty_iff] at h
    subst h
    exact ⟨pa_nilM, rfl⟩
  · simp only [chko, Option.isNone_iff_eq_none] at h
    subst h
    exact ⟨fun e z => (by cases z), fun _ => rfl⟩
  · simp only [chkt, List.isEmpty_iff] at h
    subst h
    exact pts_nil
  · simp only [chks, List.isEmpty_iff] at h
    subst h
    exact .nil
theorem sound_cons {m : Xp} {ms : List Xp} (h : AllSound m) (hs : AllsSound ms) : AllsSound (m :: ms) := by
  refine ⟨fun gd es q st => ?_, fun gd o q => ?_, fun gd es q => ?_, fun gd es q => ?_⟩
  · simp only [chks] at q
    split at q
    · next e es =>
      rw [Bool.and_eq_true] at q
      rw [List.all_cons, Bool.and_eq_true] at st
      obtain ⟨a, b⟩ := hs.1 gd es q.2 st.2
      exact ⟨pa_consM ((h gd e).pe q.1) a (starEach_cons st.1), by rw [List.length_cons, List.length_cons, b]⟩
    · cases q
  · simp only [chko] at q
    split at q
    · next e =>
      rw [Bool.and_eq_true] at q
      exact ⟨fun e' z => by cases z; exact ⟨_, rfl, (h gd e).pe q.2⟩, fun z => by cases z⟩
    · cases q
  · simp only [chkt] at q
    split at q
    · next e =>
      rw [Bool.and_eq_true] at q
      exact pts_one ((h gd e).pt q.2).1
    · cases q
  · simp only [chks] at q
    split at q
    · next e es =>
      rw [Bool.and_eq_true] at q
      exact .cons ((h gd e).pe q.1) (hs.2.2.2 gd es q.2)
    · cases q
theorem s_var (i : Nat) : AllSound (.var i) := fun {X C W k g} gd e => by
  refine Sound.mk' gd _ (fun t => by unfold chk; rfl) (fun h => ?_) (fun h => ?_)
  · split at h
    · simp only [Bool.and_eq_true, decide_eq_true_eq] at h
      obtain ⟨h1, h2, h3⟩ := h
      rw [← gd.sc] at h2
      obtain ⟨a, b⟩ := okName_of h3
      rw [den]
      exact pe_name gd.hK (by rw [gd.hN]; exact h1) (vis_of h2) a b
    · cases h
  · intro _ _ _ _ z; subst z; cases h
theorem s_cst (d : D) : AllSound (.cst d) := fun {X C W k g} gd e => by
  refine Sound.mk' gd _ (fun t => by unfold chk; rfl) (fun h => ?_) (fun h => ?_)
  · split at h
    · rw [den]; exact pe_cst h
    · cases h
  · intro _ _ _ _ z; subst z; cases h
theorem s_glo (y : Str) : AllSound (.glo y) := fun {X C W k g} gd e => by
  refine Sound.mk' gd _ (fun t => by unfold chk; rfl) (fun h => ?_) (fun h => ?_)
  · split at h
    · simp only [Bool.and_eq_true, decide_eq_true_eq] at h
      obtain ⟨rfl, h2, h3⟩ := h
      rw [← gd.sc] at h2
      rw [den]
      exact pe_gloM gd (glo_of h2) (okName_of h3).1
    · cases h
  · intro _ _ _ _ z; subst z; cases h
theorem s_tup (es : List Xp) (ih : AllsSound es) : AllSound (.tup es) := fun {X C W k g} gd e => by
  refine Sound.mk' gd _ (fun t => by unfold chk; rfl) (fun h => ?_) (fun h => ?_)
  · split at h
    · rw [Bool.and_eq_true] at h
      rw [den]; exact pe_tupM (ih.1 gd _ h.2 h.1).1
    · cases h
  · intro _ _ _ _ z; subst z; cases h
theorem s_lst (es : List Xp) (ih : AllsSound es) : AllSound (.lst es) := fun {X C W k g} gd e => by
  refine Sound.mk' gd _ (fun t => by unfold chk; rfl) (fun h => ?_) (fun h => ?_)
  · split at h
    · rw [Bool.and_eq_true] at h
      rw [den]; exact pe_lstM (ih.1 gd _ h.2 h.1).1
    · cases h
  · intro _ _ _ _ z; subst z; cases h
theorem s_and (a b : Xp) (ha : AllSound a) (hb : AllSound b) : AllSound (.and a b) := fun {X C W k g} gd e => by
  refine Sound.lg gd (fun h => ?_) (fun h => ?_) (by unfold chk; rfl) (fun h => ?_)
  · unfold chk at h; rw [Bool.and_eq_true] at h
    obtain ⟨_, h⟩ := h
    split at h
    · next x y r p =>
      rw [Bool.and_eq_true] at h
      rw [den]
      refine pe_andM ((ha gd x).pe h.1) ?_
      have h2 := h.2
      split at h2
      · exact pe_one ((hb gd y).pe h2)
      · exact (hb gd _).pe h2
    · cases h
  · unfold chk at h; rw [Bool.and_eq_true] at h
    obtain ⟨_, h⟩ := h
    split at h
    · next x y r p =>
      rw [Bool.and_eq_true] at h
      rw [den]
      have w : PW X (.BoolOp .And (x :: y :: r) p) (tMt C W (eAnd (den g a) (den g b))) := by
        refine pw_andM ((ha gd x).pt h.1).1 ?_
        have h2 := h.2
        split at h2
        · exact pw_and1 ((hb gd y).pt h2).1
        · exact ((hb gd _).pt h2).2 rfl
      exact ⟨w.pt, fun _ => w⟩
    · cases h
  · unfold chk at h; rw [Bool.and_eq_true] at h
    obtain ⟨_, h⟩ := h
    intro _ _ _ _ z; subst z; cases h
theorem s_or (a b : Xp) (ha : AllSound a) (hb : AllSound b) : AllSound (.or a b) := fun {X C W k g} gd e => by
  refine Sound.lg gd (fun h => ?_) (fun h => ?_) (by unfold chk; rfl) (fun h => ?_)
  · unfold chk at h; rw [Bool.and_eq_true] at h
    obtain ⟨_, h⟩ := h
    split at h
    · next x y r p =>
      rw [Bool.and_eq_true] at h
      rw [den]
      refine pe_orM ((ha gd x).pe h.1) ?_
      have h2 := h.2
      split at h2
      · exact pe_one ((hb gd y).pe h2)
      · exact (hb gd _).pe h2
    · cases h
  · unfold chk at h; rw [Bool.and_eq_true] at h
    obtain ⟨_, h⟩ := h
    split at h
    · next x y r p =>
      rw [Bool.and_eq_true] at h
      rw [den]
      have w : PW X (.BoolOp .Or (x :: y :: r) p) (tMt C W (eOr (den g a) (den g b))) := by
        refine pw_orM ((ha gd x).pt h.1).1 ?_
        have h2 := h.2
        split at h2
        · exact pw_or1 ((hb gd y).pt h2).1
        · exact ((hb gd _).pt h2).2 rfl
      exact ⟨w.pt, fun _ => w⟩
    · cases h
  · unfold chk at h; rw [Bool.and_eq_true] at h
    obtain ⟨_, h⟩ := h
    intro _ _ _ _ z; subst z; cases h
theorem s_not (a : Xp) (ha : AllSound a) : AllSound (.not a) := fun {X C W k g} gd e => by
  refine Sound.lg gd (fun h => ?_) (fun h => ?_) (by unfold chk; rfl) (fun h => ?_)
  · unfold chk at h; rw [Bool.and_eq_true] at h
    obtain ⟨_, h⟩ := h
    split at h
    · rw [den]; exact pe_notM ((ha gd _).pe h)
    · cases h
  · unfold chk at h; rw [Bool.and_eq_true] at h
    obtain ⟨_, h⟩ := h
    split at h
    · rw [den]; exact ⟨pt_notM ((ha gd _).pt h).1, fun z => by cases z⟩
    · cases h
  · unfold chk at h; rw [Bool.and_eq_true] at h
    obtain ⟨_, h⟩ := h
    intro _ _ _ _ z; subst z; cases h
theorem s_neg (a : Xp) (ha : AllSound a) : AllSound (.neg a) := fun {X C W k g} gd e => by
  refine Sound.mk' gd _ (fun t => by unfold chk; rfl) (fun h => ?_) (fun h => ?_)
  · split at h
    · rw [den]; exact pe_negM ((ha gd _).pe h)
    · cases h
  · intro _ _ _ _ z; subst z; cases h
theorem s_bin (op : Operator) (a b : Xp) (ha : AllSound a) (hb : AllSound b) : AllSound (.bin op a b) := fun {X C W k g} gd e => by
  refine Sound.mk' gd _ (fun t => by unfold chk; rfl) (fun h => ?_) (fun h => ?_)
  · split at h
    · simp only [Bool.and_eq_true, decide_eq_true_eq] at h
      obtain ⟨rfl, h1, h2⟩ := h
      rw [den]; exact pe_binM gd.hK ((ha gd _).pe h1) ((hb gd _).pe h2)
    · cases h
  · intro _ _ _ _ z; subst z; cases h
theorem s_cmp (op : CmpOp) (a b : Xp) (ha : AllSound a) (hb : AllSound b) : AllSound (.cmp op a b) := fun {X C W k g} gd e => by
  refine Sound.lg gd (fun h => ?_) (fun h => ?_) (by unfold chk; rfl) (fun h => ?_)
  · unfold chk at h; rw [Bool.and_eq_true] at h
    obtain ⟨_, h⟩ := h
    split at h
    · simp only [Bool.and_eq_true, decide_eq_true_eq, Bool.not_eq_true'] at h
      obtain ⟨rfl, h0, h1, h2⟩ := h
      rw [den]; exact pe_cmpM gd.hK gd.un ((ha gd _).pe h1) ((hb gd _).pe h2) h0
    · cases h
  · unfold chk at h; rw [Bool.and_eq_true] at h
    obtain ⟨_, h⟩ := h
    split at h
    · simp only [Bool.and_eq_true, decide_eq_true_eq, Bool.not_eq_true'] at h
      obtain ⟨rfl, h0, h1, h2⟩ := h
      rw [den]; exact ⟨pt_cmpM gd.hK gd.un ((ha gd _).pe h1) ((hb gd _).pe h2) h0, fun z => by cases z⟩
    · cases h
  · unfold chk at h; rw [Bool.and_eq_true] at h
    obtain ⟨_, h⟩ := h
    intro _ _ _ _ z; subst z; cases h
theorem s_chn (op op' : CmpOp) (a b c : Xp) (ha : AllSound a) (hb : AllSound b) (hc : AllSound c) : AllSound (.chn op op' a b c) := fun {X C W k g} gd e => by
  refine Sound.lg gd (fun h => ?_) (fun h => ?_) (by unfold chk; rfl) (fun h => ?_)
  · unfold chk at h; rw [Bool.and_eq_true] at h
    obtain ⟨_, h⟩ := h
    split at h
    · simp only [Bool.and_eq_true, decide_eq_true_eq, Bool.not_eq_true'] at h
      obtain ⟨rfl, rfl, h0, h1, h2, h3⟩ := h
      rw [den]; exact pe_chainM gd.hK (pe_chain (opR_cmp gd.un _) (opR_cmp gd.un _) ((ha gd _).pe h1) ((hb gd _).pe h2) ((hc gd _).pe h3) h0)
    · cases h
  · unfold chk at h; rw [Bool.and_eq_true] at h
    obtain ⟨_, h⟩ := h
    split at h
    · simp only [Bool.and_eq_true, decide_eq_true_eq, Bool.not_eq_true'] at h
      obtain ⟨rfl, rfl, h0, h1, h2, h3⟩ := h
      rw [den]; exact ⟨pt_chainM gd.hK (pt_chain (opR_cmp gd.un _) (opR_cmp gd.un _) ((ha gd _).pe h1) ((hb gd _).pe h2) ((hc gd _).pe h3) h0), fun z => by cases z⟩
    · cases h
  · unfold chk at h; rw [Bool.and_eq_true] at h
    obtain ⟨_, h⟩ := h
    intro _ _ _ _ z; subst z; cases h
theorem s_kin (x : Str) (ks : List Str) (ds : List D) (a : Xp) (ha : AllSound a) : AllSound (.kin x ks ds a) := fun {X C W k g} gd e => by
  have sc : ∀ {x}, gloOk k.sc x = true → Gl X x := fun z => glo_of (by rw [gd.sc]; exact z)
  refine Sound.lg gd (fun h => ?_) (fun h => ?_) (by unfold chk; rfl) (fun h => ?_)
  · unfold chk at h; rw [Bool.and_eq_true] at h
    obtain ⟨_, h⟩ := h
    split at h
    · simp only [Bool.and_eq_true, decide_eq_true_eq, Bool.not_eq_true'] at h
      obtain ⟨rfl, h0, h1, h2, h3, h4⟩ := h
      rw [den]; exact pe_kinM (gd.kdAt h3) (sc h1) (okName_of h2).1 ((ha gd _).pe h4) h0
    · cases h
  · unfold chk at h; rw [Bool.and_eq_true] at h
    obtain ⟨_, h⟩ := h
    split at h
    · simp only [Bool.and_eq_true, decide_eq_true_eq, Bool.not_eq_true'] at h
      obtain ⟨rfl, h0, h1, h2, h3, h4⟩ := h
      rw [den]; exact ⟨pt_kinM (gd.kdAt h3) (sc h1) (okName_of h2).1 ((ha gd _).pe h4) h0, fun z => by cases z⟩
    · cases h
  · unfold chk at h; rw [Bool.and_eq_true] at h
    obtain ⟨_, h⟩ := h
    intro _ _ _ _ z; subst z; cases h
theorem s_kix (x : Str) (ks : List Str) (ds : List D) (a : Xp) (ha : AllSound a) : AllSound (.kix x ks ds a) := fun {X C W k g} gd e => by
  have sc : ∀ {x}, gloOk k.sc x = true → Gl X x := fun z => glo_of (by rw [gd.sc]; exact z)
  refine Sound.mk' gd _ (fun t => by unfold chk; rfl) (fun h => ?_) (fun h => ?_)
  · split at h
    · simp only [Bool.and_eq_true, decide_eq_true_eq] at h
      obtain ⟨rfl, h0, h1, h2, h3, h4⟩ := h
      rw [den]; exact pe_kixM (gd.kdAt h3) (sc h1) (okName_of h2).1 ((ha gd _).pe h4) (plainIx_of h0)
    · cases h
  · intro _ _ _ _ z; subst z; cases h
theorem s_ite (c a b : Xp) (hc : AllSound c) (ha : AllSound a) (hb : AllSound b) : AllSound (.ite c a b) := fun {X C W k g} gd e => by
  refine Sound.mk' gd _ (fun t => by unfold chk; rfl) (fun h => ?_) (fun h => ?_)
  · split at h
    · simp only [Bool.and_eq_true] at h
      obtain ⟨h1, h2, h3⟩ := h
      rw [den]; exact pe_iteM ((hc gd _).pt h1).1 ((ha gd _).pe h2) ((hb gd _).pe h3)
    · cases h
  · intro _ _ _ _ z; subst z; cases h
theorem s_ix (a b : Xp) (ha : AllSound a) (hb : AllSound b) : AllSound (.ix a b) := fun {X C W k g} gd e => by
  refine Sound.mk' gd _ (fun t => by unfold chk; rfl) (fun h => ?_) (fun h => ?_)
  · split at h
    · simp only [Bool.and_eq_true] at h
      obtain ⟨h1, h2, h3⟩ := h
      rw [den]; exact pe_ixM gd.hK gd.un ((ha gd _).pe h2) ((hb gd _).pe h3) (plainIx_of h1)
    · cases h
  · intro _ _ _ _ z; subst z; cases h
theorem s_sl (a : Xp) (lo hi : List Xp) (ha : AllSound a) (hl : AllsSound lo) (hh : AllsSound hi) : AllSound (.sl a lo hi) := fun {X C W k g} gd e => by
  refine Sound.mk' gd _ (fun t => by unfold chk; rfl) (fun h => ?_) (fun h => ?_)
  · split at h
    · simp only [Bool.and_eq_true] at h
      obtain ⟨h1, h2, h3⟩ := h
      obtain ⟨a1, a2⟩ := hl.2.1 gd _ h2
      obtain ⟨b1, b2⟩ := hh.2.1 gd _ h3
      rw [den]; exact pe_slM gd.hK ((ha gd _).pe h1) a1 a2 b1 b2
    · cases h
  · intro _ _ _ _ z; subst z; cases h
theorem s_blt (b : Bt) (es : List Xp) (ih : AllsSound es) : AllSound (.blt b es) := fun {X C W k g} gd e => by
  refine Sound.mk' gd _ (fun t => by unfold chk; rfl) (fun h => ?_) (fun h => ?_)
  · split at h
    · simp only [Bool.and_eq_true, decide_eq_true_eq] at h
      obtain ⟨rfl, h2, h3, hb, h4, h5⟩ := h
      rw [← gd.sc] at h2
      rw [den]; exact pe_btM gd b (by rw [Bool.or_eq_true] at hb; exact hb.imp id gd.calm) (glo_of h2) (gd.bs _ h3) (ih.1 gd _ h5 h4).1 h4
    · cases h
  · intro _ _ _ _ z; subst z; cases h
theorem s_isi (a : Xp) (T : Ty) (ha : AllSound a) : AllSound (.isi a T) := fun {X C W k g} gd e => by
  refine Sound.mk' gd _ (fun t => by unfold chk; rfl) (fun h => ?_) (fun h => ?_)
  · split at h
    · simp only [Bool.and_eq_true, decide_eq_true_eq] at h
      obtain ⟨rfl, rfl, h2, h3, h4, h5, h6, h7⟩ := h
      rw [← gd.sc] at h2 h3
      rw [den]; exact pe_isM gd T (glo_of h2) (gd.bs _ h4) (glo_of h3) (gd.bs _ h5) ((ha gd _).pe h7) h6
    · cases h
  · intro _ _ _ _ z; subst z; cases h
theorem s_join (a b : Xp) (ha : AllSound a) (hb : AllSound b) : AllSound (.join a b) := fun {X C W k g} gd e => by
  refine Sound.mk' gd _ (fun t => by unfold chk; rfl) (fun h => ?_) (fun h => ?_)
  · split at h
    · simp only [Bool.and_eq_true, decide_eq_true_eq] at h
      obtain ⟨rfl, h2, h3, h4, h5, h6⟩ := h
      rw [den]; exact pe_joinM gd.hK ((ha gd _).pe h5) ((hb gd _).pe h6) h2 h3 h4
    · cases h
  · intro _ _ _ _ z; subst z; cases h
theorem s_get2 (a b c : Xp) (ha : AllSound a) (hb : AllSound b) (hc : AllSound c) : AllSound (.get2 a b c) := fun {X C W k g} gd e => by
  refine Sound.mk' gd _ (fun t => by unfold chk; rfl) (fun h => ?_) (fun h => ?_)
  · split at h
    · simp only [Bool.and_eq_true, decide_eq_true_eq] at h
      obtain ⟨rfl, h2, h3, h4, h5, h6, h7, h8⟩ := h
      rw [den]; exact pe_get2M gd.un ((ha gd _).pe h6) ((hb gd _).pe h7) ((hc gd _).pe h8) h4 h2 h3 h5
    · cases h
  · intro _ _ _ _ z; subst z; cases h
theorem s_get1 (a b : Xp) (ha : AllSound a) (hb : AllSound b) : AllSound (.get1 a b) := fun {X C W k g} gd e => by
  refine Sound.mk' gd _ (fun t => by unfold chk; rfl) (fun h => ?_) (fun h => ?_)
  · split at h
    · simp only [Bool.and_eq_true, decide_eq_true_eq] at h
      obtain ⟨rfl, h2, h3, h4, h5, h6⟩ := h
      rw [den]; exact pe_get1M gd.un ((ha gd _).pe h5) ((hb gd _).pe h6) h3 h2 h4
    · cases h
  · intro _ _ _ _ z; subst z; cases h
theorem s_dct0 (tk : Bool) : AllSound (.dct0 tk) := fun {X C W k g} gd e => by
  refine Sound.mk' gd _ (fun t => by unfold chk; rfl) (fun h => ?_) (fun h => ?_)
  · split at h
    · rw [den]; exact pe_dct0M tk
    · cases h
  · intro _ _ _ _ z; subst z; cases h
theorem s_din (neg : Bool) (a b : Xp) (ha : AllSound a) (hb : AllSound b) : AllSound (.din neg a b) := fun {X C W k g} gd e => by
  refine Sound.lg gd (fun h => ?_) (fun h => ?_) (by unfold chk; rfl) (fun h => ?_)
  · unfold chk at h; rw [Bool.and_eq_true] at h
    obtain ⟨_, h⟩ := h
    split at h
    · simp only [Bool.and_eq_true, Bool.not_eq_true'] at h
      obtain ⟨rfl, h0, h1, h2⟩ := h
      rw [den]; exact pe_dinM gd.hK gd.un ((ha gd _).pe h1) ((hb gd _).pe h2) h0
    · simp only [Bool.and_eq_true, Bool.not_eq_true'] at h
      obtain ⟨rfl, h0, h1, h2⟩ := h
      rw [den]; exact pe_dninM gd.hK gd.un ((ha gd _).pe h1) ((hb gd _).pe h2) h0
    · cases h
  · unfold chk at h; rw [Bool.and_eq_true] at h
    obtain ⟨_, h⟩ := h
    split at h
    · simp only [Bool.and_eq_true, Bool.not_eq_true'] at h
      obtain ⟨rfl, h0, h1, h2⟩ := h
      rw [den]; exact ⟨pt_dinM gd.hK gd.un ((ha gd _).pe h1) ((hb gd _).pe h2) h0, fun z => by cases z⟩
    · simp only [Bool.and_eq_true, Bool.not_eq_true'] at h
      obtain ⟨rfl, h0, h1, h2⟩ := h
      rw [den]; exact ⟨pt_dninM gd.hK gd.un ((ha gd _).pe h1) ((hb gd _).pe h2) h0, fun z => by cases z⟩
    · cases h
  · unfold chk at h; rw [Bool.and_eq_true] at h
    obtain ⟨_, h⟩ := h
    intro _ _ _ _ z; subst z; cases h
theorem s_call (f : Nat) (es : List Xp) (dd : List D) (ih : AllsSound es) : AllSound (.call f es dd) := fun {X C W k g} gd e => by
  refine Sound.mk' gd _ (fun t => by unfold chk; rfl) (fun h => ?_) (fun h => ?_)
  · split at h
    · simp only [Bool.and_eq_true, decide_eq_true_eq] at h
      obtain ⟨h1, h2, h3, h4, h5⟩ := h
      rw [← gd.sc] at h2
      rw [den]; exact pe_ownM gd.hK gd.tk (gd.fsAt h1) (glo_of h2) (okName_of h3).1 (ih.1 gd _ h5 h4).1 h4 (by rw [dens_len])
    · cases h
  · intro _ _ _ _ z; subst z; cases h
theorem rngV_seq {ms : List (Env → Res R)} : eSeq (eRngV ms) = eRng ms := by
  funext ρ
  unfold eSeq eRngV toRes
  cases eRng ms ρ <;> rfl
theorem rngV_seqX {ms : List (Env → Res R)} : eSeqX (eRngV ms) = eRng ms := by
  funext ρ
  unfold eSeqX eRngV toRes
  cases eRng ms ρ <;> rfl
theorem s_rng (es : List Xp) (ih : AllsSound es) : AllSound (.rng es) := fun {X C W k g} gd e => by
  refine ⟨fun h => ?_, fun h => ?_, fun h tg x => ?_, fun h => ?_⟩
  · unfold chk at h; rw [Bool.and_eq_true] at h; cases h.1
  · unfold chk at h; rw [Bool.and_eq_true] at h; cases h.1
  · unfold chk at h; rw [Bool.and_eq_true] at h
    obtain ⟨_, h⟩ := h
    split at h
    · simp only [Bool.and_eq_true, decide_eq_true_eq, Bool.or_eq_true, beq_iff_eq] at h
      obtain ⟨rfl, h2, h3, h4, h5, h6⟩ := h
      rw [← gd.sc] at h2
      rw [den, rngV_seq, rngV_seqX, ite_self]
      obtain ⟨q1, q2⟩ := ih.1 gd _ h6 h5
      exact pi_rngM (glo_of h2) (gd.bs _ h3) q1 h5 h4 (by rw [dens_len, q2])
    · cases h
  · unfold chk at h; rw [Bool.and_eq_true] at h; cases h.1
theorem ownOf_map (N : List Str) (is : List Nat) : (ownOf N is).map (·.2) = is := by
  unfold ownOf
  rw [List.map_map]
  exact List.map_id' is
theorem s_lc (elt : Xp) (t : Tg) (src : Xp) (tt : List Xp) (h1 : AllSound elt) (h2 : AllSound src) (h3 : AllsSound tt) : AllSound (.lc elt t src tt) := fun {X C W k g} gd e => by
  have key : ∀ {x : Expr} {tg it : Expr} {ifs : List Expr} {a : Int} {sc : Scope}, (decide (a = 0) && k.calm && (chkTg k.N (k.blk sc).sc (k.blk sc).fn tg t && (blkC k.N k.sc sc (ownOf k.N t.slots) && (plainIter it && (chk src .s k it && (chkt tt (k.blk sc) ifs && chk elt .v (k.blk sc) x)))))) = true →
      a = 0 ∧ X.calm = true ∧ PI X tg it (tI C W false (eSeq (den g src))) ∧ BlkOk X.N X.env.scope sc (ownOf X.N t.slots) ∧ plainIter it = true ∧
      (∀ σ, BlkE X sc (WBl W σ) fun B => PG B tg (tgT X.K t)) ∧ (∀ σ, BlkE X sc (WBl W σ) fun B => PTs B ifs (tTt C (WBl W σ) (dens g tt).head?)) ∧
      (∀ σ, BlkE X sc (WBl W σ) fun B => PE B x (tM C (WBl W σ) (den g elt))) := by
    intro x tg it ifs a sc h
    simp only [Bool.and_eq_true, decide_eq_true_eq] at h
    obtain ⟨⟨q0, qc⟩, q1, q2, q3, q4, q5, q6⟩ := h
    have hcalm := gd.calm qc
    refine ⟨q0, hcalm, (h2 gd it).ps q4 tg false, ?_, q3, fun σ s H C' cl fp E tk' tf' => ?_, fun σ s H C' cl fp E tk' tf' => ?_, fun σ s H C' cl fp E tk' tf' => ?_⟩
    · rw [gd.hN, gd.sc]; exact blkOk_by q2
    · have gb := gd.blkE s H sc C' cl fp tk' tf'
      refine pg_of gb.nd (gb.calm qc) ?_
      rw [gb.hN, gb.sc, gb.fn]
      exact q1
    · exact h3.2.2.1 (gd.blkE s H sc C' cl fp tk' tf') ifs q5
    · exact (h1 (gd.blkE s H sc C' cl fp tk' tf') x).pe q6
  have pe : chk (.lc elt t src tt) .v k e = true → PE X e (tM C W (den g (.lc elt t src tt))) := fun h => by
    unfold chk at h; rw [Bool.and_eq_true] at h
    obtain ⟨_, h⟩ := h
    split at h
    · obtain ⟨rfl, k0, k1, k2, k3, k4, k5, k6⟩ := key h
      rw [den]
      obtain ⟨F, top⟩ := gd.top
      exact pe_lcM gd.hK k0 gd.nd top gd.tf k1 k2 (ownOf_map _ _) k4 k5 k6 k3
    · cases h
  have any : ∀ t', chk (.lc elt t src tt) t' k e = true → chk (.lc elt t src tt) .v k e = true := fun t' h => by
    unfold chk at h ⊢; rw [Bool.and_eq_true] at h ⊢
    exact ⟨rfl, h.2⟩
  refine ⟨pe, fun h => ?_, fun h tg x => pi_both gd.hK (pe (any _ h)) tg x, fun h => ?_⟩
  · have h' := any _ h
    unfold chk at h; rw [Bool.and_eq_true] at h
    exact ⟨pt_of (pe h') (isTrue_of h.1), fun z => by rw [plainTest_bo h.1] at z; cases z⟩
  · intro elt' cs scope pos y py spos i io ow ee hi hst hk hio
    subst ee
    by_cases hb : swB X.env scope y py pos = true
    · unfold chk at h; rw [Bool.and_eq_true] at h
      obtain ⟨_, h⟩ := h
      split at h
      · next x tg it ifs a sc p ee =>
        cases ee
        obtain ⟨rfl, k0, k1, k2, k3, k4, k5, k6⟩ := key h
        unfold swB at hb
        simp only [Bool.and_eq_true, beq_iff_eq, Bool.not_eq_true'] at hb
        rw [den]
        obtain ⟨F, top⟩ := gd.top
        exact ps_setLcM gd.hK k0 gd.nd top gd.tf hi hb.1.1.2 hk (beq_iff_eq.mpr hb.1.2) hb.2 hio k1 k2 (ownOf_map _ _) k4 k5 k6 k3
      · cases h
    · have hb' : swB X.env scope y py pos = false := Bool.eq_false_iff.mpr hb
      obtain ⟨s1, s2⟩ := stoOk_loc hst
      exact PS.weak (ps_set gd.nd hi s1 (pe h) (by rw [swaps_lc hk, hb']) s2) (tAsg_set (fun _ _ _ h => h) hio)
theorem s_lcd (elt : Xp) (t : Tg) (d : Dk) (src : Xp) (tt : List Xp) (h1 : AllSound elt) (h2 : AllSound src) (h3 : AllsSound tt) : AllSound (.lcd elt t d src tt) := fun {X C W k g} gd e => by
  have key : ∀ {x : Expr} {tg it : Expr} {ifs : List Expr} {a : Int} {sc : Scope}, (decide (a = 0) && k.calm && (chkTg k.N (k.blk sc).sc (k.blk sc).fn tg t && (blkC k.N k.sc sc (ownOf k.N t.slots) && (plainIter it && (tupT d tg && ((match dIter d it with | some b => chk src .v k b | none => false) && (chkt tt (k.blk sc) ifs && chk elt .v (k.blk sc) x))))))) = true →
      a = 0 ∧ X.calm = true ∧ PI X tg it (tID X C W d (den g src)) ∧ BlkOk X.N X.env.scope sc (ownOf X.N t.slots) ∧ plainIter it = true ∧
      (∀ (s : Shared) (H : Hp) (C' : Addr) (cl : List (Str × Addr)) (fp : List Addr), PG (X.blk s H sc (compEnvC sc cl C' X.env) fp) tg (tgT X.K t)) ∧
      (∀ (s : Shared) (H : Hp) (C' : Addr) (cl : List (Str × Addr)) (fp : List Addr), PTs (X.blk s H sc (compEnvC sc cl C' X.env) fp) ifs (tTt C WN (dens g tt).head?)) ∧
      (∀ (s : Shared) (H : Hp) (C' : Addr) (cl : List (Str × Addr)) (fp : List Addr), PE (X.blk s H sc (compEnvC sc cl C' X.env) fp) x (tM C WN (den g elt))) := by
    intro x tg it ifs a sc h
    simp only [Bool.and_eq_true, decide_eq_true_eq] at h
    obtain ⟨⟨q0, qc⟩, q1, q2, q3, qt, q4, q5, q6⟩ := h
    have hcalm := gd.calm qc
    have hpi : (match dIter d it with | some b => chk src .v k b | none => false) = true → tupT d tg = true → PI X tg it (tID X C W d (den g src)) := fun z zt => by
      split at z
      · next b eb => exact pi_dit eb zt ((h2 gd b).pe z)
      · cases z
    refine ⟨q0, hcalm, hpi q4 qt, ?_, q3, fun s H C' cl fp => ?_, fun s H C' cl fp => ?_, fun s H C' cl fp => ?_⟩
    · rw [gd.hN, gd.sc]; exact blkOk_by q2
    · have gb := gd.blk s H sc C' cl fp
      refine pg_of gb.nd (gb.calm qc) ?_
      rw [gb.hN, gb.sc, gb.fn]
      exact q1
    · exact h3.2.2.1 (gd.blk s H sc C' cl fp) ifs q5
    · exact (h1 (gd.blk s H sc C' cl fp) x).pe q6
  have pe : chk (.lcd elt t d src tt) .v k e = true → PE X e (tM C W (den g (.lcd elt t d src tt))) := fun h => by
    unfold chk at h; rw [Bool.and_eq_true] at h
    obtain ⟨_, h⟩ := h
    split at h
    · obtain ⟨rfl, k0, k1, k2, k3, k4, k5, k6⟩ := key h
      rw [den]
      exact pe_lcDM gd.hK k0 gd.nd k1 k2 (ownOf_map _ _) k4 k5 k6 k3
    · cases h
  have any : ∀ t', chk (.lcd elt t d src tt) t' k e = true → chk (.lcd elt t d src tt) .v k e = true := fun t' h => by
    unfold chk at h ⊢; rw [Bool.and_eq_true] at h ⊢
    exact ⟨rfl, h.2⟩
  refine ⟨pe, fun h => ?_, fun h tg x => pi_both gd.hK (pe (any _ h)) tg x, fun h => ?_⟩
  · have h' := any _ h
    unfold chk at h; rw [Bool.and_eq_true] at h
    exact ⟨pt_of (pe h') (isTrue_of h.1), fun z => by rw [plainTest_bo h.1] at z; cases z⟩
  · intro elt' cs scope pos y py spos i io ow ee hi hst hk hio
    subst ee
    by_cases hb : swB X.env scope y py pos = true
    · unfold chk at h; rw [Bool.and_eq_true] at h
      obtain ⟨_, h⟩ := h
      split at h
      · next x tg it ifs a sc p ee =>
        cases ee
        obtain ⟨rfl, k0, k1, k2, k3, k4, k5, k6⟩ := key h
        unfold swB at hb
        simp only [Bool.and_eq_true, beq_iff_eq, Bool.not_eq_true'] at hb
        rw [den]
        exact ps_setLcDM gd.hK k0 gd.nd hi hb.1.1.2 hk (beq_iff_eq.mpr hb.1.2) hb.2 hio k1 k2 (ownOf_map _ _) k4 k5 k6 k3
      · cases h
    · have hb' : swB X.env scope y py pos = false := Bool.eq_false_iff.mpr hb
      obtain ⟨s1, s2⟩ := stoOk_loc hst
      exact PS.weak (ps_set gd.nd hi s1 (pe h) (by rw [swaps_lc hk, hb']) s2) (tAsg_set (fun _ _ _ h => h) hio)
theorem s_op (o : Op) (es : List Xp) (ih : AllsSound es) : AllSound (.op o es) := fun {X C W k g} gd e => by
  refine Sound.mk' gd _ (fun t => by unfold chk; rfl) (fun h => ?_) (fun h => ?_)
  · rw [Bool.and_eq_true] at h
    obtain ⟨_, h⟩ := h
    split at h
    · next xs ex =>
      rw [den]
      exact op_ok gd (by rw [dens_len]; exact ex) (ih.2.2.2 gd xs h)
    · cases h
  · rw [Bool.and_eq_true, Bool.not_eq_true'] at h
    exact opParts_lc h.1
mutual
theorem sound : ∀ m : Xp, AllSound m
  | .var i => s_var i
  | .cst d => s_cst d
  | .glo x => s_glo x
  | .tup es => s_tup es (sounds es)
  | .lst es => s_lst es (sounds es)
  | .and a b => s_and a b (sound a) (sound b)
  | .or a b => s_or a b (sound a) (sound b)
  | .not a => s_not a (sound a)
  | .neg a => s_neg a (sound a)
  | .bin op a b => s_bin op a b (sound a) (sound b)
  | .cmp op a b => s_cmp op a b (sound a) (sound b)
  | .chn op op' a b c => s_chn op op' a b c (sound a) (sound b) (sound c)
  | .ite c a b => s_ite c a b (sound c) (sound a) (sound b)
  | .ix a b => s_ix a b (sound a) (sound b)
  | .sl a lo hi => s_sl a lo hi (sound a) (sounds lo) (sounds hi)
  | .blt b es => s_blt b es (sounds es)
  | .isi a T => s_isi a T (sound a)
  | .join a b => s_join a b (sound a) (sound b)
  | .get2 a b c => s_get2 a b c (sound a) (sound b) (sound c)
  | .call f es dd => s_call f es dd (sounds es)
  | .dct0 tk => s_dct0 tk
  | .din neg a b => s_din neg a b (sound a) (sound b)
  | .kin x ks ds a => s_kin x ks ds a (sound a)
  | .kix x ks ds a => s_kix x ks ds a (sound a)
  | .get1 a b => s_get1 a b (sound a) (sound b)
  | .rng es => s_rng es (sounds es)
  | .lc elt t src tt => s_lc elt t src tt (sound elt) (sound src) (sounds tt)
  | .lcd elt t d src tt => s_lcd elt t d src tt (sound elt) (sound src) (sounds tt)
  | .op o es => s_op o es (sounds es)
theorem sounds : ∀ ms : List Xp, AllsSound ms
  | [] => sound_nil
  | m :: ms => sound_cons (sound m) (sounds ms)
end
end Mp

namespace Mp
open PySem L2

def chkV (k : Ck) (i : Nat) (x : Str) : Bool := decide (k.N[i]? = some x) && (visOk k.sc x && okName x)
theorem not_io {io : List Nat} {i : Nat} (h : io.contains i = false) : i ∉ io := fun z => by
  rw [List.contains_iff_mem.mpr z] at h; cases h
theorem chkV_of {X : Cx} {C : Cn} {W : WX} {k : Ck} {g : G} (gd : Gd X C W k g) {i : Nat} {x : Str} (h : chkV k i x = true) : X.N[i]? = some x ∧ Vis X.env.scope x ∧ (x == ("__debug__" : Str)) = false ∧ (x == ("__classdict__" : Str)) = false := by
  unfold chkV at h
  simp only [Bool.and_eq_true, decide_eq_true_eq] at h
  obtain ⟨h1, h2, h3⟩ := h
  rw [← gd.sc] at h2
  exact ⟨by rw [gd.hN]; exact h1, vis_of h2, okName_of h3⟩

inductive KO where
  | nx (ρ : Env) (rows : List (List D)) | ex (k : Nat) (pl : List (Str × D)) (ρ : Env) | stuck
def kB (x : Res R) (ρ : Env) (f : R → KO) : KO := match x with
  | .ok r => f r
  | .exc k pl => .ex k pl ρ
  | .stuck => .stuck
def kSeq (m1 m2 : Env → List (List D) → KO) (ρ : Env) (rows : List (List D)) : KO := match m1 ρ rows with
  | .nx ρ' r' => m2 ρ' r'
  | o => o
def kPush (ρ : Env) (rows : List (List D)) : KO := if rows.length < LIM then .nx ρ ([] :: rows) else .stuck
def kPop (j : Nat) (ρ : Env) : List (List D) → KO
  | ds :: rows => .nx (ρ.set j (some (.val (.tup ds)))) rows
  | [] => .stuck
def kTop (m : Env → Res R) (ρ : Env) : List (List D) → KO
  | ds :: rows => kB (m ρ) ρ fun r => match r.froz with
    | some d => if ds.length < LIM then .nx ρ ((ds ++ [d]) :: rows) else .stuck
    | none => .stuck
  | [] => .stuck
def kIf (c : Env → Res R) (a b : Env → List (List D) → KO) (ρ : Env) (rows : List (List D)) : KO := kB (c ρ) ρ fun r => match asBl r with
  | some true => a ρ rows
  | some false => b ρ rows
  | none => .stuck
def kLim (op : CmpOp) (m : Env → Res R) (k : Nat) (ρ : Env) (rows : List (List D)) : KO := kB (m ρ) ρ fun r => match r.d with
  | .int n => (match op with
    | .Gt => if decide (n < (rows.length : Int)) = true then .ex k [] ρ else .nx ρ rows
    | .Eq => if ((rows.length : Int) == n) = true then .ex k [] ρ else .nx ρ rows
    | _ => .stuck)
  | _ => .stuck
def kFor (j : Nat) (b : Env → List (List D) → KO) : List D → Env → List (List D) → KO
  | [], ρ, rows => .nx ρ rows
  | d :: ds, ρ, rows => match b (ρ.set j (some (.val d))) rows with
    | .nx ρ' r' => kFor j b ds ρ' r'
    | o => o
def kRet : List (List D) → Option (List D)
  | [] => none
  | [r] => some r
  | _ :: rs => kRet rs
def kRetO (ρ : Env) (rows : List (List D)) : Out := match kRet rows with
  | some ds => .rt (.own (.lst ds)) ρ
  | none => .stuck
def kOut (n : Env → List (List D) → Out) : KO → Out
  | .nx ρ rows => n ρ rows
  | .ex k pl ρ => .ex k pl ρ
  | .stuck => .stuck
def kThen (m : Env → List (List D) → KO) (n : Env → List (List D) → Out) (ρ : Env) (rows : List (List D)) : Out := kOut n (m ρ rows)
theorem kThen_seq (m1 m2 : Env → List (List D) → KO) (n : Env → List (List D) → Out) : kThen (kSeq m1 m2) n = kThen m1 (kThen m2 n) := by
  funext ρ rows
  unfold kThen kSeq
  cases m1 ρ rows <;> rfl
def sStk' (i j : Nat) (s : Env → Res (List D)) (b fin : Env → List (List D) → KO) (ρ : Env) : Out := match s (ρ.set i none) with
  | .ok ds => kOut (kThen fin kRetO) (kFor j b ds (ρ.set i none) [[]])
  | .exc k pl => .ex k pl (ρ.set i none)
  | .stuck => .stuck
def sStk (i j : Nat) (s : Env → Res (List D)) (b fin : Env → List (List D) → KO) (ρ : Env) : Out := if i < ρ.length then sStk' i j s b fin ρ else .stuck

structure KB where
  σ : L2.St
  ρ : Env
  c : Nat → List Addr
  H : Hp
  S : Addr → Prop
  i : Nat
def KS (B : KB) (a : Addr) (bs : List Addr) (x : Addr) : Prop := B.S x ∨ x ∈ a :: bs
structure KR (C : Cn) (io : List Nat) (B : KB) (σ : L2.St) (H : Hp) (ρ : Env) (c : Nat → List Addr) (a : Addr) (bs : List Addr) (rows : List (List D)) : Prop where
  b0 : SR C.K B.σ B.H B.ρ B.c B.S
  sr : SR C.K σ H ρ c (KS B a bs)
  st : Stp io B.σ B.ρ B.c B.H σ ρ c H
  sv : σ[B.i]? = some (some (.ref a))
  ha : H a = some (.lst (bs.reverse.map V.ref))
  nd : (a :: bs).Nodup
  nw : ∀ x ∈ a :: bs, B.H x = none
  rw : Paired (fun b ds => ∃ vs, H b = some (.lst vs) ∧ Rps H (Mp.Own c (KS B a bs)) vs ds) bs rows
structure KT (c : Nat → List Addr) (S : Addr → Prop) (H : Hp) (c' : Nat → List Addr) (S' : Addr → Prop) (H' : Hp) : Prop where
  fr : Fr (Mp.Own c S) H H'
  nw : ∀ x, Mp.Own c' S' x → Mp.Own c S x ∨ H x = none
  tr : ∀ x o, H x = some o → ∃ o', H' x = some o'
theorem KT.ex {c : Nat → List Addr} {S : Addr → Prop} {H H' : Hp} (e : Ex H H') : KT c S H c S H' := ⟨fun a o _ q => e a o q, fun _ z => .inl z, fun a o q => ⟨o, e a o q⟩⟩
theorem KT.refl {c : Nat → List Addr} {S : Addr → Prop} {H : Hp} : KT c S H c S H := KT.ex (Ex.refl _)
theorem KT.trans {c c1 c2 : Nat → List Addr} {S S1 S2 : Addr → Prop} {H H1 H2 : Hp} (a : KT c S H c1 S1 H1) (b : KT c1 S1 H1 c2 S2 H2) : KT c S H c2 S2 H2 where
  fr := fun x o n q => b.fr x o (fun z => (a.nw x z).elim n fun z => by rw [z] at q; cases q) (a.fr x o n q)
  nw := fun x z => (b.nw x z).elim (fun z => a.nw x z) fun z => .inr (by
    cases q : H x with
    | none => rfl
    | some o => obtain ⟨o1, q1⟩ := a.tr x o q; rw [z] at q1; cases q1)
  tr := fun x o q => let ⟨o1, q1⟩ := a.tr x o q; b.tr x o1 q1
def KW (C : Cn) (W : WX) (io : List Nat) (B : KB) (N : L2.St → Hp → Prop) (c : Nat → List Addr) (S : Addr → Prop) (H : Hp) : KO → Prop
  | .nx ρ' rows' => ∀ σ' H' c' a' bs', KR C io B σ' H' ρ' c' a' bs' rows' → KT c S H c' (KS B a' bs') H' → N σ' H'
  | .ex k pl ρ' => ∀ σ' H' c' d, SR C.K σ' H' ρ' c' B.S → Stp io B.σ B.ρ B.c B.H σ' ρ' c' H' → XP H' (Mp.Own c' B.S) d pl → W (.ref (C.ca k)) d σ' H'
  | .stuck => False
def tK (C : Cn) (W : WX) (io : List Nat) (B : KB) (m : Env → List (List D) → KO) : TS := fun E σ H => ∃ ρ c a bs rows, KR C io B σ H ρ c a bs rows ∧ KW C W io B E.nx c (KS B a bs) H (m ρ rows)
section
variable {C : Cn} {W : WX} {io : List Nat} {B : KB} {N N' : L2.St → Hp → Prop} {σ : L2.St} {H H1 : Hp} {ρ : Env} {c c1 : Nat → List Addr} {S S1 : Addr → Prop} {a : Addr} {bs : List Addr} {rows : List (List D)} {o : KO}
theorem KW.after (s : KT c S H c1 S1 H1) (h : KW C W io B N c S H o) : KW C W io B N c1 S1 H1 o := by
  cases o with
  | nx ρ' r' => exact fun σ' H' c' a' bs' x y => h σ' H' c' a' bs' x (s.trans y)
  | ex k pl ρ' => exact h
  | stuck => exact h
theorem KR.ex (h : KR C io B σ H ρ c a bs rows) (e : Ex H H1) : KR C io B σ H1 ρ c a bs rows :=
  ⟨h.b0, h.sr.ex e, h.st.trans (Stp.ex e), h.sv, e _ _ h.ha, h.nd, h.nw, Paired.mapP h.rw fun b ds ⟨vs, h1, h2⟩ => ⟨vs, e _ _ h1, h2.ex e⟩⟩
theorem KR.out (h : KR C io B σ H ρ c a bs rows) : SR C.K σ H ρ c B.S := h.sr.less fun _ z => .inl z
theorem KR.ownB (x : Addr) (z : Mp.Own c B.S x) : Mp.Own c (KS B a bs) x := z.imp id .inl
theorem KW.rw {x : Res R} {f : R → KO} (kr : KR C io B σ H ρ c a bs rows) (h : KW C W io B N c (KS B a bs) H (kB x ρ f)) :
    RW C W (Mp.Own c (KS B a bs)) σ H x (fun v H1 => ∃ r, Ex H H1 ∧ RR C.K H H1 (Mp.Own c (KS B a bs)) v r ∧ KW C W io B N c (KS B a bs) H1 (f r)) := by
  cases x with
  | ok r => exact fun v H1 e q => ⟨r, e, q, KW.after (KT.ex e) h⟩
  | exc k pl => exact fun H1 d e q => h σ H1 c d (kr.ex e).out (kr.st.trans (Stp.ex e)) (XP.sub KR.ownB q)
  | stuck => exact h
theorem KW.nx {ρ' : Env} {r' : List (List D)} {σ' : L2.St} {H' : Hp} {c' : Nat → List Addr} {a' : Addr} {bs' : List Addr} (h : KW C W io B N c S H (.nx ρ' r')) (x : KR C io B σ' H' ρ' c' a' bs' r') (y : KT c S H c' (KS B a' bs') H') : N σ' H' := h σ' H' c' a' bs' x y
end
section
variable {K : PySem.W.Frag} {io : List Nat} {σ σ0 : L2.St} {H H0 H1 : Hp} {ρ ρ0 : Env} {c c0 : Nat → List Addr} {S S0 S' : Addr → Prop} {x : Addr} {o : HO}
theorem upd_off {y : Addr} {u : HO} (q : H y = some u) (n : y = x → False) : L2.upd H x o y = some u := by rw [upd_ne n]; exact q
theorem SR.wide (h : SR K σ H ρ c S) (e : Ex H H1) (n : ∀ x, S' x → S x ∨ H x = none) (t : ∀ x, S' x → ∃ o, H1 x = some o) : SR K σ H1 ρ c S' where
  len := h.len
  rep := fun i r q => by
    obtain ⟨v, h1, h2⟩ := h.rep i r q
    refine ⟨v, h1, h2.move (fun a o _ q => e a o q) (fun _ _ n _ => n) (fun a o _ q => e a o q) (fun b o m q z => ?_) fun b hb => ?_⟩
    · rcases z with z | z
      · exact m (.inl z)
      · rcases n b z with z | z
        · exact m (.inr z)
        · rw [z] at q; cases q
    · obtain ⟨o, q⟩ := h.trk b (.inl ⟨i, hb⟩)
      rw [q, e b o q]
  off := h.off
  dis := h.dis
  sep := fun i b hb z => by
    rcases n b z with z | z
    · exact h.sep i b hb z
    · obtain ⟨o, q⟩ := h.trk b (.inl ⟨i, hb⟩)
      rw [z] at q; cases q
  trk := fun b z => z.elim (fun z => let ⟨o, q⟩ := h.trk b (.inl z); ⟨o, e b o q⟩) fun z => t b z
theorem SR.strange (b0 : SR K σ0 H0 ρ0 c0 S0) (st : Stp io σ0 ρ0 c0 H0 σ ρ c H) (h : SR K σ H ρ c S) (hS : ∀ y, S y → S0 y ∨ H0 y = none) (hx : S x) (nx : H0 x = none) : SR K σ (L2.upd H x o) ρ c S where
  len := h.len
  rep := fun i r q => by
    obtain ⟨v, h1, h2⟩ := h.rep i r q
    refine ⟨v, h1, ?_⟩
    have up : ∀ y u, y ≠ x → H y = some u → L2.upd H x o y = some u := fun y u n q => by rw [upd_ne n]; exact q
    cases r with
    | val d => exact ⟨h2.1, Rp.move (fun y u n q => up y u (fun z => n (.inr (z ▸ hx))) q) (fun _ _ n _ => n) h2.2⟩
    | own d =>
      obtain ⟨y, e1, e2, e3⟩ := h2
      refine ⟨y, e1, e2, Cell.move (fun y u n q => up y u (fun z => n (.inr (z ▸ hx))) q) (fun _ _ n _ => n) (upd_ne fun z => ?_) e3⟩
      exact h.sep i y (by rw [e2]; simp) (z ▸ hx)
    | bor d =>
      obtain ⟨z1, z2⟩ := st.bo i d q
      obtain ⟨w, w1, w2⟩ := b0.rep i _ z1
      rw [z2, w1] at h1
      cases h1
      have keep : ∀ y u, ¬ Cel c0 y → H0 y = some u → L2.upd H x o y = some u := fun y u n q => up y u (fun z => by rw [z, nx] at q; cases q) (st.fr y u n q)
      refine ⟨h2.1, w2.2.move keep (fun y u n q z => (st.nw y z).elim n fun z => by rw [z] at q; cases q) (fun y u n q => keep y u (fun z => n (.inl z)) q) (fun y u n q z => ?_)⟩
      rcases z with z | z
      · exact (st.nw y z).elim (fun z => n (.inl z)) fun z => by rw [z] at q; cases q
      · exact (hS y z).elim (fun z => n (.inr z)) fun z => by rw [z] at q; cases q
  off := h.off
  dis := h.dis
  sep := h.sep
  trk := fun y z => by
    by_cases e : y = x
    · subst e; exact ⟨_, upd_same⟩
    · rw [upd_ne e]; exact h.trk y z
theorem Stp.strange (st : Stp io σ0 ρ0 c0 H0 σ ρ c H) (nx : H0 x = none) : Stp io σ0 ρ0 c0 H0 σ ρ c (L2.upd H x o) where
  fr := fun y u n q => by rw [upd_ne (fun z => by rw [z, nx] at q; cases q)]; exact st.fr y u n q
  tr := fun y u q => by rw [upd_ne (fun z => by rw [z, nx] at q; cases q)]; exact st.tr y u q
  nw := st.nw
  bo := st.bo
  io := st.io
theorem SR.junk (h : SR K σ H ρ c S) {i : Nat} (e : ∀ r, ρ[i]? ≠ some (some r)) (w : Option V) : SR K (σ.set i w) H ρ c S where
  len := by simp [h.len]
  rep := fun j r q => by
    obtain ⟨v, h1, h2⟩ := h.rep j r q
    exact ⟨v, by rw [List.getElem?_set_ne (fun z => e r (by rw [z]; exact q))]; exact h1, h2⟩
  off := h.off
  dis := h.dis
  sep := h.sep
  trk := h.trk
end
section
variable {C : Cn} {W : WX} {io : List Nat} {B : KB} {σ : L2.St} {H H1 : Hp} {ρ : Env} {c : Nat → List Addr} {a p b : Addr} {bs : List Addr} {rows : List (List D)}
theorem KR.news (h : KR C io B σ H ρ c a bs rows) (y : Addr) (z : KS B a bs y) : B.S y ∨ B.H y = none := z.imp id (h.nw y)
theorem KR.there (h : KR C io B σ H ρ c a bs rows) {y : Addr} (z : y ∈ a :: bs) : ∃ o, H y = some o := h.sr.trk y (.inr (.inr z))
theorem upd_tr {x : Addr} {o : HO} : ∀ y u, H y = some u → ∃ u', L2.upd H x o y = some u' := fun y u q => by
  by_cases e : y = x
  · subst e; exact ⟨_, upd_same⟩
  · exact ⟨u, by rw [upd_ne e]; exact q⟩
theorem KR.push (h : KR C io B σ H ρ c a bs rows) (hp : H p = none) :
    KR C io B σ (L2.upd (L2.upd H p (.lst [])) a (.lst (bs.reverse.map V.ref ++ [.ref p]))) ρ c a (p :: bs) ([] :: rows) ∧ KT c (KS B a bs) H c (KS B a (p :: bs)) (L2.upd (L2.upd H p (.lst [])) a (.lst (bs.reverse.map V.ref ++ [.ref p]))) := by
  have e1 : Ex H (L2.upd H p (.lst [])) := Ex.new hp
  have nb : B.H p = none := by
    cases q : B.H p with
    | none => rfl
    | some o => obtain ⟨o1, q1⟩ := h.st.tr p o q; rw [hp] at q1; cases q1
  have npa : p ≠ a := fun z => by rw [z, h.ha] at hp; cases hp
  have npb : p ∉ bs := fun z => by obtain ⟨o, q⟩ := h.there (List.mem_cons_of_mem _ z); rw [hp] at q; cases q
  have w : SR C.K σ (L2.upd H p (.lst [])) ρ c (KS B a (p :: bs)) := h.sr.wide e1 (fun x z => by
    rcases z with z | z
    · exact .inl (.inl z)
    · rcases List.mem_cons.mp z with z | z
      · exact .inl (.inr (z ▸ List.mem_cons_self))
      · rcases List.mem_cons.mp z with z | z
        · exact .inr (z ▸ hp)
        · exact .inl (.inr (List.mem_cons_of_mem _ z))) fun x z => by
    rcases z with z | z
    · obtain ⟨o, q⟩ := h.sr.trk x (.inr (.inl z)); exact ⟨o, e1 _ _ q⟩
    · rcases List.mem_cons.mp z with z | z
      · subst z; exact ⟨_, e1 _ _ h.ha⟩
      · rcases List.mem_cons.mp z with z | z
        · subst z; exact ⟨_, upd_same⟩
        · obtain ⟨o, q⟩ := h.there (List.mem_cons_of_mem _ z); exact ⟨o, e1 _ _ q⟩
  have nws : ∀ x ∈ a :: p :: bs, B.H x = none := fun x z => by
    rcases List.mem_cons.mp z with z | z
    · subst z; exact h.nw _ List.mem_cons_self
    · rcases List.mem_cons.mp z with z | z
      · subst z; exact nb
      · exact h.nw _ (List.mem_cons_of_mem _ z)
  have st1 := h.st.trans (Stp.ex (io := io) (σ := σ) (ρ := ρ) (c := c) e1)
  have nd := h.nd
  rw [List.nodup_cons] at nd
  refine ⟨⟨h.b0, SR.strange h.b0 st1 w (fun y z => z.imp id (nws y)) (.inr List.mem_cons_self) (h.nw a List.mem_cons_self), st1.strange (h.nw a List.mem_cons_self), h.sv, ?_, ?_, nws, ?_⟩, ⟨fun y o n q => ?_, fun y z => ?_, fun y u q => ?_⟩⟩
  · rw [upd_same, List.reverse_cons, List.map_append]; rfl
  · rw [List.nodup_cons, List.nodup_cons]
    exact ⟨fun z => (List.mem_cons.mp z).elim (fun z => npa z.symm) nd.1, npb, nd.2⟩
  · refine .cons ⟨[], by rw [upd_ne npa]; exact upd_same, by simp [Rps]⟩ ?_
    have : ∀ (l : List Addr) (l' : List (List D)), (∀ x ∈ l, x ∈ bs) → Paired (fun b ds => ∃ vs, H b = some (.lst vs) ∧ Rps H (Mp.Own c (KS B a bs)) vs ds) l l' → Paired (fun b ds => ∃ vs, L2.upd (L2.upd H p (.lst [])) a (.lst (bs.reverse.map V.ref ++ [.ref p])) b = some (.lst vs) ∧ Rps (L2.upd (L2.upd H p (.lst [])) a (.lst (bs.reverse.map V.ref ++ [.ref p]))) (Mp.Own c (KS B a (p :: bs))) vs ds) l l' := fun l l' hl z => by
      induction z with
      | nil => exact .nil
      | cons q _ ih =>
        obtain ⟨vs, q1, q2⟩ := q
        refine .cons ⟨vs, ?_, ?_⟩ (ih fun x hx => hl x (List.mem_cons_of_mem _ hx))
        · exact upd_off (e1 _ _ q1) fun z => nd.1 (z ▸ hl _ List.mem_cons_self)
        · refine q2.move (fun y u n q => ?_) (fun y u n q z => ?_)
          · exact upd_off (e1 _ _ q) fun z => n (.inr (.inr (z ▸ List.mem_cons_self)))
          · rcases z with z | z | z
            · exact n (.inl z)
            · exact n (.inr (.inl z))
            · rcases List.mem_cons.mp z with z | z
              · exact n (.inr (.inr (z ▸ List.mem_cons_self)))
              · rcases List.mem_cons.mp z with z | z
                · rw [z, hp] at q; cases q
                · exact n (.inr (.inr (List.mem_cons_of_mem _ z)))
    exact this bs rows (fun _ z => z) h.rw
  · exact upd_off (e1 _ _ q) fun z => n (.inr (.inr (z ▸ List.mem_cons_self)))
  · rcases z with z | z | z
    · exact .inl (.inl z)
    · exact .inl (.inr (.inl z))
    · rcases List.mem_cons.mp z with z | z
      · exact .inl (.inr (.inr (z ▸ List.mem_cons_self)))
      · rcases List.mem_cons.mp z with z | z
        · exact .inr (z ▸ hp)
        · exact .inl (.inr (.inr (List.mem_cons_of_mem _ z)))
  · obtain ⟨u1, q1⟩ := upd_tr (x := p) (o := .lst []) y u q
    exact upd_tr y u1 q1
theorem rows_upd {P P' : Addr → Prop} {x : Addr} {o : HO} (hP : P x) (n : ∀ y, P' y → P y) : ∀ {l : List Addr} {l' : List (List D)}, x ∉ l → Paired (fun b ds => ∃ vs, H b = some (.lst vs) ∧ Rps H P vs ds) l l' → Paired (fun b ds => ∃ vs, L2.upd H x o b = some (.lst vs) ∧ Rps (L2.upd H x o) P' vs ds) l l'
  | _, _, _, .nil => .nil
  | _, _, hx, .cons ⟨vs, q1, q2⟩ t => .cons ⟨vs, upd_off q1 fun z => hx (z ▸ List.mem_cons_self), (Rps.upd q2 hP).less n⟩ (rows_upd hP n (fun z => hx (List.mem_cons_of_mem _ z)) t)
theorem KR.top {vs : List V} {v : V} {d : D} {ds : List D} (h : KR C io B σ H ρ c a (b :: bs) (ds :: rows)) (hb : H b = some (.lst vs)) (rv : Rps H (Mp.Own c (KS B a (b :: bs))) vs ds) (rd : Rp H (Mp.Own c (KS B a (b :: bs))) v d) :
    KR C io B σ (L2.upd H b (.lst (vs ++ [v]))) ρ c a (b :: bs) ((ds ++ [d]) :: rows) ∧ KT c (KS B a (b :: bs)) H c (KS B a (b :: bs)) (L2.upd H b (.lst (vs ++ [v]))) := by
  have mb : b ∈ a :: b :: bs := by simp
  have ow : Mp.Own c (KS B a (b :: bs)) b := .inr (.inr mb)
  have nd := h.nd
  rw [List.nodup_cons, List.nodup_cons] at nd
  have hrw := h.rw
  cases hrw with
  | cons _ t =>
    refine ⟨⟨h.b0, SR.strange h.b0 h.st h.sr h.news (.inr mb) (h.nw b mb), h.st.strange (h.nw b mb), h.sv, ?_, h.nd, h.nw, ?_⟩, ⟨fun y o n q => ?_, fun y z => .inl z, upd_tr⟩⟩
    · exact upd_off h.ha fun z => nd.1 (z ▸ List.mem_cons_self)
    · refine .cons ⟨_, upd_same, ?_⟩ (rows_upd ow (fun _ z => z) nd.2.1 t)
      exact Rps.upd (rv.append (Rps.one rd)) ow
    · exact upd_off q fun z => n (z ▸ ow)
theorem KR.pop {vs : List V} {ds : List D} {j : Nat} {l : Addr} (h : KR C io B σ H ρ c a (b :: bs) (ds :: rows)) (rv : Rps H (Mp.Own c (KS B a (b :: bs))) vs ds) (hij : B.i ≠ j) (hio : j ∉ io) (hl : L2.upd H a (.lst (bs.reverse.map V.ref)) l = none) :
    KR C io B (σ.set j (some (.ref l))) (L2.upd (L2.upd H a (.lst (bs.reverse.map V.ref))) l (.tup vs)) (ρ.set j (some (.val (.tup ds)))) (cut c j) a bs rows ∧ KT c (KS B a (b :: bs)) H (cut c j) (KS B a bs) (L2.upd (L2.upd H a (.lst (bs.reverse.map V.ref))) l (.tup vs)) := by
  have ma : a ∈ a :: b :: bs := List.mem_cons_self
  have ow : Mp.Own c (KS B a (b :: bs)) a := .inr (.inr ma)
  have nd := h.nd
  rw [List.nodup_cons, List.nodup_cons] at nd
  have hla : l ≠ a := fun z => by rw [z, upd_same] at hl; cases hl
  have hlH : H l = none := by rw [upd_ne hla] at hl; exact hl
  have s1 : SR C.K σ (L2.upd H a (.lst (bs.reverse.map V.ref))) ρ c (KS B a (b :: bs)) := SR.strange h.b0 h.st h.sr h.news (.inr ma) (h.nw a ma)
  have t1 : Stp io B.σ B.ρ B.c B.H σ ρ c (L2.upd H a (.lst (bs.reverse.map V.ref))) := h.st.strange (h.nw a ma)
  have e2 : Ex (L2.upd H a (.lst (bs.reverse.map V.ref))) (L2.upd (L2.upd H a (.lst (bs.reverse.map V.ref))) l (.tup vs)) := Ex.new hl
  have nl : ¬ Mp.Own c (KS B a (b :: bs)) l := fun z => by obtain ⟨o, q⟩ := s1.trk l z; rw [hl] at q; cases q
  have r2 : Rps (L2.upd H a (.lst (bs.reverse.map V.ref))) (Mp.Own c (KS B a (b :: bs))) vs ds := Rps.upd rv ow
  have s2 := (s1.ex e2).setV' (i := j) (v := .ref l) (d := .tup ds) (by simp only [Rp]; exact ⟨l, vs, rfl, nl, upd_same, r2.ex e2⟩)
  have sub : ∀ y, KS B a bs y → KS B a (b :: bs) y := fun y z => z.imp id fun z => (List.mem_cons.mp z).elim (fun z : y = a => z ▸ List.mem_cons_self) fun z => List.mem_cons_of_mem _ (List.mem_cons_of_mem _ z)
  have subO : ∀ y, Mp.Own (cut c j) (KS B a bs) y → Mp.Own c (KS B a (b :: bs)) y := fun y z => z.imp cut_cel (sub y)
  have hrw := h.rw
  cases hrw with
  | cons _ t =>
    refine ⟨⟨h.b0, s2.less sub, (t1.trans (Stp.ex e2)).trans (Stp.setV hio), ?_, ?_, ?_, fun y z => h.nw y ?_, ?_⟩, ⟨fun y o n q => ?_, fun y z => .inl (subO y z), fun y u q => ?_⟩⟩
    · rw [List.getElem?_set_ne (fun z => hij z.symm)]; exact h.sv
    · exact e2 _ _ upd_same
    · rw [List.nodup_cons]; exact ⟨fun z => nd.1 (List.mem_cons_of_mem _ z), nd.2.2⟩
    · rcases List.mem_cons.mp z with z | z
      · subst z; exact List.mem_cons_self
      · exact List.mem_cons_of_mem _ (List.mem_cons_of_mem _ z)
    · exact Paired.mapP (rows_upd ow subO (fun z => nd.1 (List.mem_cons_of_mem _ z)) t) fun y ds ⟨vs, q1, q2⟩ => ⟨vs, e2 _ _ q1, q2.ex e2⟩
    · exact e2 _ _ (upd_off q fun z => n (z ▸ ow))
    · obtain ⟨u1, q1⟩ := upd_tr (x := a) (o := .lst (bs.reverse.map V.ref)) y u q
      exact ⟨u1, e2 _ _ q1⟩
theorem KR.setV {d : D} {v : V} {j : Nat} (h : KR C io B σ H ρ c a bs rows) (hij : B.i ≠ j) (hio : j ∉ io) (r : Rp H (Mp.Own c (KS B a bs)) v d) :
    KR C io B (σ.set j (some v)) H (ρ.set j (some (.val d))) (cut c j) a bs rows ∧ KT c (KS B a bs) H (cut c j) (KS B a bs) H := by
  refine ⟨⟨h.b0, h.sr.setV' r, h.st.trans (Stp.setV hio), ?_, h.ha, h.nd, h.nw, Paired.mapP h.rw fun y ds ⟨vs, q1, q2⟩ => ⟨vs, q1, q2.less fun _ z => cut_own z⟩⟩, ⟨fun y o _ q => q, fun y z => .inl (cut_own z), fun y o q => ⟨o, q⟩⟩⟩
  rw [List.getElem?_set_ne (fun z => hij z.symm)]; exact h.sv

variable {X : Cx} {x y : Str} {px py p apos cpos pos spos qpos : Pos} {st : Stmt} {rest sb : List Stmt} {m1 m2 : Env → List (List D) → KO} {e : Expr} {m : Env → Res R} {i j : Nat}
theorem pss_nilK : PSs X [] (tK C W io B .nx) := PSs.weak pss_nil fun E σ H ⟨ρ, c, a, bs, rows, kr, h⟩ => h.nx kr KT.refl
theorem pss_consK (h1 : PS X st (tK C W io B m1)) (h2 : PSs X rest (tK C W io B m2)) : PSs X (st :: rest) (tK C W io B (kSeq m1 m2)) :=
  PSs.weak (pss_cons h1 h2) fun E σ H ⟨ρ, c, a, bs, rows, kr, h⟩ => by
    refine ⟨ρ, c, a, bs, rows, kr, ?_⟩
    unfold kSeq at h
    cases e1 : m1 ρ rows with
    | nx ρ' r' =>
      rw [e1] at h
      exact fun σ' H' c' a' bs' x y => ⟨ρ', c', a', bs', r', x, KW.after y h⟩
    | ex k pl ρ' => rw [e1] at h; exact h
    | stuck => rw [e1] at h; exact h
theorem ps_pushK (hN : X.N[i]? = some x) (hv : Vis X.env.scope x) (hd : (x == ("__debug__" : Str)) = false) (hcd : (x == ("__classdict__" : Str)) = false) (hi : i = B.i) (hl : (apos.endLine == cpos.line) = true) :
    PS X (.Expr (.Call (.Attribute (.Name x px) "append" apos) [.List [] p] [] cpos) pos) (tK C W io B kPush) :=
  PS.weak (ps_expr (pe_bm PySem.F.plainAttrs_list PySem.F.slot_list_append PySem.F.type_list_append mt_append (pe_var hN hv hd hcd) (pa_cons (pe_lst pa_nil) pa_nil (starEach_cons rfl)) rfl (by rw [starEach_cons rfl]; rfl) hl (starEach_cons rfl) rfl) rfl) fun E σ H ⟨ρ, c, a, bs, rows, kr, h⟩ => by
    subst hi
    unfold kPush at h
    split at h
    · next hz =>
      refine ⟨.ref a, kr.sv, .inl ⟨rfl, _, SqL.of kr.ha⟩, Nat.zero_le _, fun p hp => ⟨a, bs.reverse.map V.ref, .ref p, rfl, rfl, upd_off kr.ha fun z => ?_, ?_, ?_⟩⟩
      · rw [← z, kr.ha] at hp; cases hp
      · rw [List.length_map, List.length_reverse, Paired.length kr.rw]; exact lim_lt hz
      · obtain ⟨s1, s2⟩ := kr.push hp
        exact h.nx s1 s2
    · exact h.elim
theorem ps_popK (hX : X.N.Nodup) (hN : X.N[i]? = some x) (hv : Vis X.env.scope x) (hd : (x == ("__debug__" : Str)) = false) (hcd : (x == ("__classdict__" : Str)) = false) (hi : i = B.i) (hj : X.N[j]? = some y) (hy : L2.Loc X.env.scope y) (hf : X.fn y = true ∨ X.env.scope.names.lookup y = some .local)
    (hij : i ≠ j) (hio : j ∉ io) (hg : Gl X "tuple") (hm : X.mg "tuple" = none) (hl : (apos.endLine == cpos.line) = true) :
    PS X (.Assign [.Name y py] (.Call (.Name "tuple" qpos) [.Call (.Attribute (.Name x px) "pop" apos) [] [] cpos] [] pos) spos) (tK C W io B (kPop j)) :=
  PS.weak (ps_set hX hj hy (pe_callTy call_tuple_of hg hm (by decide +kernel) (pa_cons (pe_bm0 PySem.F.plainAttrs_list PySem.F.slot_list_pop PySem.F.type_list_pop mt_pop (pe_var hN hv hd hcd) rfl hl) pa_nil (starEach_cons rfl)) (by decide) (by decide) (starEach_cons rfl) rfl) rfl hf) fun E σ H ⟨ρ, c, a, bs, rows, kr, h⟩ => by
    subst hi
    cases rows with
    | nil => exact h.elim
    | cons ds rows =>
      have hrw := kr.rw
      rcases bs with _ | ⟨b, bs⟩
      · cases hrw
      cases hrw with
      | cons q _ =>
        obtain ⟨vs, hb, rv⟩ := q
        have nd := kr.nd
        rw [List.nodup_cons] at nd
        have eh : (b :: bs).reverse.map V.ref = bs.reverse.map V.ref ++ [V.ref b] := by rw [List.reverse_cons, List.map_append]; rfl
        refine ⟨.ref a, kr.sv, .inl ⟨rfl, _, SqL.of kr.ha⟩, a, _, .ref b, rfl, rfl, kr.ha, ?_, b, vs, rfl, .inl ⟨SqL.of (upd_off hb fun z => nd.1 (z ▸ List.mem_cons_self)), fun l hl => ?_⟩⟩
        · rw [eh, List.length_append, List.length_singleton, Nat.add_sub_cancel, List.getElem?_append_right (Nat.le_refl _), Nat.sub_self]; rfl
        · rw [eh, List.dropLast_concat] at hl ⊢
          obtain ⟨s1, s2⟩ := kr.pop rv hij hio hl
          exact h.nx s1 s2
theorem ps_topK (hN : X.N[i]? = some x) (hv : Vis X.env.scope x) (hd : (x == ("__debug__" : Str)) = false) (hcd : (x == ("__classdict__" : Str)) = false) (hi : i = B.i) (he : PE X e (tM C W m)) (hst : noStar e = true) (hl : (apos.endLine == cpos.line) = true) {k1 : Nat} {p1 p2 p3 : Pos} :
    PS X (.Expr (.Call (.Attribute (.Subscript (.Name x px) (.UnaryOp .USub (.Constant (.int 1) k1 p1) p2) p3) "append" apos) [e] [] cpos) pos) (tK C W io B (kTop m)) :=
  PS.weak (ps_expr (pe_bm PySem.F.plainAttrs_list PySem.F.slot_list_append PySem.F.type_list_append mt_append (pe_ix ix_seq (pe_var hN hv hd hcd) (pe_un un_neg pe_int) (plainIx_of rfl)) (pa_cons he pa_nil (starEach_cons hst)) (base_ok rfl) (by rw [starEach_cons hst]; rfl) hl (starEach_cons hst) rfl) rfl) fun E σ H ⟨ρ, c, a, bs, rows, kr, h⟩ => by
    subst hi
    cases rows with
    | nil => exact h.elim
    | cons ds rows =>
      have hrw := kr.rw
      rcases bs with _ | ⟨b, bs⟩
      · cases hrw
      cases hrw with
      | cons q _ =>
        obtain ⟨vs, hb, rv⟩ := q
        have eh : (b :: bs).reverse.map V.ref = bs.reverse.map V.ref ++ [V.ref b] := by rw [List.reverse_cons, List.map_append]; rfl
        refine ⟨.ref a, kr.sv, 1, rfl, .inl ⟨a, _, -1, .ref b, rfl, rfl, SqL.of kr.ha, ?_, .inl ⟨rfl, vs, SqL.of hb⟩, ρ, c, _, kr.sr, (KW.rw kr h).imp fun v H1 ⟨r, x1, r1, q⟩ => ?_⟩⟩
        · rw [eh]; exact atI_last _ _
        · split at q
          · next d e3 =>
            split at q
            · next hz =>
              refine ⟨b, vs, v, rfl, rfl, x1 _ _ hb, by rw [rv.length]; exact lim_lt hz, ?_⟩
              obtain ⟨s1, s2⟩ := (kr.ex x1).top (x1 _ _ hb) (rv.ex x1) (r1.froz e3)
              exact q.nx s1 s2
            · exact q.elim
          · exact q.elim
theorem ps_ifK {cnd : Expr} {sa : List Stmt} {mc : Env → Res R} (hc : PT X cnd (tMt C W mc)) (ha : PSs X sa (tK C W io B m1)) (hb : PSs X sb (tK C W io B m2)) : PS X (.If cnd sa sb pos) (tK C W io B (kIf mc m1 m2)) :=
  PS.weak (ps_if hc ha hb) fun E σ H ⟨ρ, c, a, bs, rows, kr, h⟩ => ⟨ρ, c, _, kr.sr, (KW.rw kr h).imp fun v H1 ⟨r, x1, r1, q⟩ => by
    split at q
    · next e1 => exact ⟨true, asBl_rr r1 e1, iteT ⟨ρ, c, a, bs, rows, kr.ex x1, q⟩⟩
    · next e1 => exact ⟨false, asBl_rr r1 e1, iteF ⟨ρ, c, a, bs, rows, kr.ex x1, q⟩⟩
    · exact q.elim⟩
theorem iteT_of {b : Bool} {P Q : Prop} (e : b = true) (h : P) : if b = true then P else Q := by rw [if_pos e]; exact h
theorem iteF_of {b : Bool} {P Q : Prop} (e : ¬ b = true) (h : Q) : if b = true then P else Q := by rw [if_neg e]; exact h
theorem ps_limK (hK : X.K = C.K) (tk : Takes X W) (hcm : X.calm = true) {op : CmpOp} {k q1 : Nat} {z w : Str} {p1 p2 p3 p4 p5 p6 p7 : Pos} (ho : op = .Gt ∨ op = .Eq) (hN : X.N[i]? = some x) (hv : Vis X.env.scope x) (hd : (x == ("__debug__" : Str)) = false) (hcd : (x == ("__classdict__" : Str)) = false) (hi : i = B.i)
    (hg : Gl X "len") (hm : X.mg "len" = none) (he : PE X e (tM C W m)) (hbe : behindInMarks op e = false) (hgz : Gl X z) (hdz : (z == ("__debug__" : Str)) = false) (ex : ExcAt X z (C.ca k)) :
    PS X (.If (.Compare (.Call (.Name "len" p1) [.Name x px] [] p2) [op] [e] p3) [.Raise (some (.Call (.Name z p4) [.Constant (.str w) q1 p5] [] p6)) none p7] [] pos) (tK C W io B (kLim op m k)) := by
  obtain ⟨Bs, newId, initId, bmB, F, q⟩ := ex.ex
  have hlen : PE X (.Call (.Name "len" p1) [.Name x px] [] p2) (tCB (rLenX X.K) (tCons (tVar i) tNil)) := pe_callB call_lenX hg hm (by decide +kernel) (pa_cons (pe_var hN hv hd hcd) pa_nil (starEach_cons rfl)) (by decide) (by decide) (starEach_cons rfl) rfl
  have hr := pss_cons (ps_raise (pos := p7) hcm tk (pmk_own (p := p4) (j := q1) (p2 := p5) (pos := p6) (m := w) F q ex.mg ex.kp (raises_own ex.sub ex.ty) hgz hdz)) (pss_nil (X := X))
  rcases ho with rfl | rfl
  · refine PS.weak (ps_if (pt_cmpR op_gt hlen he hbe) hr pss_nil) fun E σ H ⟨ρ, c, a, bs, rows, kr, h⟩ => ?_
    subst hi
    refine ⟨.ref a, kr.sv, .inl ⟨.ref a, rows.length, rfl, .inl ⟨_, SqL.of kr.ha, by rw [List.length_map, List.length_reverse, Paired.length kr.rw]⟩, ρ, c, _, kr.sr, (KW.rw kr h).imp fun v H1 ⟨r, x1, r1, q⟩ => ?_⟩⟩
    split at q
    · next n e1 =>
      refine ⟨_, n, rfl, r1.int e1, _, rfl, ?_⟩
      dsimp only at q
      split at q
      · next e2 => exact iteT_of e2 (q σ H1 c none (kr.ex x1).out (kr.st.trans (Stp.ex x1)) (.inl ⟨rfl, rfl⟩))
      · next e2 => exact iteF_of e2 (q.nx (kr.ex x1) KT.refl)
    · exact q.elim
  · refine PS.weak (ps_if (pt_cmpR op_eq hlen he hbe) hr pss_nil) fun E σ H ⟨ρ, c, a, bs, rows, kr, h⟩ => ?_
    subst hi
    refine ⟨.ref a, kr.sv, .inl ⟨.ref a, rows.length, rfl, .inl ⟨_, SqL.of kr.ha, by rw [List.length_map, List.length_reverse, Paired.length kr.rw]⟩, ρ, c, _, kr.sr, (KW.rw kr h).imp fun v H1 ⟨r, x1, r1, q⟩ => ?_⟩⟩
    split at q
    · next n e1 =>
      rw [r1.int e1]
      refine ⟨rfl, _, rfl, ?_⟩
      rw [dec_int]
      dsimp only at q
      split at q
      · next e2 => exact iteT_of e2 (q σ H1 c none (kr.ex x1).out (kr.st.trans (Stp.ex x1)) (.inl ⟨rfl, rfl⟩))
      · next e2 => exact iteF_of e2 (q.nx (kr.ex x1) KT.refl)
    · exact q.elim
theorem kRet_at : ∀ {bs : List Addr} {rows : List (List D)} {F : Addr → List D → Prop} {ds : List D}, Paired F bs rows → kRet rows = some ds → ∃ b l, bs.reverse = b :: l ∧ F b ds
  | _, _, _, _, .nil, e => by cases e
  | _, _, _, _, .cons q .nil, e => by cases e; exact ⟨_, [], rfl, q⟩
  | _, _, _, _, .cons _ (.cons q t), e => by
    obtain ⟨b, l, e1, h⟩ := kRet_at (.cons q t) e
    exact ⟨b, l ++ [_], by rw [List.reverse_cons, e1]; rfl, h⟩
def tKR (C : Cn) (W : WX) (io : List Nat) (B : KB) (m : Env → List (List D) → Out) : TS := fun E σ H => ∃ ρ c a bs rows, KR C io B σ H ρ c a bs rows ∧ SW C W io E B.σ B.ρ B.c B.S B.H (m ρ rows)
theorem ps_retK (hX : X.K = C.K) (hN : X.N[i]? = some x) (hv : Vis X.env.scope x) (hd : (x == ("__debug__" : Str)) = false) (hcd : (x == ("__classdict__" : Str)) = false) (hi : i = B.i) {k1 : Nat} {p1 p3 : Pos} :
    PS X (.Return (some (.Subscript (.Name x px) (.Constant (.int 0) k1 p1) p3)) pos) (tKR C W io B kRetO) :=
  PS.weak (ps_ret (pe_ix ix_seq (pe_var hN hv hd hcd) pe_int (plainIx_of rfl))) fun E σ H ⟨ρ, c, a, bs, rows, kr, h⟩ => by
    subst hi
    unfold kRetO at h
    cases e1 : kRet rows with
    | none => rw [e1] at h; exact h.elim
    | some ds =>
      rw [e1] at h
      obtain ⟨b, l, e2, vs, q1, q2⟩ := kRet_at kr.rw e1
      have mb : b ∈ a :: bs := List.mem_cons_of_mem _ (List.mem_reverse.mp (e2 ▸ List.mem_cons_self))
      refine ⟨.ref a, kr.sv, .inl ⟨a, _, 0, .ref b, rfl, rfl, SqL.of kr.ha, ?_, h (.ref b) σ H c kr.out kr.st ⟨b, rfl, .inr (kr.nw b mb), fun z => ?_, vs, q1, q2.less fun y z => ?_⟩⟩⟩
      · rw [e2]; exact atI_nat (j := 0) rfl
      · rcases z with z | ⟨i, _, z⟩
        · obtain ⟨o, q⟩ := kr.b0.trk b (.inr z); rw [kr.nw b mb] at q; cases q
        · obtain ⟨o, q⟩ := kr.b0.trk b (.inl ⟨i, z⟩); rw [kr.nw b mb] at q; cases q
      · rcases z with z | z
        · rw [← kr.st.abr] at z
          exact z.own.imp id .inl
        · exact .inr (.inr (z ▸ mb))
theorem pss_finK {mf : Env → List (List D) → KO} {m2 : Env → List (List D) → Out} (h1 : PS X st (tK C W io B mf)) (h2 : PSs X rest (tKR C W io B m2)) : PSs X (st :: rest) (tKR C W io B (kThen mf m2)) :=
  PSs.weak (pss_cons h1 h2) fun E σ H ⟨ρ, c, a, bs, rows, kr, h⟩ => by
    refine ⟨ρ, c, a, bs, rows, kr, ?_⟩
    unfold kThen at h
    cases e1 : mf ρ rows with
    | nx ρ' r' =>
      rw [e1] at h
      exact fun σ' H' c' a' bs' x y => ⟨ρ', c', a', bs', r', x, h⟩
    | ex k pl ρ' => rw [e1] at h; exact fun σ' H' c' d x y z => h σ' H' c' d x y z
    | stuck => rw [e1] at h; exact h.elim
theorem ps_forK (hK : X.K = C.K) (hp : PassesOwn (model X.prog X.w) X.A X.env X.xe) (hc : X.calm = true) {it : Expr} (he : PE X it (tM C W m)) (hX : X.N.Nodup) (hj : X.N[j]? = some y) (hy : L2.Loc X.env.scope y) (hf : X.fn y = true ∨ X.env.scope.names.lookup y = some .local) (hb : PSs X sb (tK C W io B m1)) (hs : plainIter it = true) (hij : B.i ≠ j) (hio : j ∉ io) :
    PS X (.For (.Name y py) it sb [] pos) (fun E σ H => ∃ ρ c a bs rows, KR C io B σ H ρ c a bs rows ∧ match eSeqX m ρ with
      | .ok ds => ∀ H1, Ex H H1 → KW C W io B E.nx c (KS B a bs) H1 (kFor j m1 ds ρ rows)
      | .exc k pl => ∀ H' d, Ex H H' → XP H' (Mp.Own c (KS B a bs)) d pl → W (.ref (C.ca k)) d σ H'
      | .stuck => False) :=
  PS.weak (ps_for hp hc (pi_seq he) (pg_name hX hj hy hf) hb (folded_of hs)) fun E σ H ⟨ρ, c, a, bs, rows, kr, h⟩ => by
    refine ⟨ρ, c, _, kr.sr, ?_⟩
    unfold eSeqX toRes at h
    cases e1 : m ρ with
    | stuck => rw [e1] at h; exact h.elim
    | exc k pl => rw [e1] at h; exact h
    | ok r =>
      rw [e1] at h
      dsimp only at h
      intro v H1 x1 r1
      split at h
      · next ds ed =>
        split at ed
        · next hx =>
          have core : ∀ (J : It), Src H1 (Mp.Own c (KS B a bs)) (Mp.Own c (KS B a bs)) J ds → ∃ Wf : Nat → Nat → L2.St → Hp → Prop, (∃ m, Wf 0 m σ H1) ∧ ∀ i m σ H, Wf i m σ H → (J.stop i H ∧ E.nx σ H) ∨ (J.go i H ∧ ∃ N : L2.St → Hp → Prop, (∀ σ' H', N σ' H' → ∃ m', m' < m ∧ Wf (i + 1) m' σ' H') ∧
              ∀ x H', J.yld i H x H' → gName j x σ H' fun σ2 H2 => tK C W io B m1 { E with nx := N, ct := N, bk := E.nx } σ2 H2) := fun J hJ => by
            refine ⟨fun i m σ' H' => m = ds.length - i ∧ i ≤ ds.length ∧ ∃ ρ' c' a' bs' rows', KR C io B σ' H' ρ' c' a' bs' rows' ∧ KT c (KS B a bs) H1 c' (KS B a' bs') H' ∧ KW C W io B E.nx c' (KS B a' bs') H' (kFor j m1 (ds.drop i) ρ' rows'),
              ⟨ds.length, by simp, Nat.zero_le _, ρ, c, a, bs, rows, kr.ex x1, KT.refl, h H1 x1⟩, ?_⟩
            rintro i m σ' H' ⟨rfl, hi, ρ', c', a', bs', rows', kr', kt', g⟩
            by_cases hlt : i < ds.length
            · refine .inr ⟨hJ.go i H' kt'.fr hlt, fun σ3 H3 => i + 1 ≤ ds.length ∧ ∃ ρ' c' a' bs' rows', KR C io B σ3 H3 ρ' c' a' bs' rows' ∧ KT c (KS B a bs) H1 c' (KS B a' bs') H3 ∧ KW C W io B E.nx c' (KS B a' bs') H3 (kFor j m1 (ds.drop (i + 1)) ρ' rows'),
                fun σ3 H3 ⟨z, w⟩ => ⟨ds.length - (i + 1), by omega, rfl, z, w⟩, fun x H'' y => ?_⟩
              obtain ⟨x3, rx⟩ := hJ.yld i H' x H'' ds[i] (Mp.Own c' (KS B a' bs')) kt'.fr kt'.nw kr'.sr.trk (List.getElem?_eq_getElem hlt) y
              rw [List.drop_eq_getElem_cons hlt] at g
              unfold kFor at g
              obtain ⟨kr2, kt2⟩ := (kr'.ex x3).setV hij hio rx
              have kt3 : KT c' (KS B a' bs') H' (cut c' j) (KS B a' bs') H'' := (KT.ex x3).trans kt2
              refine ⟨_, _, _, _, _, kr2, ?_⟩
              have g1 := KW.after kt3 g
              cases e2 : m1 (ρ'.set j (some (.val ds[i]))) rows' with
              | stuck => rw [e2] at g1; exact g1.elim
              | nx ρ2 r2 =>
                rw [e2] at g1
                exact fun σ3 H3 c3 a3 bs3 u w => ⟨hlt, ρ2, c3, a3, bs3, r2, u, (kt'.trans kt3).trans w, KW.after w g1⟩
              | ex k pl ρ2 => rw [e2] at g1; exact g1
            · have ei : i = ds.length := by omega
              subst ei
              rw [List.drop_length] at g
              exact .inl ⟨hJ.stop _ H' kt'.fr (Nat.le_refl _), g.nx kr' KT.refl⟩
          rw [hK]
          have := seq_src (fun a z => z) r1 ed (.inl hx)
          rcases this with ⟨a, xs, h1, h2, h3⟩ | ⟨a, xs, h1, h2, h3⟩ | ⟨z, h1, h3⟩
          · exact .inl ⟨a, xs, h1, h2, core _ h3⟩
          · exact .inr (.inl ⟨a, xs, h1, h2, core _ h3⟩)
          · exact .inr (.inr ⟨z, h1, core _ h3⟩)
        · cases ed
      · next k pl ed =>
        exfalso
        split at ed
        · unfold itemsD at ed; split at ed <;> first | cases ed | (split at ed <;> cases ed)
        · cases ed
      · exact h.elim
theorem none_no {ρ : Env} {i : Nat} (r : R) : (ρ.set i none)[i]? ≠ some (some r) := fun z => by
  by_cases hi : i < ρ.length
  · rw [List.getElem?_set_self hi] at z; cases z
  · rw [List.getElem?_eq_none (by simpa using hi)] at z; cases z
theorem KR.begin {S : Addr → Prop} {p q : Addr} (sr : SR C.K σ H ρ c S) (hi : i < ρ.length) (hio : i ∉ io) (hp : H p = none) (hq : L2.upd H p (.lst []) q = none) :
    KR C io ⟨σ, ρ, c, H, S, i⟩ (σ.set i (some (.ref q))) (L2.upd (L2.upd H p (.lst [])) q (.lst [.ref p])) (ρ.set i none) (cut c i) q [p] [[]] := by
  have npq : q ≠ p := fun z => by rw [z, upd_same] at hq; cases hq
  have hqH : H q = none := by rw [upd_ne npq] at hq; exact hq
  have e1 : Ex H (L2.upd H p (.lst [])) := Ex.new hp
  have e2 : Ex (L2.upd H p (.lst [])) (L2.upd (L2.upd H p (.lst [])) q (.lst [.ref p])) := Ex.new hq
  have nws : ∀ x ∈ [q, p], H x = none := fun x z => by
    rcases List.mem_cons.mp z with z | z
    · subst z; exact hqH
    · rw [List.mem_singleton.mp z]; exact hp
  refine ⟨sr, ((sr.dropE i).junk (fun r => none_no r) _).wide (e1.trans e2) (fun x z => z.imp id (nws x)) (fun x z => ?_), ⟨fun y o _ z => e2 _ _ (e1 _ _ z), fun y o z => ⟨o, e2 _ _ (e1 _ _ z)⟩, fun y z => .inl (cut_cel z), fun j d z => ?_, fun j hj => ?_⟩, ?_, upd_same, ?_, nws, .cons ⟨[], e2 _ _ upd_same, by simp [Rps]⟩ .nil⟩
  · rcases z with z | z
    · obtain ⟨o, z⟩ := sr.trk x (.inr z); exact ⟨o, e2 _ _ (e1 _ _ z)⟩
    · rcases List.mem_cons.mp z with z | z
      · subst z; exact ⟨_, upd_same⟩
      · rw [List.mem_singleton.mp z]; exact ⟨_, e2 _ _ upd_same⟩
  · obtain ⟨z1, z2⟩ := set_none z
    exact ⟨z1, List.getElem?_set_ne z2⟩
  · unfold cut; rw [if_neg (fun (z : j = i) => hio (z ▸ hj))]
  · exact List.getElem?_set_self (by rw [← sr.len]; exact hi)
  · rw [List.nodup_cons, List.nodup_cons]
    exact ⟨fun z => npq (List.mem_singleton.mp z), by simp, List.nodup_nil⟩
theorem PSs.exB {sts : List Stmt} {t : KB → TS} {P : KB → Prop} (h : ∀ B, P B → PSs X sts (t B)) : PSs X sts (fun E σ H => ∃ B, P B ∧ t B E σ H) :=
  ⟨fun pins s σ H D I ⟨B, hB, q⟩ => (h B hB).run pins s σ H D I q⟩
theorem pss_stk0 {fin : Env → List (List D) → KO} {it : Expr} {p1 p2 : Pos} (hK : X.K = C.K) (hp : PassesOwn (model X.prog X.w) X.A X.env X.xe) (hc : X.calm = true) (he : PE X it (tM C W m)) (hX : X.N.Nodup) (hN : X.N[i]? = some x) (hx : L2.Loc X.env.scope x) (hfx : X.fn x = true ∨ X.env.scope.names.lookup x = some .local)
    (hj : X.N[j]? = some y) (hy : L2.Loc X.env.scope y) (hf : X.fn y = true ∨ X.env.scope.names.lookup y = some .local) (hb : ∀ B : KB, B.i = i → PSs X sb (tK C W io B m1)) (hs : plainIter it = true) (hij : i ≠ j) (hio : j ∉ io) (hii : i ∉ io)
    (hfin : ∀ B : KB, B.i = i → PSs X rest (tKR C W io B (kThen fin kRetO))) :
    PSs X (.Assign [.Name x px] (.List [.List [] p1] p2) spos :: .For (.Name y py) it sb [] pos :: rest) (tS C W io (sStk i j (eSeqX m) m1 fin)) := by
  have h2 : PSs X (.For (.Name y py) it sb [] pos :: rest) (fun E σ H => ∃ B : KB, B.i = i ∧ ∃ ρ c a bs rows, KR C io B σ H ρ c a bs rows ∧ match eSeqX m ρ with
      | .ok ds => SW C W io E B.σ B.ρ B.c B.S B.H (kOut (kThen fin kRetO) (kFor j m1 ds ρ rows))
      | .exc k pl => SW C W io E B.σ B.ρ B.c B.S B.H (.ex k pl ρ)
      | .stuck => False) := PSs.exB fun B hB => PSs.weak (pss_cons (ps_forK hK hp hc he hX hj hy hf (hb B hB) hs (by rw [hB]; exact hij) hio) (hfin B hB)) fun E σ H ⟨ρ, c, a, bs, rows, kr, h⟩ => by
    refine ⟨ρ, c, a, bs, rows, kr, ?_⟩
    cases e1 : eSeqX m ρ with
    | stuck => rw [e1] at h; exact h
    | exc k pl => rw [e1] at h; exact fun H' d x q => h σ H' c d (kr.ex x).out (kr.st.trans (Stp.ex x)) (XP.sub KR.ownB q)
    | ok ds =>
      rw [e1] at h
      intro H1 x1
      dsimp only at h
      cases e2 : kFor j m1 ds ρ rows with
      | stuck => rw [e2] at h; exact h
      | ex k pl ρ' => rw [e2] at h; exact fun σ' H' c' d x y z => h σ' H' c' d x y z
      | nx ρ' r' => rw [e2] at h; exact fun σ' H' c' a' bs' kr' _ => ⟨ρ', c', a', bs', r', kr', h⟩
  refine PSs.weak (pss_cons (ps_set hX hN hx (pe_lst (pa_cons (pe_lst pa_nil) pa_nil (starEach_cons rfl))) rfl hfx) h2) fun E σ H ⟨ρ, c, S, sr, h⟩ => ?_
  unfold sStk at h
  split at h
  · next hi =>
    refine ⟨Nat.zero_le _, fun p hp => ⟨show 1 ≤ sizeLine by decide, fun q hq => ⟨⟨σ, ρ, c, H, S, i⟩, rfl, _, _, _, _, _, KR.begin sr hi hii hp hq, ?_⟩⟩⟩
    unfold sStk' at h
    cases e1 : eSeqX m (ρ.set i none) with
    | stuck => rw [e1] at h; exact h
    | exc k pl => rw [e1] at h; exact h
    | ok ds => rw [e1] at h; exact h
  · exact h.elim
end

inductive Ks where
  | push | pop (j : Nat) | top (m : Xp) | ifx (c : Xp) (a b : List Ks) | lim (op : CmpOp) (m : Xp) (k : Nat)
mutual
def denK (g : G) : Ks → Env → List (List D) → KO
  | .push => kPush
  | .pop j => kPop j
  | .top m => kTop (den g m)
  | .ifx c a b => kIf (den g c) (denKs g a) (denKs g b)
  | .lim op m k => kLim op (den g m) k
def denKs (g : G) : List Ks → Env → List (List D) → KO
  | [] => .nx
  | m :: ms => kSeq (denK g m) (denKs g ms)
end
def okOp : CmpOp → Bool
  | .Gt => true
  | .Eq => true
  | _ => false
mutual
def chkK : Ks → Nat → Ck → List Nat → Stmt → Bool
  | .push, i, k, _, s => (match s with
    | .Expr (.Call (.Attribute (.Name x _) f ap) [.List [] _] [] cp) _ => decide (f = ("append" : Str)) && (chkV k i x && (ap.endLine == cp.line))
    | _ => false)
  | .pop j, i, k, io, s => (match s with
    | .Assign [.Name y _] (.Call (.Name t _) [.Call (.Attribute (.Name x _) f ap) [] [] cp] [] _) _ => decide (t = ("tuple" : Str)) && (decide (f = ("pop" : Str)) && (gloOk k.sc t && (k.bs.contains t && (chkV k i x && (decide (k.N[j]? = some y) && (stoOk k.sc k.fn y && (decide (i ≠ j) && (!io.contains j && (ap.endLine == cp.line)))))))))
    | _ => false)
  | .top m, i, k, _, s => (match s with
    | .Expr (.Call (.Attribute (.Subscript (.Name x _) (.UnaryOp .USub (.Constant (.int 1) _ _) _) _) f ap) [e] [] cp) _ => decide (f = ("append" : Str)) && (chkV k i x && (noStar e && ((ap.endLine == cp.line) && chk m .v k e)))
    | _ => false)
  | .ifx c a b, i, k, io, s => (match s with
    | .If e sa sb _ => chk c .t k e && (chkKs a i k io sa && chkKs b i k io sb)
    | _ => false)
  | .lim op m j, i, k, _, s => (match s with
    | .If (.Compare (.Call (.Name l _) [.Name x _] [] _) [o] [e] _) [.Raise (some (.Call (.Name z _) [.Constant (.str _) _ _] [] _)) none _] [] _ =>
      decide (l = ("len" : Str)) && (decide (o = op) && (okOp op && (gloOk k.sc l && (k.bs.contains l && (chkV k i x && (!behindInMarks op e && (chk m .v k e && (k.calm && (decide (k.xs.lookup z = some j) && (gloOk k.sc z && okName z))))))))))
    | _ => false)
def chkKs : List Ks → Nat → Ck → List Nat → List Stmt → Bool
  | [], _, _, _, sts => sts.isEmpty
  | m :: ms, i, k, io, sts => (match sts with
    | s :: sts => chkK m i k io s && chkKs ms i k io sts
    | [] => false)
end
def chkFin : List Ks → Nat → Ck → List Nat → List Stmt → Bool
  | [], i, k, _, sts => (match sts with
    | [.Return (some (.Subscript (.Name x _) (.Constant (.int 0) _ _) _)) _] => chkV k i x
    | _ => false)
  | m :: ms, i, k, io, sts => (match sts with
    | s :: sts => chkK m i k io s && chkFin ms i k io sts
    | [] => false)
def chkStk (i j : Nat) (s : Xp) (b fin : List Ks) (k : Ck) (io : List Nat) (sts : List Stmt) : Bool := match sts with
  | .Assign [.Name x _] (.List [.List [] _] _) _ :: .For (.Name y _) it sb [] _ :: rest =>
    decide (k.N[i]? = some x) && (stoOk k.sc k.fn x && (!io.contains i && (decide (k.N[j]? = some y) && (stoOk k.sc k.fn y && (!io.contains j && (decide (i ≠ j) && (k.calm && (plainIter it && (chk s .v k it && (chkKs b i k io sb && chkFin fin i k io rest))))))))))
  | _ => false
mutual
theorem soundK : ∀ (m : Ks) {X C W k g io i} (B : KB) (_ : B.i = i) (_ : Gd X C W k g) (s : Stmt), chkK m i k io s = true → PS X s (tK C W io B (denK g m))
  | .push, X, C, W, k, g, io, i, B, hB, gd, s, h => by
    unfold chkK at h
    split at h
    · simp only [Bool.and_eq_true, decide_eq_true_eq] at h
      obtain ⟨rfl, h2, h3⟩ := h
      obtain ⟨a, b, c, d⟩ := chkV_of gd h2
      exact ps_pushK a b c d hB.symm h3
    · cases h
  | .pop j, X, C, W, k, g, io, i, B, hB, gd, s, h => by
    unfold chkK at h
    split at h
    · simp only [Bool.and_eq_true, decide_eq_true_eq, Bool.not_eq_true'] at h
      obtain ⟨rfl, rfl, h1, h2, h3, h4, h5, h6, h7, h8⟩ := h
      obtain ⟨a, b, c, d⟩ := chkV_of gd h3
      rw [← gd.hN] at h4
      rw [← gd.sc, ← gd.fn] at h5
      rw [← gd.sc] at h1
      obtain ⟨s1, s2⟩ := stoOk_loc h5
      exact ps_popK gd.nd a b c d hB.symm h4 s1 s2 h6 (not_io h7) (glo_of h1) (gd.bs _ h2) h8
    · cases h
  | .top m, X, C, W, k, g, io, i, B, hB, gd, s, h => by
    unfold chkK at h
    split at h
    · simp only [Bool.and_eq_true, decide_eq_true_eq] at h
      obtain ⟨rfl, h2, h3, h4, h5⟩ := h
      obtain ⟨a, b, c, d⟩ := chkV_of gd h2
      exact ps_topK a b c d hB.symm ((sound m gd _).pe h5) h3 h4
    · cases h
  | .ifx c a b, X, C, W, k, g, io, i, B, hB, gd, s, h => by
    unfold chkK at h
    split at h
    · simp only [Bool.and_eq_true] at h
      exact ps_ifK ((sound c gd _).pt h.1).1 (soundKs a B hB gd _ h.2.1) (soundKs b B hB gd _ h.2.2)
    · cases h
  | .lim op m j, X, C, W, k, g, io, i, B, hB, gd, s, h => by
    unfold chkK at h
    split at h
    · simp only [Bool.and_eq_true, decide_eq_true_eq, Bool.not_eq_true'] at h
      obtain ⟨rfl, rfl, h1, h2, h3, h4, h5, h6, h7, h8, h9, h10⟩ := h
      obtain ⟨a, b, c, d⟩ := chkV_of gd h4
      rw [← gd.sc] at h2 h9
      refine ps_limK gd.hK gd.tk (gd.calm h7) ?_ a b c d hB.symm (glo_of h2) (gd.bs _ h3) ((sound m gd _).pe h6) h5 (glo_of h9) (okName_of h10).1 (gd.xc _ _ h8)
      unfold okOp at h1
      split at h1 <;> first | exact .inl rfl | exact .inr rfl | cases h1
    · cases h
theorem soundKs : ∀ (ms : List Ks) {X C W k g io i} (B : KB) (_ : B.i = i) (_ : Gd X C W k g) (sts : List Stmt), chkKs ms i k io sts = true → PSs X sts (tK C W io B (denKs g ms))
  | [], X, C, W, k, g, io, i, B, hB, gd, sts, h => by
    unfold chkKs at h
    rw [List.isEmpty_iff] at h
    subst h
    unfold denKs
    exact pss_nilK
  | m :: ms, X, C, W, k, g, io, i, B, hB, gd, sts, h => by
    unfold chkKs at h
    unfold denKs
    split at h
    · rw [Bool.and_eq_true] at h
      exact pss_consK (soundK m B hB gd _ h.1) (soundKs ms B hB gd _ h.2)
    · cases h
end
theorem soundFin : ∀ (ms : List Ks) {X C W k g io i} (B : KB) (_ : B.i = i) (_ : Gd X C W k g) (sts : List Stmt), chkFin ms i k io sts = true → PSs X sts (tKR C W io B (kThen (denKs g ms) kRetO))
  | [], X, C, W, k, g, io, i, B, hB, gd, sts, h => by
    unfold chkFin at h
    split at h
    · obtain ⟨a, b, c, d⟩ := chkV_of gd h
      have e : kThen (denKs g []) kRetO = kRetO := by funext ρ rows; unfold kThen denKs; rfl
      rw [e]
      refine PSs.weak (pss_cons (ps_retK (W := W) (io := io) gd.hK a b c d hB.symm) (pss_nil (X := X))) fun E σ H ⟨ρ, c, a, bs, rows, kr, h⟩ => ⟨ρ, c, a, bs, rows, kr, ?_⟩
      unfold kRetO at h ⊢
      cases e1 : kRet rows with
      | none => rw [e1] at h; exact h
      | some ds => rw [e1] at h; exact h
    · cases h
  | m :: ms, X, C, W, k, g, io, i, B, hB, gd, sts, h => by
    unfold chkFin at h
    split at h
    · rw [Bool.and_eq_true] at h
      unfold denKs
      rw [kThen_seq]
      exact pss_finK (soundK m B hB gd _ h.1) (soundFin ms B hB gd _ h.2)
    · cases h
theorem pss_stk {X : Cx} {C : Cn} {W : WX} {k : Ck} {g : G} {i j : Nat} {s : Xp} {b fin : List Ks} {io : List Nat} {sts : List Stmt} (gd : Gd X C W k g) (po : PassesOwn (model X.prog X.w) X.A X.env X.xe) (h : chkStk i j s b fin k io sts = true) :
    PSs X sts (tS C W io (sStk i j (eSeqX (den g s)) (denKs g b) (denKs g fin))) := by
  unfold chkStk at h
  split at h
  · simp only [Bool.and_eq_true, decide_eq_true_eq, Bool.not_eq_true'] at h
    obtain ⟨h1, h2, h3, h4, h5, h6, h7, h8, h9, h10, h11, h12⟩ := h
    rw [← gd.hN] at h1 h4
    rw [← gd.sc, ← gd.fn] at h2 h5
    obtain ⟨s1, s2⟩ := stoOk_loc h2
    obtain ⟨s3, s4⟩ := stoOk_loc h5
    exact pss_stk0 gd.hK po (gd.calm h8) ((sound s gd _).pe h10) gd.nd h1 s1 s2 h4 s3 s4 (fun B hB => soundKs b B hB gd _ h11) h9 h7 (not_io h6) (not_io h3) (fun B hB => soundFin fin B hB gd _ h12)
  · cases h
end Mp

namespace Mp
open PySem L2

section
variable {K : PySem.W.Frag} {io : List Nat} {σ : L2.St} {H H' : Hp} {ρ : Env} {c : Nat → List Addr} {S : Addr → Prop} {i : Nat} {d : D}
theorem SR.frz (h : SR K σ H ρ c S) (e : ρ[i]? = some (some (.own d))) : SR K σ H (ρ.set i (some (.val d))) (cut c i) S := by
  obtain ⟨v, h1, a, rfl, hcell, hb⟩ := h.rep i _ e
  have h0 := (h.dropE i).setV (i := i) (v := .ref a) (d := d) (by unfold cut; rw [if_pos rfl]) (hb.rp (fun _ z => cut_own z) fun z => by
    rcases z with ⟨j, hj⟩ | z
    · unfold cut at hj
      split at hj
      · cases hj
      · next hn => exact hn (h.dis j i a hj (by rw [hcell]; simp))
    · exact h.sep i a (by rw [hcell]; simp) z)
  have e1 : σ.set i (some (.ref a)) = σ := by
    apply List.ext_getElem?
    intro j
    by_cases hj : i = j
    · subst hj
      rw [h1, List.getElem?_set_self (List.getElem?_eq_some_iff.mp h1).1]
    · rw [List.getElem?_set_ne hj]
  rw [e1, List.set_set] at h0
  exact h0
theorem Stp.frz (hio : i ∉ io) : Stp io σ ρ c H σ (ρ.set i (some (.val d))) (cut c i) H where
  fr := fun a o _ q => q
  tr := fun a o q => ⟨o, q⟩
  nw := fun a q => .inl (cut_cel q)
  bo := fun j d q => ⟨(set_bor (fun _ z => by cases z) q).1, rfl⟩
  io := fun j hj => by unfold cut; rw [if_neg]; intro z; subst z; exact hio hj
theorem Stp.out (hio : i ∉ io) : Stp io σ ρ c H σ (ρ.set i none) (cut c i) H where
  fr := fun a o _ q => q
  tr := fun a o q => ⟨o, q⟩
  nw := fun a q => .inl (cut_cel q)
  bo := fun j d q => ⟨(set_none q).1, rfl⟩
  io := fun j hj => by unfold cut; rw [if_neg]; intro z; subst z; exact hio hj
end
def sFrz (i : Nat) (ρ : Env) : Out := match ρ[i]? with
  | some (some (.own d)) => .nx (ρ.set i (some (.val d)))
  | _ => .nx ρ
def sRetV (i : Nat) (ρ : Env) : Out := match ρ[i]? with
  | some (some (.own d)) => .rt (.own d) (ρ.set i none)
  | some (some (.val d)) => .rt (.val d) ρ
  | some (some (.bor d)) => .rt (.bor d) ρ
  | _ => .stuck
section
variable {X : Cx} {C : Cn} {W : WX} {io : List Nat} {i : Nat} {x : Str} {px pos : Pos} {sts : List Stmt} {m : Env → Out}
theorem pss_frzM (hio : i ∉ io) (h : PSs X sts (tS C W io m)) : PSs X sts (tS C W io (oSeq (sFrz i) m)) :=
  PSs.weak h fun E σ H ⟨ρ, c, S, sr, q⟩ => by
    unfold oSeq sFrz at q
    cases e : ρ[i]? with
    | none => rw [e] at q; exact ⟨ρ, c, S, sr, q⟩
    | some r =>
      cases r with
      | none => rw [e] at q; exact ⟨ρ, c, S, sr, q⟩
      | some r =>
        cases r with
        | own d =>
          rw [e] at q
          exact ⟨_, _, S, sr.frz e, SW.after (Stp.frz hio) q⟩
        | val d => rw [e] at q; exact ⟨ρ, c, S, sr, q⟩
        | bor d => rw [e] at q; exact ⟨ρ, c, S, sr, q⟩
theorem ps_retVM (hN : X.N[i]? = some x) (hv : Vis X.env.scope x) (hd : (x == ("__debug__" : Str)) = false) (hcd : (x == ("__classdict__" : Str)) = false) (hio : i ∉ io) : PS X (.Return (some (.Name x px)) pos) (tS C W io (sRetV i)) :=
  PS.weak (ps_ret (pe_var hN hv hd hcd)) fun E σ H ⟨ρ, c, S, sr, q⟩ => by
    unfold sRetV at q
    split at q
    · next d e =>
      obtain ⟨v, h1, a, rfl, hcell, hb⟩ := sr.rep i _ e
      have ha : a ∈ c i := by rw [hcell]; simp
      refine ⟨_, h1, q (.ref a) σ H (cut c i) (sr.dropE i) (Stp.out hio) ⟨a, rfl, .inl ⟨i, ha⟩, ?_, hb.less fun b z => ?_⟩⟩
      · rintro (z | ⟨j, hj, z⟩)
        · exact sr.sep i a ha z
        · have := sr.dis i j a ha z; subst this; exact hio hj
      · rcases z with z | z
        · exact z.own
        · subst z; exact .inl ⟨i, ha⟩
    · next d e =>
      obtain ⟨v, h1, h2⟩ := sr.rep i _ e
      exact ⟨v, h1, q v σ H c sr Stp.refl (Rp.less (fun _ z => z.own) h2.2)⟩
    · next d e =>
      obtain ⟨v, h1, h2⟩ := sr.rep i _ e
      exact ⟨v, h1, q v σ H c sr Stp.refl (Lent.less (fun _ z => z.own) h2.2.lent)⟩
    · exact q.elim
end

def sLpop (i j : Nat) (ρ : Env) : Out := onL j ρ fun ds => match ds.getLast? with
  | some d => .nx ((ρ.set j (some (.own (.lst ds.dropLast)))).set i (some (.val d)))
  | none => .stuck
theorem ps_lpopM {X : Cx} {C : Cn} {W : WX} {io : List Nat} {i j : Nat} {x y : Str} {px py apos cpos spos : Pos} (hX : X.N.Nodup) (hN : X.N[j]? = some x) (hv : Vis X.env.scope x) (hd : (x == ("__debug__" : Str)) = false) (hcd : (x == ("__classdict__" : Str)) = false)
    (hi : X.N[i]? = some y) (hy : L2.Loc X.env.scope y) (hf : X.fn y = true ∨ X.env.scope.names.lookup y = some .local) (hio : i ∉ io) (hl : (apos.endLine == cpos.line) = true) :
    PS X (.Assign [.Name y py] (.Call (.Attribute (.Name x px) "pop" apos) [] [] cpos) spos) (tS C W io (sLpop i j)) :=
  PS.weak (ps_set hX hi hy (pe_bm0 PySem.F.plainAttrs_list PySem.F.slot_list_pop PySem.F.type_list_pop mt_pop (pe_var hN hv hd hcd) rfl hl) rfl hf) fun E σ H ⟨ρ, c, S, sr, h⟩ => by
    unfold sLpop onL at h
    split at h
    · next ds e0 =>
      dsimp only at h
      split at h
      · next d ed =>
        obtain ⟨v0, hs, a, rfl, hcell, vs, hH, hr⟩ := sr.rep j _ e0
        have P : Mp.Own c S a := .inl ⟨j, by rw [hcell]; simp⟩
        obtain ⟨y1, hy1, hy2⟩ := hr.get (i := vs.length - 1) (d := d) (by rw [hr.length, ← List.getLast?_eq_getElem?]; exact ed)
        obtain ⟨s1, s2⟩ := sr.upd (io := io) (a := a) (o := .lst vs.dropLast) (d' := .lst ds.dropLast) e0 hs ⟨vs.dropLast, upd_same, hr.dropLast.upd P⟩
        exact ⟨.ref a, hs, .inl ⟨rfl, _, SqL.of hH⟩, a, vs, y1, rfl, rfl, hH, hy1, h.nx (s1.setV' (hy2.upd P)) (s2.trans (Stp.setV hio))⟩
      · exact h.elim
    · exact h.elim
def zipA : List (Nat × Option Nat) → List (Env → Out) → List (Nat × Option Nat × (Env → Out))
  | (j, o) :: js, m :: ms => (j, o, m) :: zipA js ms
  | _, _ => []
inductive SOp where
  | setf (c i : Nat) (f : Str)
def sOp (g : G) : SOp → List (Env → Res R) → Env → Out
  | .setf c i f, [m] => sSetf (g.ca c) i f m
  | _, _ => fun _ => .stuck
inductive Sm where
  | pass | brk | cnt | drop (m : Xp) | ret (m : Xp) | retN | retV (i : Nat)
  | set (own : Bool) (i : Nat) (m : Xp) | unp (t : Tg) (m : Xp)
  | ite (c : Xp) (a b : List Sm) | fore (t : Tg) (s : Xp) (b : List Sm) | whl (n : Nat) (c : Xp) (b : List Sm)
  | app (i : Nat) (m : Xp) | ext (i : Nat) (m : Xp) | clr (i : Nat) | frz (i : Nat) | dput (i : Nat) (a b : Xp)
  | lend (i : Nat) (w : Option Dk) (t : Tg) (b : List Sm) | ford (t : Tg) (k : Dk) (s : Xp) (b : List Sm) | op (o : SOp) (es : List Xp)
  | mthG (ret : Rt) (f c : Nat) (m : Str) (j : Nat) (es : List Xp) (dd : List D) (ms : List Ar) | stk (i j : Nat) (s : Xp) (b fin : List Ks) | callG (ret : Rt) (f : Nat) (es : List Xp) (dd : List D) (ms : List Ar)
  | raise (k : Nat) | tryM (b : List Sm) (js : List Nat) (ss : List (List Sm))
  | raiseF (k : Nat) (es : List Xp) | tryE (b : List Sm) (js : List Nat) (ss : List (List Sm)) (o : List Sm)
  | dpop (j : Nat) (k : Xp)
  | lpop (i j : Nat) | tryA (b : List Sm) (js : List (Nat × Option Nat)) (ss : List (List Sm)) (o : List Sm)
mutual
def denS (g : G) : Sm → Env → Out
  | .pass => .nx
  | .brk => .bk
  | .cnt => .ct
  | .drop m => sDrop (den g m)
  | .ret m => sRet (den g m)
  | .retN => sRetN
  | .retV i => sRetV i
  | .set ow i m => sSet ow i (den g m)
  | .unp t m => sUnp t (den g m)
  | .ite c a b => sIf (den g c) (denB g a) (denB g b)
  | .fore t s b => sFor t (eSeqX (den g s)) (denB g b)
  | .whl n c b => whGo (den g c) (denB g b) n
  | .app i m => sApp i (den g m)
  | .ext i m => sExt i (den g m)
  | .clr i => sClr i
  | .frz i => sFrz i
  | .dput i a b => sDput i (den g a) (den g b)
  | .lend i w t b => sLendG i w t (denB g b)
  | .ford t k s b => sForD t k (den g s) (denB g b)
  | .op o es => sOp g o (dens g es)
  | .mthG ret f c m j es dd ms => sMthG (g.ca c) m j (g.runC f) ret (dens g es) dd (ms ++ List.replicate dd.length .v)
  | .stk i j s b fin => sStk i j (eSeqX (den g s)) (denKs g b) (denKs g fin)
  | .callG ret f es dd ms => sCallG (g.runC f) ret (dens g es) dd (ms ++ List.replicate dd.length .v)
  | .raise k => sRaise k
  | .tryM b js ss => sTry g.sub (denB g b) (js.zip (denL g ss))
  | .raiseF k es => sRaiseL g.lv k (dens g es)
  | .dpop j m => sDpop j (den g m)
  | .tryE b js ss o => sTryE g.sub (denB g b) (js.zip (denL g ss)) (denB g o)
  | .lpop i j => sLpop i j
  | .tryA b js ss o => sTryA g.sub g.ca (denB g b) (zipA js (denL g ss)) (denB g o)
def denB (g : G) : List Sm → Env → Out
  | [] => .nx
  | m :: ms => oSeq (denS g m) (denB g ms)
def denL (g : G) : List (List Sm) → List (Env → Out)
  | [] => []
  | b :: bs => denB g b :: denL g bs
end
def isFun (sc : Scope) : Bool := match sc.kind with
  | .function => true
  | _ => false
def itSl : Option Dk → Expr → Expr → (Str → Bool) → Bool
  | none, .Name x _, _, c => c x
  | some d, it, tg, c => tupT d tg && (match dIter d it with
    | some (.Name x _) => c x
    | _ => false)
  | _, _, _, _ => false
def isStk : Sm → Option (Nat × Nat × Xp × List Ks × List Ks)
  | .stk i j s b fin => some (i, j, s, b, fin)
  | _ => none
def isFrz : Sm → Option Nat
  | .frz i => some i
  | _ => none
def chkG : List Ar → List Xp → Ck → List Expr → Bool
  | [], [], _, [] => true
  | .v :: as, m :: ms, k, e :: es => noStar e && (chk m .v k e && chkG as ms k es)
  | .io j :: as, .var i :: ms, k, .Name x _ :: es => decide (i = j) && (chkV k j x && chkG as ms k es)
  | .le j :: as, .var i :: ms, k, .Name x _ :: es => decide (i = j) && (chkV k j x && chkG as ms k es)
  | _, _, _, _ => false
def noIn (as bs : List Nat) : Bool := as.all fun a => !bs.contains a
def callB (f : Nat) (es : List Xp) (dd : List D) (ms : List Ar) (k : Ck) (x : Str) (ys : List Expr) : Bool :=
  osIs f es.length (iosOf (ms ++ List.replicate dd.length .v)) dd (k.os.lookup x) && (gloOk k.sc x && (okName x && (ys.all noStar && (decide (jsOf ms).Nodup && (noIn (lesOf ms) (jsOf ms) && chkG ms es k ys)))))
def Ck.sui (k : Ck) : Ck := { k with fs := [], os := [], xs := [], ms := [], mo := [], nw := [], xf := [], calm := false }
def mthB (f c : Nat) (m : Str) (j : Nat) (es : List Xp) (dd : List D) (ms : List Ar) (k : Ck) (x m' : Str) (ap cp : Pos) (ys : List Expr) : Bool :=
  decide (m' = m) && (osIs f (es.length + 1) (iosOf (.io j :: (ms ++ List.replicate dd.length .v))) dd (k.mo.lookup (c, m)) && (chkV k j x && (ys.all noStar && (decide (ys.length < 29) && ((ap.endLine == cp.line) && (decide (jsOf (.io j :: ms)).Nodup && (noIn (lesOf ms) (jsOf (.io j :: ms)) && chkG ms es k ys)))))))
def sParts (k : Ck) (io : List Nat) : SOp → Stmt → Option (List Expr)
  | .setf c i f, .Assign [.Attribute (.Name y _) f' _] e _ => if decide (f' = f) && (k.fl.contains (c, f) && (chkV k i y && noComp e)) then some [e] else none
  | _, _ => none
mutual
def chkS : Sm → Ck → List Nat → Stmt → Bool
  | .pass, _, _, s => (match s with
    | .Pass _ => true
    | .Expr (.Constant (.str _) _ _) _ => true
    | _ => false)
  | .brk, _, _, s => (match s with
    | .Break _ => true
    | _ => false)
  | .cnt, _, _, s => (match s with
    | .Continue _ => true
    | _ => false)
  | .drop m, k, _, s => (match s with
    | .Expr e _ => noComp e && chk m .v k e
    | _ => false)
  | .ret m, k, _, s => (match s with
    | .Return (some e) _ => chk m .v k e
    | _ => false)
  | .retN, _, _, s => (match s with
    | .Return none _ => true
    | _ => false)
  | .retV i, k, io, s => (match s with
    | .Return (some (.Name x _)) _ => chkV k i x && !io.contains i
    | _ => false)
  | .set _ i m, k, io, s => (match s with
    | .Assign [.Name x _] e _ => decide (k.N[i]? = some x) && (stoOk k.sc k.fn x && (!io.contains i && (chk m .v k e && ((isLC e && isFun k.sc) || noComp e))))
    | _ => false)
  | .unp t m, k, io, s => (match s with
    | .Assign [.Tuple es n p] e _ => k.calm && chkTg k.N k.sc k.fn (.Tuple es n p) t && (t.slots.all (fun i => !io.contains i) && (noComp e && (noTup e && chk m .v k e)))
    | _ => false)
  | .ite c a b, k, io, s => (match s with
    | .If e sa sb _ => chk c .t k e && (chkB a k io sa && chkB b k io sb)
    | _ => false)
  | .fore t m b, k, io, s => (match s with
    | .For tg it sb [] _ => k.calm && chkTg k.N k.sc k.fn tg t && (t.slots.all (fun i => !io.contains i) && (plainIter it && (chk m .s k it && chkB b k io sb)))
    | _ => false)
  | .whl _ c b, k, io, s => (match s with
    | .While e sb [] _ => chk c .t k e && chkB b k io sb
    | _ => false)
  | .app i m, k, _, s => (match s with
    | .Expr (.Call (.Attribute (.Name x _) f ap) [e] [] cp) _ => decide (f = ("append" : Str)) && (chkV k i x && (noStar e && ((ap.endLine == cp.line) && chk m .v k e)))
    | _ => false)
  | .ext i m, k, _, s => (match s with
    | .Expr (.Call (.Attribute (.Name x _) f ap) [e] [] cp) _ => decide (f = ("extend" : Str)) && (chkV k i x && (noStar e && ((ap.endLine == cp.line) && chk m .v k e)))
    | _ => false)
  | .clr i, k, _, s => (match s with
    | .Expr (.Call (.Attribute (.Name x _) f ap) [] [] cp) _ => decide (f = ("clear" : Str)) && (chkV k i x && (ap.endLine == cp.line))
    | _ => false)
  | .frz _, _, _, _ => false
  | .dput i a b, k, _, s => (match s with
    | .Assign [.Subscript (.Name x _) y _] e _ => chkV k i x && (noComp e && (chk a .v k y && chk b .v k e))
    | _ => false)
  | .lend i w t b, k, io, s => (match s with
    | .For tg it sb [] _ => !io.contains i && (k.calm && chkTg k.N k.sc k.fn tg t && (t.slots.all (fun i => !io.contains i) && (plainIter it && (itSl w it tg (chkV k i) && chkB b k io sb))))
    | _ => false)
  | .ford t d m b, k, io, s => (match s with
    | .For tg it sb [] _ => k.calm && chkTg k.N k.sc k.fn tg t && (t.slots.all (fun i => !io.contains i) && (plainIter it && (tupT d tg && ((match dIter d it with
      | some e => chk m .v k e
      | none => false) && chkB b k io sb))))
    | _ => false)
  | .op o es, k, io, s => (match sParts k io o s with
    | some ys => chks es k ys
    | none => false)
  | .mthG ret f c m j es dd ms, k, io, s => (match s, ret with
    | .Expr (.Call (.Attribute (.Name x _) m' ap) (y :: ys) [] cp) _, .no => mthB f c m j es dd ms k x m' ap cp (y :: ys)
    | .Assign [.Name z _] (.Call (.Attribute (.Name x _) m' ap) (y :: ys) [] cp) _, .to i => decide (k.N[i]? = some z) && (stoOk k.sc k.fn z && (!io.contains i && mthB f c m j es dd ms k x m' ap cp (y :: ys)))
    | .Return (some (.Call (.Attribute (.Name x _) m' ap) (y :: ys) [] cp)) _, .back => mthB f c m j es dd ms k x m' ap cp (y :: ys)
    | _, _ => false)
  | .stk _ _ _ _ _, _, _, _ => false
  | .callG ret f es dd ms, k, io, s => (match s, ret with
    | .Expr (.Call (.Name x _) (y :: ys) [] _) _, .no => callB f es dd ms k x (y :: ys)
    | .Assign [.Name z _] (.Call (.Name x _) (y :: ys) [] _) _, .to i => decide (k.N[i]? = some z) && (stoOk k.sc k.fn z && (!io.contains i && callB f es dd ms k x (y :: ys)))
    | .Return (some (.Call (.Name x _) (y :: ys) [] _)) _, .back => callB f es dd ms k x (y :: ys)
    | _, _ => false)
  | .raise j, k, _, s => (match s with
    | .Raise (some (.Call (.Name x _) [.Constant (.str _) _ _] [] _)) none _ => k.calm && (decide (k.xs.lookup x = some j) && (gloOk k.sc x && okName x))
    | _ => false)
  | .tryM b js ss, k, io, s => (match s with
    | .Try body (h :: hds) [] [] _ => chkB b k io body && chkL ss js k io (h :: hds)
    | _ => false)
  | .dpop i m, k, _, s => (match s with
    | .Expr (.Call (.Attribute (.Name x _) f ap) [e] [] cp) _ => decide (f = ("pop" : Str)) && (chkV k i x && (noStar e && ((ap.endLine == cp.line) && chk m .v k e)))
    | _ => false)
  | .raiseF j es, k, _, s => (match s with
    | .Raise (some (.Call (.Name x _) (y :: ys) [] _)) none _ => k.calm && (decide (k.xf.lookup x = some j) && (gloOk k.sc x && (okName x && ((noStar y && ys.all noStar) && chks es k (y :: ys)))))
    | _ => false)
  | .tryE b js ss o, k, io, s => (match s with
    | .Try body (h :: hds) (o1 :: os) [] _ => chkB b k io body && (chkL ss js k io (h :: hds) && chkB o k io (o1 :: os))
    | _ => false)
  | .lpop i j, k, io, s => (match s with
    | .Assign [.Name y _] (.Call (.Attribute (.Name x _) f ap) [] [] cp) _ => decide (f = ("pop" : Str)) && (chkV k j x && (decide (k.N[i]? = some y) && (stoOk k.sc k.fn y && (!io.contains i && (ap.endLine == cp.line)))))
    | _ => false)
  | .tryA b js ss o, k, io, s => (match s with
    | .Try body (h :: hds) os [] _ => chkB b k io body && (chkLA ss js k io (h :: hds) && chkB o k io os)
    | _ => false)
def chkLA : List (List Sm) → List (Nat × Option Nat) → Ck → List Nat → List ExceptHandler → Bool
  | [], js, _, _, hds => js.isEmpty && hds.isEmpty
  | s :: ss, js, k, io, hds => (match js, hds with
    | (j, none) :: js, .ExceptHandler (some (.Name x _)) none (b :: sts) _ :: hds => decide (k.xn.lookup x = some j) && (gloOk k.sc x && (okName x && (chkB s k.sui io (b :: sts) && chkLA ss js k io hds)))
    | (j, some i) :: js, .ExceptHandler (some (.Name x _)) (some n) (b :: sts) _ :: hds => decide (k.xn.lookup x = some j) && (decide (k.N[i]? = some n) && (k.sc.names.lookup n == some .local && (!io.contains i && (gloOk k.sc x && (okName x && (chkB s k.sui io (b :: sts) && chkLA ss js k io hds))))))
    | _, _ => false)
def chkL : List (List Sm) → List Nat → Ck → List Nat → List ExceptHandler → Bool
  | [], js, _, _, hds => js.isEmpty && hds.isEmpty
  | s :: ss, js, k, io, hds => (match js, hds with
    | j :: js, .ExceptHandler (some (.Name x _)) none (b :: sts) _ :: hds => (decide (k.xs.lookup x = some j) || decide (k.xf.lookup x = some j)) && (gloOk k.sc x && (okName x && (chkB s k.sui io (b :: sts) && chkL ss js k io hds)))
    | _, _ => false)
def chkB : List Sm → Ck → List Nat → List Stmt → Bool
  | [], _, _, sts => sts.isEmpty
  | m :: ms, k, io, sts => (match isFrz m with
    | some i => !io.contains i && chkB ms k io sts
    | none => (match isStk m with
      | some (i, j, s, b, fin) => ms.isEmpty && chkStk i j s b fin k io sts
      | none => (match sts with
        | s :: sts => chkS m k io s && chkB ms k io sts
        | [] => false)))
end
structure Gs (X : Cx) (C : Cn) (W : WX) (k : Ck) (g : G) : Prop extends Gd X C W k g where
  po : PassesOwn (model X.prog X.w) X.A X.env X.xe
  hs : X.stack = X.env :: X.outer
  hf : X.env.frame = some X.env.locals
theorem Gs.tr {X : Cx} {C : Cn} {W W' : WX} {k : Ck} {g : G} (h : Gs X C W k g) {pn : List (Addr × Obj)} {xe : Value → Shared → Prop} (tk : Takes (X.tr pn xe) W') (po : PassesOwn (model X.prog X.w) X.A X.env xe) : Gs (X.tr pn xe) C W' k g where
  hK := h.hK
  hN := h.hN
  nd := h.nd
  sc := h.sc
  fn := h.fn
  calm := h.calm
  un := h.un
  tk := tk
  top := ⟨_, h.hf, _, _, h.hs, h.hf⟩
  tf := tkF_of h.hf tk
  bs := h.bs
  fs := h.fs
  os := h.os
  ca := h.ca
  cs := h.cs
  fl := h.fl
  ms := fun c m f n dfl e j => let z := h.ms c m f n dfl e j; ⟨z.cl, z.ex⟩
  mo := fun c m f n ios dfl e => let ⟨run, a, b⟩ := h.mo c m f n ios dfl e; ⟨run, a, fun j => let z := b j; ⟨z.cl, z.ex⟩⟩
  nw := fun x c f n dfl e r er => let ⟨run, a, b⟩ := h.nw x c f n dfl e r er; ⟨run, a, fun j => let z := b j; ⟨z.mg, z.ex⟩⟩
  xc := fun x j e => let z := h.xc x j e; ⟨z.mg, z.kp, z.sub, z.ty, z.ex⟩
  xm := h.xm
  gl := h.gl
  kd := h.kd
  xf := fun x j e => ⟨(h.xf x j e).1, fun l => let z := (h.xf x j e).2 l; ⟨z.mg, z.oex, z.nf, z.ex⟩⟩
  xl := h.xl
  xn := h.xn
  kt := h.kt
  po := po
  hs := h.hs
  hf := h.hf
theorem Gs.sui {X : Cx} {C : Cn} {W : WX} {k : Ck} {g : G} (h : Gs X C W k g) (a : Addr) (pn : List (Addr × Obj)) : Gs (X.suite a pn) C WN k.sui g where
  hK := h.hK
  hN := h.hN
  nd := h.nd
  sc := h.sc
  fn := h.fn
  calm := fun e => by cases e
  un := h.un
  tk := takes0
  top := ⟨_, h.hf, _, _, h.hs, h.hf⟩
  tf := tkF_of h.hf takes0
  bs := h.bs
  fs := fun x f n dfl e => by simp [Ck.sui] at e
  os := fun x f n ios dfl e => by simp [Ck.sui] at e
  ca := h.ca
  cs := h.cs
  fl := h.fl
  ms := fun c m f n dfl e => by simp [Ck.sui] at e
  mo := fun c m f n ios dfl e => by simp [Ck.sui] at e
  nw := fun x c f n dfl e => by simp [Ck.sui] at e
  xc := fun x j e => by simp [Ck.sui] at e
  xm := h.xm
  gl := h.gl
  kd := h.kd
  xf := fun x j e => by simp [Ck.sui] at e
  xl := h.xl
  xn := h.xn
  kt := h.kt
  po := PassesOwn.never
  hs := h.hs
  hf := h.hf
theorem Gs.unl {X : Cx} {C : Cn} {W : WX} {k : Ck} {g : G} (h : Gs X C W k g) : Gs X C (unlW X W) k g :=
  { h with tk := takes_unl h.tk, tf := tkF_of h.hf (takes_unl h.tk) }
theorem soundG {X : Cx} {C : Cn} {W : WX} {k : Ck} {g : G} (gd : Gd X C W k g) : ∀ (as : List Ar) (ms : List Xp) (es : List Expr), chkG as ms k es = true → PA X es (tMsG C W as (eArgs (dens g ms))) ∧ as.length = ms.length
  | [], ms, es, h => by
    cases ms <;> cases es <;> first | (simp [chkG] at h; done) | exact ⟨pa_nilG, rfl⟩
  | .v :: as, ms, es, h => by
    rcases ms with _ | ⟨m, ms⟩ <;> rcases es with _ | ⟨e, es⟩ <;> first | (simp [chkG] at h; done) | skip
    simp only [chkG, Bool.and_eq_true] at h
    obtain ⟨h1, h2, h3⟩ := h
    obtain ⟨q1, q2⟩ := soundG gd as ms es h3
    rw [dens]
    exact ⟨pa_consG ((sound m gd e).pe h2) q1 h1, by simp [q2]⟩
  | .io j :: as, ms, es, h => by
    unfold chkG at h
    split at h
    · next e1 => cases e1
    · next e1 => cases e1
    · next j' as' i ms x p es e1 =>
      cases e1
      simp only [Bool.and_eq_true, decide_eq_true_eq] at h
      obtain ⟨rfl, h2, h3⟩ := h
      obtain ⟨q1, q2⟩ := soundG gd as ms es h3
      obtain ⟨a, b, c, d⟩ := chkV_of gd h2
      rw [dens, den]
      exact ⟨pa_varG (.inl rfl) a b c d q1, by simp [q2]⟩
    · next e1 => cases e1
    · cases h
  | .le j :: as, ms, es, h => by
    unfold chkG at h
    split at h
    · next e1 => cases e1
    · next e1 => cases e1
    · next e1 => cases e1
    · next j' as' i ms x p es e1 =>
      cases e1
      simp only [Bool.and_eq_true, decide_eq_true_eq] at h
      obtain ⟨rfl, h2, h3⟩ := h
      obtain ⟨q1, q2⟩ := soundG gd as ms es h3
      obtain ⟨a, b, c, d⟩ := chkV_of gd h2
      rw [dens, den]
      exact ⟨pa_varG (.inr rfl) a b c d q1, by simp [q2]⟩
    · cases h
theorem jsOf_pad : ∀ (ms : List Ar) (n : Nat), jsOf (ms ++ List.replicate n .v) = jsOf ms
  | [], 0 => rfl
  | [], n + 1 => by rw [List.replicate_succ]; exact jsOf_pad [] n
  | .v :: ms, n => jsOf_pad ms n
  | .le _ :: ms, n => jsOf_pad ms n
  | .io j :: ms, n => by show j :: jsOf (ms ++ _) = j :: jsOf ms; rw [jsOf_pad ms n]
theorem lesOf_pad : ∀ (ms : List Ar) (n : Nat), lesOf (ms ++ List.replicate n .v) = lesOf ms
  | [], 0 => rfl
  | [], n + 1 => by rw [List.replicate_succ]; exact lesOf_pad [] n
  | .v :: ms, n => lesOf_pad ms n
  | .io _ :: ms, n => lesOf_pad ms n
  | .le j :: ms, n => by show j :: lesOf (ms ++ _) = j :: lesOf ms; rw [lesOf_pad ms n]
theorem callB_ok {X : Cx} {C : Cn} {W : WX} {k : Ck} {g : G} (gd : Gd X C W k g) {f : Nat} {es : List Xp} {dd : List D} {ms : List Ar} {x : Str} {ys : List Expr} (h : callB f es dd ms k x ys = true) :
    ∃ run : List R → Out, g.runC f = (fun rs => (run rs).cr (iosOf (ms ++ List.replicate dd.length .v))) ∧ CallOkG X C (es.length + dd.length) (iosOf (ms ++ List.replicate dd.length .v)) dd run x ∧ Gl X x ∧ (x == ("__debug__" : Str)) = false ∧ PA X ys (tMsG C W (ms ++ List.replicate dd.length .v) (eArgs (dens g es))) ∧ ys.all noStar = true ∧
      (dens g es).length + dd.length = es.length + dd.length ∧ (ms ++ List.replicate dd.length Ar.v).length = es.length + dd.length ∧ (jsOf (ms ++ List.replicate dd.length .v)).Nodup ∧ (∀ j, j ∈ lesOf (ms ++ List.replicate dd.length .v) → j ∉ jsOf (ms ++ List.replicate dd.length .v)) ∧
      ∀ p, (dens g es).length ≤ p → p < es.length + dd.length → (ms ++ List.replicate dd.length Ar.v)[p]? = some .v := by
  unfold callB at h
  simp only [Bool.and_eq_true, decide_eq_true_eq] at h
  obtain ⟨h1, h2, h3, h4, h5, h6, h7⟩ := h
  rw [← gd.sc] at h2
  obtain ⟨run, r1, r2⟩ := gd.osAt h1
  obtain ⟨q1, q2⟩ := soundG gd ms es ys h7
  refine ⟨run, r1, r2, glo_of h2, (okName_of h3).1, PA.padG q1, h4, by rw [dens_len], by simp [q2], by rw [jsOf_pad]; exact h5, fun j hj hj2 => ?_, fun p h1 h2 => ?_⟩
  · rw [lesOf_pad] at hj
    rw [jsOf_pad] at hj2
    unfold noIn at h6
    rw [List.all_eq_true] at h6
    have := h6 j hj
    rw [Bool.not_eq_true'] at this
    rw [List.contains_iff_mem.mpr hj2] at this
    cases this
  · rw [dens_len] at h1
    rw [List.getElem?_append_right (by omega), List.getElem?_replicate, if_pos (by omega)]
theorem mthB_ok {X : Cx} {C : Cn} {W : WX} {k : Ck} {g : G} (gd : Gd X C W k g) {f c : Nat} {m : Str} {j : Nat} {es : List Xp} {dd : List D} {ms : List Ar} {x m' : Str} {ap cp : Pos} {ys : List Expr} (h : mthB f c m j es dd ms k x m' ap cp ys = true) :
    m' = m ∧ ∃ run : List R → Out, g.runC f = (fun rs => (run rs).cr (iosOf (.io j :: (ms ++ List.replicate dd.length .v)))) ∧ MthAtG X C (g.ca c) m (es.length + 1 + dd.length) (iosOf (.io j :: (ms ++ List.replicate dd.length .v))) dd run ∧
      (X.N[j]? = some x ∧ Vis X.env.scope x ∧ (x == ("__debug__" : Str)) = false ∧ (x == ("__classdict__" : Str)) = false) ∧ PA X ys (tMsG C W (ms ++ List.replicate dd.length .v) (eArgs (dens g es))) ∧ ys.all noStar = true ∧ ys.length < 29 ∧ (ap.endLine == cp.line) = true ∧
      (dens g es).length + dd.length + 1 = es.length + 1 + dd.length ∧ (ms ++ List.replicate dd.length Ar.v).length + 1 = es.length + 1 + dd.length ∧ (jsOf (.io j :: (ms ++ List.replicate dd.length .v))).Nodup ∧ (∀ i, i ∈ lesOf (.io j :: (ms ++ List.replicate dd.length .v)) → i ∉ jsOf (.io j :: (ms ++ List.replicate dd.length .v))) ∧
      ∀ p, (dens g es).length ≤ p → p + 1 < es.length + 1 + dd.length → (ms ++ List.replicate dd.length Ar.v)[p]? = some .v := by
  unfold mthB at h
  simp only [Bool.and_eq_true, decide_eq_true_eq] at h
  obtain ⟨h1, h2, h3, h4, h5, h6, h7, h8, h9⟩ := h
  obtain ⟨run, r1, r2⟩ := gd.moAt h2
  obtain ⟨q1, q2⟩ := soundG gd ms es ys h9
  have ej : jsOf (.io j :: (ms ++ List.replicate dd.length .v)) = jsOf (.io j :: ms) := by show j :: jsOf (ms ++ _) = j :: jsOf ms; rw [jsOf_pad]
  refine ⟨h1, run, r1, r2, chkV_of gd h3, PA.padG q1, h4, h5, h6, by rw [dens_len]; omega, by simp [q2]; omega, by rw [ej]; exact h7, fun i hi hi2 => ?_, fun p h1 h2 => ?_⟩
  · rw [ej] at hi2
    have hi' : i ∈ lesOf ms := by rw [← lesOf_pad ms dd.length]; exact hi
    unfold noIn at h8
    rw [List.all_eq_true] at h8
    have := h8 i hi'
    rw [Bool.not_eq_true'] at this
    rw [List.contains_iff_mem.mpr hi2] at this
    cases this
  · rw [dens_len] at h1
    rw [List.getElem?_append_right (by omega), List.getElem?_replicate, if_pos (by omega)]
theorem sop_ok {X : Cx} {C : Cn} {W : WX} {k : Ck} {g : G} {io : List Nat} (gs : Gs X C W k g) {o : SOp} {s : Stmt} {ys : List Expr} {ms : List (Env → Res R)} (h : sParts k io o s = some ys) (hp : PEs X C W ys ms) : PS X s (tS C W io (sOp g o ms)) := by
  unfold sParts at h
  split at h
  · split at h
    · next q =>
      cases h
      simp only [Bool.and_eq_true, decide_eq_true_eq] at q
      obtain ⟨rfl, q1, q2, q3⟩ := q
      rcases hp with _ | ⟨h1, hs⟩
      cases hs
      obtain ⟨a, b⟩ := gs.fl _ _ q1
      obtain ⟨v1, v2, v3, v4⟩ := chkV_of gs.toGd q2
      exact ps_setfM a b v1 v2 v3 v4 h1 q3
    · cases h
  · cases h
theorem isFun_of {sc : Scope} (h : isFun sc = true) : sc.kind = .function := by
  unfold isFun at h
  split at h
  · assumption
  · cases h
theorem oSeq_nx (m : Env → Out) : oSeq m .nx = m := by
  funext ρ
  unfold oSeq
  cases m ρ <;> rfl
mutual
theorem soundS : ∀ (m : Sm) {X C W k g io} (_ : Gs X C W k g) (s : Stmt), chkS m k io s = true → PS X s (tS C W io (denS g m))
  | .pass, X, C, W, k, g, io, gs, s, h => by
    unfold chkS at h
    split at h
    · exact ps_passM
    · exact ps_docM
    · cases h
  | .brk, X, C, W, k, g, io, gs, s, h => by
    unfold chkS at h
    split at h
    · exact ps_breakM
    · cases h
  | .cnt, X, C, W, k, g, io, gs, s, h => by
    unfold chkS at h
    split at h
    · exact ps_contM
    · cases h
  | .drop m, X, C, W, k, g, io, gs, s, h => by
    unfold chkS at h
    split at h
    · rw [Bool.and_eq_true] at h
      exact ps_dropM ((sound m gs.toGd _).pe h.2) h.1
    · cases h
  | .ret m, X, C, W, k, g, io, gs, s, h => by
    unfold chkS at h
    split at h
    · exact ps_retM ((sound m gs.toGd _).pe h)
    · cases h
  | .retN, X, C, W, k, g, io, gs, s, h => by
    unfold chkS at h
    split at h
    · exact ps_retNM
    · cases h
  | .retV i, X, C, W, k, g, io, gs, s, h => by
    unfold chkS at h
    split at h
    · rw [Bool.and_eq_true, Bool.not_eq_true'] at h
      obtain ⟨a, b, c, d⟩ := chkV_of gs.toGd h.1
      exact ps_retVM a b c d (not_io h.2)
    · cases h
  | .set ow i m, X, C, W, k, g, io, gs, s, h => by
    unfold chkS at h
    split at h
    · next x px e p =>
      simp only [Bool.and_eq_true, decide_eq_true_eq, Bool.not_eq_true', Bool.or_eq_true] at h
      obtain ⟨h1, h2, h3, h4, h5⟩ := h
      rw [← gs.hN] at h1
      rw [← gs.sc, ← gs.fn] at h2
      rcases h5 with ⟨h5, h6⟩ | h5
      · cases e <;> first | (simp [isLC] at h5; done) | skip
        exact (sound m gs.toGd _).pc h4 _ _ _ _ _ _ _ _ _ _ rfl h1 h2 (isFun_of (by rw [gs.sc]; exact h6)) (not_io h3)
      · obtain ⟨s1, s2⟩ := stoOk_loc h2
        exact ps_setM gs.nd h1 s1 s2 ((sound m gs.toGd _).pe h4) h5 (not_io h3)
    · cases h
  | .unp t m, X, C, W, k, g, io, gs, s, h => by
    unfold chkS at h
    split at h
    · simp only [Bool.and_eq_true, List.all_eq_true, Bool.not_eq_true'] at h
      obtain ⟨⟨hcm, h1⟩, h2, h3, h4, h5⟩ := h
      exact ps_unpM gs.hK ((sound m gs.toGd _).pe h5) (pg_of gs.nd (gs.calm hcm) (by rw [gs.hN, gs.sc, gs.fn]; exact h1)) h3 h4 fun i hi => not_io (h2 i hi)
    · cases h
  | .ite c a b, X, C, W, k, g, io, gs, s, h => by
    unfold chkS at h
    split at h
    · simp only [Bool.and_eq_true] at h
      exact ps_ifM ((sound c gs.toGd _).pt h.1).1 (soundB a gs _ h.2.1) (soundB b gs _ h.2.2)
    · cases h
  | .fore t m b, X, C, W, k, g, io, gs, s, h => by
    unfold chkS at h
    split at h
    · simp only [Bool.and_eq_true, List.all_eq_true, Bool.not_eq_true'] at h
      obtain ⟨⟨hcm, h1⟩, h2, h3, h4, h5⟩ := h
      exact ps_forM gs.hK gs.po (gs.calm hcm) ((sound m gs.toGd _).ps h4 _ true) (pg_of gs.nd (gs.calm hcm) (by rw [gs.hN, gs.sc, gs.fn]; exact h1)) (soundB b gs _ h5) h3 fun i hi => not_io (h2 i hi)
    · cases h
  | .whl n c b, X, C, W, k, g, io, gs, s, h => by
    unfold chkS at h
    split at h
    · simp only [Bool.and_eq_true] at h
      exact ps_whileM gs.po ((sound c gs.toGd _).pt h.1).1 (soundB b gs _ h.2)
    · cases h
  | .app i m, X, C, W, k, g, io, gs, s, h => by
    unfold chkS at h
    split at h
    · simp only [Bool.and_eq_true, decide_eq_true_eq] at h
      obtain ⟨rfl, h2, h3, h4, h5⟩ := h
      obtain ⟨a, b, c, d⟩ := chkV_of gs.toGd h2
      exact ps_appM a b c d ((sound m gs.toGd _).pe h5) h3 h4
    · cases h
  | .ext i m, X, C, W, k, g, io, gs, s, h => by
    unfold chkS at h
    split at h
    · simp only [Bool.and_eq_true, decide_eq_true_eq] at h
      obtain ⟨rfl, h2, h3, h4, h5⟩ := h
      obtain ⟨a, b, c, d⟩ := chkV_of gs.toGd h2
      exact ps_extM a b c d ((sound m gs.toGd _).pe h5) h3 h4
    · cases h
  | .clr i, X, C, W, k, g, io, gs, s, h => by
    unfold chkS at h
    split at h
    · simp only [Bool.and_eq_true, decide_eq_true_eq] at h
      obtain ⟨rfl, h2, h4⟩ := h
      obtain ⟨a, b, c, d⟩ := chkV_of gs.toGd h2
      exact ps_clrM a b c d h4
    · cases h
  | .dput i ma mb, X, C, W, k, g, io, gs, s, h => by
    unfold chkS at h
    split at h
    · simp only [Bool.and_eq_true] at h
      obtain ⟨h2, h3, h4, h5⟩ := h
      obtain ⟨a, b, c, d⟩ := chkV_of gs.toGd h2
      exact ps_dputM gs.un a b c d ((sound ma gs.toGd _).pe h4) ((sound mb gs.toGd _).pe h5) h3
    · cases h
  | .frz i, X, C, W, k, g, io, gs, s, h => by
    unfold chkS at h
    cases h
  | .lend i w t b, X, C, W, k, g, io, gs, s, h => by
    unfold chkS at h
    split at h
    · simp only [Bool.and_eq_true, List.all_eq_true, Bool.not_eq_true'] at h
      obtain ⟨h2, ⟨hcm, h3⟩, h4, hpi, h1, h5⟩ := h
      have hg := pg_of (X := X) gs.nd (gs.calm hcm) (by rw [gs.hN, gs.sc, gs.fn]; exact h3)
      cases w with
      | none =>
        unfold itSl at h1
        split at h1
        · obtain ⟨a, b', c, d⟩ := chkV_of gs.toGd h1
          exact ps_lend0M gs.hK gs.po (gs.calm hcm) a b' c d hg (soundB b gs _ h5) (fun i hi => not_io (h4 i hi)) (not_io h2)
        · next e => cases e
        · cases h1
      | some d =>
        unfold itSl at h1
        rw [Bool.and_eq_true] at h1
        obtain ⟨ht, h1⟩ := h1
        split at h1
        · next x px ed =>
          obtain ⟨a, b', c, d'⟩ := chkV_of gs.toGd h1
          exact ps_lendKM gs.hK gs.po (gs.calm hcm) (pi_ditV ed ht (pe_var a b' c d')) hg (soundB b gs.unl _ h5) hpi (fun i hi => not_io (h4 i hi)) (not_io h2)
        · cases h1
    · cases h
  | .ford t d m b, X, C, W, k, g, io, gs, s, h => by
    unfold chkS at h
    split at h
    · simp only [Bool.and_eq_true, List.all_eq_true, Bool.not_eq_true'] at h
      obtain ⟨⟨hcm, h1⟩, h2, h3, ht, h4, h5⟩ := h
      split at h4
      · next e ee => exact ps_forDM gs.hK gs.po (gs.calm hcm) (pi_dit ee ht ((sound m gs.toGd _).pe h4)) (pg_of gs.nd (gs.calm hcm) (by rw [gs.hN, gs.sc, gs.fn]; exact h1)) (soundB b gs.unl _ h5) h3 fun i hi => not_io (h2 i hi)
      · cases h4
    · cases h
  | .op o es, X, C, W, k, g, io, gs, s, h => by
    unfold chkS at h
    split at h
    · next ys ey => exact sop_ok gs ey ((sounds es).2.2.2 gs.toGd ys h)
    · cases h
  | .mthG ret f c m j es dd ms, X, C, W, k, g, io, gs, s, h => by
    unfold chkS at h
    unfold denS
    split at h
    · obtain ⟨rfl, run, r1, r2, ⟨r3, r4, r5, r6⟩, r7, r8, r9, r10, r11, r12, r13, r14, r15⟩ := mthB_ok gs.toGd h
      rw [r1]
      exact ps_mthGM gs.tk r2 r3 r4 r5 r6 r7 r8 r9 r10 r11 r12 r13 r14 r15
    · next i =>
      simp only [Bool.and_eq_true, decide_eq_true_eq, Bool.not_eq_true'] at h
      obtain ⟨a1, a2, a3, h⟩ := h
      rw [← gs.hN] at a1
      rw [← gs.sc, ← gs.fn] at a2
      obtain ⟨s1, s2⟩ := stoOk_loc a2
      obtain ⟨rfl, run, r1, r2, ⟨r3, r4, r5, r6⟩, r7, r8, r9, r10, r11, r12, r13, r14, r15⟩ := mthB_ok gs.toGd h
      rw [r1]
      exact ps_setMthGM gs.nd a1 s1 s2 (not_io a3) gs.tk r2 r3 r4 r5 r6 r7 r8 r9 r10 r11 r12 r13 r14 r15
    · obtain ⟨rfl, run, r1, r2, ⟨r3, r4, r5, r6⟩, r7, r8, r9, r10, r11, r12, r13, r14, r15⟩ := mthB_ok gs.toGd h
      rw [r1]
      exact ps_retMthGM gs.tk r2 r3 r4 r5 r6 r7 r8 r9 r10 r11 r12 r13 r14 r15
    · cases h
  | .stk i j s b fin, X, C, W, k, g, io, gs, st, h => by
    unfold chkS at h
    cases h
  | .callG ret f es dd ms, X, C, W, k, g, io, gs, s, h => by
    unfold chkS at h
    unfold denS
    split at h
    · obtain ⟨run, r1, r2, r3, r4, r5, r6, r7, r8, r9, r10, r11⟩ := callB_ok gs.toGd h
      rw [r1]
      exact ps_callGM gs.tk r2 r3 r4 r5 r6 r7 r8 r9 r10 r11
    · next i =>
      simp only [Bool.and_eq_true, decide_eq_true_eq, Bool.not_eq_true'] at h
      obtain ⟨a1, a2, a3, h⟩ := h
      rw [← gs.hN] at a1
      rw [← gs.sc, ← gs.fn] at a2
      obtain ⟨s1, s2⟩ := stoOk_loc a2
      obtain ⟨run, r1, r2, r3, r4, r5, r6, r7, r8, r9, r10, r11⟩ := callB_ok gs.toGd h
      rw [r1]
      exact ps_setCallGM gs.nd a1 s1 s2 (not_io a3) gs.tk r2 r3 r4 r5 r6 r7 r8 r9 r10 r11
    · obtain ⟨run, r1, r2, r3, r4, r5, r6, r7, r8, r9, r10, r11⟩ := callB_ok gs.toGd h
      rw [r1]
      exact ps_retCallGM gs.tk r2 r3 r4 r5 r6 r7 r8 r9 r10 r11
    · cases h
  | .raise j, X, C, W, k, g, io, gs, s, h => by
    unfold chkS at h
    split at h
    · simp only [Bool.and_eq_true, decide_eq_true_eq] at h
      obtain ⟨h1, h2, h3, h4⟩ := h
      rw [← gs.sc] at h3
      exact ps_raiseM (gs.calm h1) gs.tk (glo_of h3) (okName_of h4).1 (gs.xc _ _ h2)
    · cases h
  | .tryM b js ss, X, C, W, k, g, io, gs, s, h => by
    unfold chkS at h
    split at h
    · rw [Bool.and_eq_true] at h
      exact ps_tryM gs.hs gs.hf gs.tk gs.xm (fun W' pn xe tk po => soundB b (gs.tr tk po) _ h.1) (soundL ss gs js _ h.2)
    · cases h
  | .dpop i m, X, C, W, k, g, io, gs, s, h => by
    unfold chkS at h
    split at h
    · simp only [Bool.and_eq_true, decide_eq_true_eq] at h
      obtain ⟨rfl, h2, h3, h4, h5⟩ := h
      obtain ⟨a, b, c, d⟩ := chkV_of gs.toGd h2
      exact ps_dpopM a b c d ((sound m gs.toGd _).pe h5) h3 h4
    · cases h
  | .raiseF j es, X, C, W, k, g, io, gs, s, h => by
    unfold chkS at h
    split at h
    · simp only [Bool.and_eq_true, decide_eq_true_eq] at h
      obtain ⟨h1, h2, h3, h4, h5, h6⟩ := h
      rw [← gs.sc] at h3
      cases hl : g.lv with
      | zero =>
        have e : denS g (.raiseF j es) = fun _ => .stuck := by funext ρ; rw [denS, hl]; rfl
        rw [e]; exact ps_stuckM
      | succ n => cases n with
        | zero =>
          have e : denS g (.raiseF j es) = fun _ => .stuck := by funext ρ; rw [denS, hl]; rfl
          rw [e]; exact ps_stuckM
        | succ n =>
          have z := (gs.xf _ _ h2).2 (by omega)
          obtain ⟨kk, fI, fd, z1, z2, z3, z4, z5⟩ := z.ex
          have e : denS g (.raiseF j es) = sRaiseF j (dens g es) := by funext ρ; rw [denS, hl]; rfl
          rw [e]
          exact ps_raiseXi (gs.calm h1) gs.tk z.oex z.nf z1 z2 z3 z4 z5 (glo_of h3) (okName_of h4).1 z.mg ((sounds es).1 gs.toGd _ h6 (by rw [List.all_cons, h5.1, h5.2]; rfl)).1 (starEach_cons h5.1) (starEach_any h5.2)
    · cases h
  | .tryE b js ss o, X, C, W, k, g, io, gs, s, h => by
    unfold chkS at h
    split at h
    · rw [Bool.and_eq_true, Bool.and_eq_true] at h
      exact ps_tryME gs.hs gs.hf gs.tk gs.xm (fun W' pn xe tk po => soundB b (gs.tr tk po) _ h.1) (soundL ss gs js _ h.2.1) (soundB o gs _ h.2.2)
    · cases h
  | .lpop i j, X, C, W, k, g, io, gs, s, h => by
    unfold chkS at h
    split at h
    · simp only [Bool.and_eq_true, decide_eq_true_eq, Bool.not_eq_true'] at h
      obtain ⟨rfl, h2, h3, h4, h5, h6⟩ := h
      obtain ⟨a, b, c, d⟩ := chkV_of gs.toGd h2
      rw [← gs.hN] at h3
      rw [← gs.sc, ← gs.fn] at h4
      obtain ⟨s1, s2⟩ := stoOk_loc h4
      exact ps_lpopM gs.nd a b c d h3 s1 s2 (not_io h5) h6
    · cases h
  | .tryA b js ss o, X, C, W, k, g, io, gs, s, h => by
    unfold chkS at h
    split at h
    · rw [Bool.and_eq_true, Bool.and_eq_true] at h
      unfold denS
      rw [gs.ca]
      exact ps_tryMA gs.nd gs.hs gs.hf gs.tk gs.xm (fun W' pn xe tk po => soundB b (gs.tr tk po) _ h.1) (soundLA ss gs js _ h.2.1) (soundB o gs _ h.2.2)
    · cases h
theorem soundLA : ∀ (ss : List (List Sm)) {X C W k g io} (_ : Gs X C W k g) (js : List (Nat × Option Nat)) (hds : List ExceptHandler), chkLA ss js k io hds = true → HdsMA X C io hds (zipA js (denL g ss))
  | [], X, C, W, k, g, io, gs, js, hds, h => by
    unfold chkLA at h
    rw [Bool.and_eq_true, List.isEmpty_iff, List.isEmpty_iff] at h
    obtain ⟨rfl, rfl⟩ := h
    exact .nil
  | s :: ss, X, C, W, k, g, io, gs, js, hds, h => by
    unfold chkLA at h
    split at h
    · simp only [Bool.and_eq_true, decide_eq_true_eq] at h
      obtain ⟨h1, h2, h3, h4, h5⟩ := h
      rw [← gs.sc] at h2
      rw [denL]
      have m := gs.xn _ _ h1
      rw [gs.ca] at m
      exact .cons ⟨glo_of h2, (okName_of h3).1, .inl m⟩ (fun a pn => soundB s (gs.sui a pn) _ h4) (soundLA ss gs _ _ h5)
    · simp only [Bool.and_eq_true, decide_eq_true_eq, Bool.not_eq_true', beq_iff_eq] at h
      obtain ⟨h1, hi, hl, hio, h2, h3, h4, h5⟩ := h
      rw [← gs.sc] at h2 hl
      rw [← gs.hN] at hi
      rw [denL]
      have m := gs.xn _ _ h1
      rw [gs.ca] at m
      exact .conA hi hl (not_io hio) ⟨glo_of h2, (okName_of h3).1, .inl m⟩ (fun a pn => soundB s (gs.sui a pn) _ h4) (soundLA ss gs _ _ h5)
    · cases h
theorem soundL : ∀ (ss : List (List Sm)) {X C W k g io} (_ : Gs X C W k g) (js : List Nat) (hds : List ExceptHandler), chkL ss js k io hds = true → HdsM X C io hds (js.zip (denL g ss))
  | [], X, C, W, k, g, io, gs, js, hds, h => by
    unfold chkL at h
    rw [Bool.and_eq_true, List.isEmpty_iff, List.isEmpty_iff] at h
    obtain ⟨rfl, rfl⟩ := h
    exact .nil
  | s :: ss, X, C, W, k, g, io, gs, js, hds, h => by
    unfold chkL at h
    split at h
    · simp only [Bool.and_eq_true, Bool.or_eq_true, decide_eq_true_eq] at h
      obtain ⟨h1, h2, h3, h4, h5⟩ := h
      rw [← gs.sc] at h2
      rw [denL]
      exact .cons ⟨glo_of h2, (okName_of h3).1, .inl (h1.elim (fun h1 => (gs.xc _ _ h1).mg) fun h1 => (gs.xf _ _ h1).1)⟩ (fun a pn => soundB s (gs.sui a pn) _ h4) (soundL ss gs _ _ h5)
    · cases h
theorem soundB : ∀ (ms : List Sm) {X C W k g io} (_ : Gs X C W k g) (sts : List Stmt), chkB ms k io sts = true → PSs X sts (tS C W io (denB g ms))
  | [], X, C, W, k, g, io, gs, sts, h => by
    unfold chkB at h
    rw [List.isEmpty_iff] at h
    subst h
    unfold denB
    exact pss_nilM
  | m :: ms, X, C, W, k, g, io, gs, sts, h => by
    unfold chkB at h
    unfold denB
    split at h
    · next i e =>
      rw [Bool.and_eq_true, Bool.not_eq_true'] at h
      cases m <;> first | (simp [isFrz] at e; done) | skip
      simp only [isFrz, Option.some.injEq] at e
      subst e
      unfold denS
      exact pss_frzM (not_io h.1) (soundB ms gs sts h.2)
    · split at h
      · next i j s b fin e =>
        rw [Bool.and_eq_true, List.isEmpty_iff] at h
        obtain ⟨rfl, h⟩ := h
        cases m <;> first | (simp [isStk] at e; done) | skip
        simp only [isStk, Option.some.injEq, Prod.mk.injEq] at e
        obtain ⟨rfl, rfl, rfl, rfl, rfl⟩ := e
        unfold denS denB
        rw [oSeq_nx]
        exact pss_stk gs.toGd gs.po h
      · split at h
        · rw [Bool.and_eq_true] at h
          exact pss_consM (soundS m gs _ h.1) (soundB ms gs _ h.2)
        · cases h
end

structure Df where
  ps : Nat
  N : List Str
  body : List Sm
  ios : List Nat
def st0 (F : Df) (rs : List R) : Env := rs.map some ++ List.replicate (F.N.length - F.ps) none
def runO (g : G) (F : Df) (rs : List R) : Out := if rs.length = F.ps then denB g F.body (st0 F rs) else .stuck
def runD (g : G) (F : Df) (rs : List R) : CR := (runO g F rs).cr F.ios
structure Mn where
  glo : List (Str × R)
  sub : Nat → Nat → Option Bool
  ca : Nat → Addr
  kit : Nat → Nat → Option Bool
def rnP (T : List (Nat × Df)) (M : Mn) : Nat → (Nat → List R → CR) × Option (Nat → List R → CR)
  | 0 => (fun _ _ => .stuck, none)
  | n + 1 => (fun f rs => match T.lookup f with
    | some F => runD ⟨(rnP T M n).1, M.glo, M.sub, M.ca, (rnP T M n).2, n, M.kit⟩ F rs
    | none => .stuck, some (rnP T M n).1)
def rnC (T : List (Nat × Df)) (M : Mn) (n : Nat) : Nat → List R → CR := (rnP T M n).1
def mkF (T : List (Nat × Df)) (M : Mn) (n : Nat) : Option (Nat → List R → CR) := (rnP T M n).2
def gOf (T : List (Nat × Df)) (M : Mn) (n : Nat) : G := ⟨rnC T M n, M.glo, M.sub, M.ca, mkF T M n, n, M.kit⟩
theorem rnC_s (T : List (Nat × Df)) (M : Mn) (n f : Nat) (rs : List R) : rnC T M (n + 1) f rs = match T.lookup f with
    | some F => runD (gOf T M n) F rs
    | none => .stuck := rfl
def rn (T : List (Nat × Df)) (M : Mn) (n f : Nat) (rs : List R) : Res R := (rnC T M n f rs).fin
theorem XP.less {H : Hp} {P P' : Addr → Prop} {d : Option Addr} {pl : List (Str × D)} (n : ∀ a, P' a → P a) (h : XP H P d pl) : XP H P' d pl := XP.sub n h
theorem start_get {F : Df} {rs : List R} {i : Nat} {r : R} (h : (st0 F rs)[i]? = some (some r)) : rs[i]? = some r := by
  unfold st0 at h
  by_cases hi : i < rs.length
  · rw [List.getElem?_append_left (by simpa using hi), List.getElem?_map] at h
    cases e : rs[i]? with
    | none => rw [e] at h; cases h
    | some a => rw [e] at h; cases h; rfl
  · rw [List.getElem?_append_right (by simpa using hi), List.getElem?_replicate] at h
    split at h <;> cases h
theorem paired_get {α β : Type} {F : α → β → Prop} : ∀ {vs : List α} {rs : List β} {i : Nat} {r : β}, Paired F vs rs → rs[i]? = some r → ∃ v, vs[i]? = some v ∧ F v r
  | _, _, _, _, .nil, e => by simp at e
  | _, _, 0, _, .cons h _, e => by simp at e; subst e; exact ⟨_, rfl, h⟩
  | _, _, i + 1, _, .cons _ t, e => by
    obtain ⟨v, h1, h2⟩ := paired_get (i := i) t (by simpa using e)
    exact ⟨v, by simpa using h1, h2⟩
end Mp

namespace Mp
open PySem L2

theorem Lent.toB {K : PySem.W.Frag} {H : Hp} {B P : Addr → Prop} {v : V} {d : D} (h : Lent K H P v d) (nB : ∀ a, ¬ B a) : LentB K H B P v d := by
  cases d with
  | lst ds => obtain ⟨a, vs, h1, h2, r⟩ := h; exact ⟨a, vs, h1, h2.imp (fun z => ⟨nB a, z⟩) (fun z _ => .inr z), r⟩
  | tup ds => obtain ⟨a, vs, h1, h2, r⟩ := h; exact ⟨a, vs, h1, h2.imp (fun z => ⟨nB a, z⟩) (fun z _ => .inr z), r⟩
  | dct tk ks ds =>
    cases tk with
    | false => obtain ⟨a, vs, h1, h2, h3, h4, r⟩ := h; exact ⟨a, vs, h1, nB a, h2, h3, h4, r⟩
    | true => obtain ⟨a, vs, h1, h2, h3, h4, r⟩ := h; exact ⟨a, vs, h1, nB a, h2, h3, h4, r⟩
  | obj C ns ds => obtain ⟨a, dx, fvs, h1, h2, h3, r⟩ := h; exact ⟨a, dx, fvs, h1, nB a, h2, h3, r⟩
  | _ => exact False.elim h
def noC : Nat → List Addr := fun _ => []
theorem noC_cel (a : Addr) : ¬ Cel noC a := fun ⟨_, h⟩ => by cases h
theorem noC_own {S : Addr → Prop} {a : Addr} : Mp.Own noC S a → S a := fun h => h.elim (fun z => (noC_cel a z).elim) id
theorem start_len {F : Df} {rs : List R} (hl : rs.length = F.ps) (h : F.ps ≤ F.N.length) : (st0 F rs).length = F.N.length := by
  unfold st0
  rw [List.length_append, List.length_map, List.length_replicate]
  omega
theorem SR.start {K : PySem.W.Frag} {H : Hp} {P : Addr → Prop} {F : Df} {vs : List V} {rs : List R} (hP : ∀ a, P a → ∃ o, H a = some o) (hr : Paired (AR K H P) vs rs) (hl : rs.length = F.ps) (hN : F.ps ≤ F.N.length) : SR K (L2.start F.N vs) H (st0 F rs) noC P where
  len := by
    rw [start_len hl hN]
    unfold L2.start
    rw [List.length_append, List.length_map, List.length_replicate, Paired.length hr]
    omega
  rep := fun i r e => by
    obtain ⟨v, h1, h2⟩ := paired_get hr (start_get e)
    refine ⟨v, ?_, ?_⟩
    · unfold L2.start
      rw [List.getElem?_append_left (by rw [List.length_map]; exact (List.getElem?_eq_some_iff.mp h1).1), List.getElem?_map, h1]
      rfl
    · cases r with
      | val d => exact ⟨rfl, Rp.less (fun _ z => noC_own z) h2⟩
      | bor d => exact ⟨rfl, Lent.toB (Lent.less (fun _ z => noC_own z) h2) noC_cel⟩
      | own d => exact h2.elim
  off := fun _ _ => rfl
  dis := fun _ _ _ h => by cases h
  sep := fun _ _ h => by cases h
  trk := fun a z => hP a (noC_own z)
def cG (ios : List Nat) (as : Nat → Addr) : Nat → List Addr := fun i => if i ∈ ios then [as i] else []
theorem cG_cel {ios : List Nat} {as : Nat → Addr} {x : Addr} : Cel (cG ios as) x ↔ IoC ios as x := by
  constructor
  · rintro ⟨i, h⟩
    unfold cG at h
    split at h
    · next hi => exact ⟨i, hi, by simpa using h⟩
    · cases h
  · rintro ⟨p, hp, rfl⟩
    exact ⟨p, by unfold cG; rw [if_pos hp]; simp⟩
theorem cG_own {ios : List Nat} {as : Nat → Addr} {S : Addr → Prop} : Mp.Own (cG ios as) S = PIo S ios as := by
  funext b
  apply propext
  constructor
  · rintro (z | z)
    · exact .inr (cG_cel.mp z)
    · exact .inl z
  · rintro (z | z)
    · exact .inr z
    · exact .inl (cG_cel.mpr z)
theorem cG_abr {ios : List Nat} {as : Nat → Addr} {S : Addr → Prop} : Abr ios (cG ios as) S = PIo S ios as := by
  rw [← cG_own]
  funext b
  apply propext
  constructor
  · exact Abr.own
  · rintro (⟨i, z⟩ | z)
    · refine .inr ⟨i, ?_, z⟩
      unfold cG at z
      split at z
      · assumption
      · cases z
    · exact .inl z
theorem SR.startG {K : PySem.W.Frag} {H : Hp} {P : Addr → Prop} {F : Df} {n : Nat} {ios : List Nat} {vs : List V} {rs : List R} {as : Nat → Addr} (ga : GArgs K n ios vs H rs P as) (hl : n = F.ps) (hl2 : vs.length = F.ps) (hN : F.ps ≤ F.N.length) : SR K (L2.start F.N vs) H (st0 F rs) (cG ios as) P where
  len := by
    rw [start_len (by rw [ga.ln, hl]) hN]
    unfold L2.start
    rw [List.length_append, List.length_map, List.length_replicate]
    omega
  rep := fun i r e => by
    have e' := start_get e
    have get : ∀ {v : V}, vs[i]? = some v → (L2.start F.N vs)[i]? = some (some v) := fun {v} h1 => by
      unfold L2.start
      rw [List.getElem?_append_left (by rw [List.length_map]; exact (List.getElem?_eq_some_iff.mp h1).1), List.getElem?_map, h1]
      rfl
    rw [cG_own]
    by_cases hi : i ∈ ios
    · obtain ⟨h1, h2, d, h3, h4⟩ := ga.io i hi
      rw [h3] at e'
      cases e'
      exact ⟨.ref (as i), get h2, as i, rfl, by unfold cG; rw [if_pos hi], h4⟩
    · obtain ⟨v, h1, h2⟩ := ga.re i r hi e'
      refine ⟨v, get h1, ?_⟩
      have c0 : cG ios as i = [] := by unfold cG; rw [if_neg hi]
      rw [c0]
      cases r with
      | val d => exact ⟨rfl, h2⟩
      | bor d => exact ⟨rfl, (show LentB K H (IoC ios as) _ _ _ from h2).move (fun _ _ _ q => q) (fun _ _ n _ z => n (cG_cel.mp z)) (fun _ _ _ q => q) (fun _ _ n _ => n)⟩
      | own d => exact h2.elim
  off := fun i e => by
    unfold cG
    split
    · next hi =>
      obtain ⟨_, _, d, h3, _⟩ := ga.io i hi
      refine absurd ?_ (e (.own d))
      unfold st0
      rw [List.getElem?_append_left (by rw [List.length_map]; exact (List.getElem?_eq_some_iff.mp h3).1), List.getElem?_map, h3]
      rfl
    · rfl
  dis := fun i j x h1 h2 => by
    unfold cG at h1 h2
    split at h1
    · next e1 =>
      split at h2
      · next e2 =>
        have q1 : x = as i := by simpa using h1
        have q2 : x = as j := by simpa using h2
        exact ga.inj i j e1 e2 (q1.symm.trans q2)
      · cases h2
    · cases h1
  sep := fun i x h => by
    obtain ⟨p, hp, e⟩ := cG_cel.mp ⟨i, h⟩
    rw [e]
    exact (ga.io p hp).1
  trk := fun x z => by
    rw [cG_own] at z
    rcases z with z | ⟨p, hp, rfl⟩
    · exact ga.tk x z
    · obtain ⟨_, _, _, _, h4⟩ := ga.io p hp
      exact h4.there
def scopeB (N ps : List Str) (sc : Scope) : Bool :=
  isFun sc && (!sc.isCoroutine && (!sc.isGenerator && (decide N.Nodup && (decide (N.take ps.length = ps) && (ps.all (fun x => match sc.names.lookup x with | some .local => true | some .cell => true | _ => false) && sc.names.all fun y => match y.2 with | .free => false | _ => true)))))
theorem scope_by {N ps : List Str} {sc : Scope} (h : scopeB N ps sc = true) : FnScope N ps sc := by
  unfold scopeB at h
  simp only [Bool.and_eq_true, Bool.not_eq_true', decide_eq_true_eq, List.all_eq_true] at h
  obtain ⟨h1, h2, h3, h4, h5, h6, h7⟩ := h
  refine ⟨isFun_of h1, h2, h3, h4, h5, fun x hx => ?_, fun y hy e => ?_⟩
  · have q := h6 x hx
    split at q <;> first | exact .inl (by assumption) | exact .inr (by assumption) | cases q
  · have q := h7 y hy
    rw [e] at q
    cases q
structure Txt (K : PySem.W.Frag) (x qual : Str) (st : Stmt) (f : Addr) (fd : FuncData) (ps : List Str) (dfl : List D) : Prop where
  fn : FunD K x qual (defArgs st) (defBody st) (defScope st) (dfl.map scV) [] f fd
  bd : ∀ j, ∃ us, Vals ((dfl.drop j).map scV) us ∧ Binds K fd ps us
  sc : dfl.all scOk = true
structure ExcK (K : PySem.W.Frag) (mg : Str → Option Value) (x : Str) (a : Addr) : Prop where
  mg : mg x = some (.ref a)
  kp : PySem.W.keepIn K (.ref a) = true
  sub : PySem.W.subIn K (.ref a) (.type "BaseException") = some true
  ty : PySem.W.typeIn K (.ref a) = some (.type "type")
  ex : ∃ (B newId initId : String) (bmB : List Value), ExcBaseFacts B newId initId bmB ∧ PySem.W.excIn K a bmB newId = true
def defB (F : Df) (ps : List Str) (tb : Tb) (st : Stmt) : Bool :=
  decide (ps.length = F.ps) && (F.ios.all (fun p => decide (p < F.ps)) && (scopeB F.N ps (defScope st) && chkB F.body ⟨tb, F.N, defScope st, fun _ => true, true⟩ F.ios (defBody st)))
def spF (C : Cn) (F : Df) (run : List R → Out) : Sp := if F.ios = [] then spP C F.ps fun rs => ((run rs).cr []).fin else spG C F.ps F.ios run
theorem spF_len {C : Cn} {F : Df} {run : List R → Out} {vs : List V} {H : Hp} {Q : VK} {E : XK} (h : spF C F run vs H Q E) : vs.length = F.ps := by
  unfold spF at h
  split at h
  · exact h.1
  · exact h.1
section
variable {P : Program} {w : World} {K : PySem.W.Frag} {mg : Str → Option Value} {base : Heap}
def FnAt (P : Program) (w : World) (K : PySem.W.Frag) (mg : Str → Option Value) (base : Heap) (k : Nat) (f' : Addr) (sp : Sp) (dd : List D) : Prop :=
  ∃ (fd : FuncData) (ps : List Str) (us : List Value), FnOk P w K mg base (L2.CX P w) k f' fd ps sp ∧ Binds K fd ps us ∧ Vals (dd.map scV) us ∧ dd.all scOk = true
structure TbOk (P : Program) (w : World) (K : PySem.W.Frag) (mg : Str → Option Value) (base : Heap) (C : Cn) (k : Nat) (tb : Tb) (g : G) : Prop where
  bs : ∀ x, tb.bs.contains x = true → mg x = none
  fs : ∀ x f n dfl, tb.fs.lookup x = some (f, n, dfl) → ∃ f', mg x = some (.ref f') ∧ PySem.W.keepIn K (.ref f') = true ∧ ∀ j, FnAt P w K mg base k f' (spP C n (g.run f)) (dfl.drop j)
  os : ∀ x f n ios dfl, tb.os.lookup x = some (f, n, ios, dfl) → ∃ run : List R → Out, (∀ rs, g.runC f rs = (run rs).cr ios) ∧ ∃ f', mg x = some (.ref f') ∧ PySem.W.keepIn K (.ref f') = true ∧ ∀ j, FnAt P w K mg base k f' (spG C n ios run) (dfl.drop j)
  ca : g.ca = C.ca
  cs : ∀ x c, tb.cs.lookup x = some c → mg x = some (.ref (g.ca c)) ∧ C8.InsC K (g.ca c)
  fl : ∀ c f, tb.fl.contains (c, f) = true → Cls K (g.ca c) ∧ NoAttr K (g.ca c) f
  ms : ∀ c m f n dfl, tb.ms.lookup (c, m) = some (f, n, dfl) → Cls K (g.ca c) ∧ ∃ f', Meth K (g.ca c) m f' ∧ ∀ j, FnAt P w K mg base k f' (spP C n (g.run f)) (dfl.drop j)
  mo : ∀ c m f n ios dfl, tb.mo.lookup (c, m) = some (f, n, ios, dfl) → Cls K (g.ca c) ∧ ∃ run : List R → Out, (∀ rs, g.runC f rs = (run rs).cr ios) ∧ ∃ f', Meth K (g.ca c) m f' ∧ ∀ j, FnAt P w K mg base k f' (spG C n ios run) (dfl.drop j)
  nw : ∀ x c f n dfl, tb.nw.lookup x = some (c, f, n, dfl) → mg x = some (.ref (g.ca c)) ∧ ∃ f', Mk K (g.ca c) f' ∧ ∀ r, g.mkC = some r → ∃ run : List R → Out, (∀ rs, r f rs = (run rs).cr [0]) ∧ ∃ k', k = k' + 1 ∧ ∀ j, FnAt P w K mg base k' f' (spG C n [0] run) (dfl.drop j)
  xc : ∀ x j, tb.xs.lookup x = some j → ExcK K mg x (C.ca j)
  xm : ∀ i j b, g.sub i j = some b → PySem.W.exmOne K (.ref (C.ca i)) (.ref (C.ca j)) = some b
  gl : ∀ x r, g.glo.lookup x = some r → ∃ v u, mg x = some u ∧ RelV v u ∧ ∀ H0 H P, RR C.K H0 H P v r
  kd : ∀ x ks ds, tb.kd.lookup x = some (ks, ds) → KdK K w mg x ks ds
  xl : ∀ c f, tb.xl.contains (c, f) = true → XfC K (g.ca c) ∧ PySem.W.findIn K (.ref (g.ca c)) f = some none
  xn : ∀ x j, tb.xn.lookup x = some j → mg x = some (.ref (g.ca j))
  kt : ∀ i j b, g.kit i j = some b → XeK K (g.ca i) ∧ PySem.W.kitOne K (.ref (g.ca i)) (kvA g.ca j) = some b
  xf : ∀ x j, tb.xf.lookup x = some j → mg x = some (.ref (C.ca j)) ∧ (2 ≤ g.lv → ∃ kk, k = kk + 1 ∧ OexC K (C.ca j) ∧ (∀ f ∈ (["part", "name", "due", "found"] : List Str), PySem.W.findIn K (.ref (C.ca j)) f = some none) ∧
    ∃ fI fd, PySem.W.findIn K (.ref (C.ca j)) "__init__" = some (some (.ref fI)) ∧ PySem.W.typeIn K (.ref fI) = some (.type "function") ∧ FnOk P w K mg base (L2.CX P w) kk fI fd xiN (spXi K) ∧ Binds K fd xiN [])
theorem fn_ok {x qual : Str} {st : Stmt} {f : Addr} {fd : FuncData} {ps : List Str} {dfl : List D} {F : Df} {C : Cn} {g : G} {k : Nat} {tb : Tb} (T : Txt K x qual st f fd ps dfl) (hC : C.K = K) (hd : defB F ps tb st = true) (B : TbOk P w K mg base C k tb g) : FnOk P w K mg base (L2.CX P w) (k + 1) f fd ps (spF C F (runO g F)) := by
  unfold defB at hd
  rw [Bool.and_eq_true, Bool.and_eq_true, Bool.and_eq_true, decide_eq_true_eq, List.all_eq_true] at hd
  obtain ⟨hps, hio, hsc, hb⟩ := hd
  have S := scope_by hsc
  have hle : F.ps ≤ F.N.length := by have := congrArg List.length S.pre; rw [List.length_take, hps] at this; omega
  refine T.fn.ok S (fun vs H Q E h => by rw [hps]; exact spF_len h) fun cdv A outer s H vs Q E hr h => ?_
  have gs : Gs (cxOf (L2.CX P w) P w K mg base F.N qual (defScope st) f cdv A outer s H E) C (fun cls d _ H => E cls d H) ⟨tb, F.N, defScope st, fun _ => true, true⟩ g := {
    hK := hC.symm, hN := rfl, nd := S.nd, sc := rfl, fn := rfl, calm := fun _ => rfl
    xc := fun x j e => let z := B.xc x j e; ⟨z.mg, z.kp, z.sub, z.ty, z.ex⟩
    xm := B.xm
    hs := rfl
    hf := rfl
    un := (by have := hr.un; show (A.deeper _).units + 200 < cLine; omega)
    tk := takes_of rfl rfl rfl rfl
    top := ⟨_, rfl, _, _, rfl, rfl⟩
    tf := tkF_of rfl (takes_of rfl rfl rfl rfl)
    bs := B.bs
    ca := B.ca
    cs := B.cs
    fl := B.fl
    fs := fun x f n dfl e j => let ⟨f', h2, h3, hh⟩ := B.fs x f n dfl e; let ⟨fd, ps, us, h1, h4, h5, h6⟩ := hh j; ⟨k, f', fd, ps, us, h1, hr, h2, h3, h4, h5, h6⟩
    os := fun x f n ios dfl e => let ⟨run, hrun, f', h2, h3, hh⟩ := B.os x f n ios dfl e; ⟨run, hrun, fun j => let ⟨fd, ps, us, h1, h4, h5, h6⟩ := hh j; ⟨k, f', fd, ps, us, h1, hr, h2, h3, h4, h5, h6⟩⟩
    ms := fun c m f n dfl e j => let ⟨hc, f', h2, hh⟩ := B.ms c m f n dfl e; let ⟨fd, ps, us, h1, h4, h5, h6⟩ := hh j; ⟨hc, k, f', fd, ps, us, h2, h1, hr, h4, h5, h6⟩
    mo := fun c m f n ios dfl e => let ⟨hc, run, hrun, f', h2, hh⟩ := B.mo c m f n ios dfl e; ⟨run, hrun, fun j => let ⟨fd, ps, us, h1, h4, h5, h6⟩ := hh j; ⟨hc, k, f', fd, ps, us, h2, h1, hr, h4, h5, h6⟩⟩
    nw := fun x c f n dfl e r er => let ⟨hm, f', h2, hh⟩ := B.nw x c f n dfl e; let ⟨run, hrun, k', ek, hj⟩ := hh r er; ⟨run, hrun, fun j => let ⟨fd, ps, us, h1, h4, h5, h6⟩ := hj j; ⟨hm, k', f', fd, ps, us, h2, h1, ek ▸ hr, h4, h5, h6⟩⟩
    gl := B.gl
    kd := B.kd
    xf := fun x j e => ⟨(B.xf x j e).1, fun l => let ⟨kk, ek, h2, h3, fI, fd, h4, h5, h6, h7⟩ := (B.xf x j e).2 l; ⟨(B.xf x j e).1, h2, h3, kk, fI, fd, h4, h5, h6, ek ▸ hr, h7⟩⟩
    xl := B.xl
    xn := B.xn
    kt := B.kt
    po := passes_of rfl }
  refine ⟨_, soundB F.body gs (defBody st) hb, ?_⟩
  unfold spF at h
  split at h
  · next hio =>
    rw [hio]
    obtain ⟨hl, rs, P', hP, hrs, hq⟩ := h
    have hl2 : rs.length = F.ps := by rw [← Paired.length hrs]; exact hl
    refine ⟨st0 F rs, noC, P', SR.start hP hrs hl2 hle, ?_⟩
    simp only [runO] at hq
    rw [if_pos hl2] at hq
    have ex : ∀ {σ' : L2.St} {ρ' : Mp.Env} {c' : Nat → List Addr} {H' : Hp}, Stp [] (L2.start F.N vs) (st0 F rs) noC H σ' ρ' c' H' → Ex H H' := fun st a o q => st.fr a o (noC_cel a) q
    have ab : Abr [] noC P' = P' := by
      funext b
      apply propext
      exact ⟨fun z => z.elim id fun ⟨_, z, _⟩ => by (cases z), .inl⟩
    cases e : denB g F.body (st0 F rs) with
    | stuck => rw [e] at hq; exact hq.elim
    | bk ρ => rw [e] at hq; exact hq.elim
    | ct ρ => rw [e] at hq; exact hq.elim
    | nx ρ =>
      rw [e] at hq
      exact fun σ' H' c' a b => hq .non H' (ex b) (by simp [RR, Rp])
    | rt r ρ =>
      rw [e] at hq
      refine fun v σ' H' c' a b d => hq v H' (ex b) ?_
      unfold RT at d
      rw [ab] at d
      cases r with
      | val d' => exact d
      | own d' => obtain ⟨y, e1, e2, e3, e4⟩ := d; exact ⟨y, e1, e2.elim (fun z => (noC_cel y z).elim) id, e3, e4⟩
      | bor d' => exact d
    | ex c pl ρ =>
      rw [e] at hq
      exact fun σ' H' c' d a b x => hq H' d (ex b) (x.less fun _ z => .inr z)
  · next hne =>
    obtain ⟨hl, rs, P', as, ga, hq⟩ := h
    refine ⟨st0 F rs, cG F.ios as, P', SR.startG ga rfl hl hle, ?_⟩
    unfold runO at hq
    rw [if_pos ga.ln] at hq
    have bk : ∀ {σ' : L2.St} {ρ' : Mp.Env} {c' : Nat → List Addr} {H' : Hp}, SR C.K σ' H' ρ' c' P' → Stp F.ios (L2.start F.N vs) (st0 F rs) (cG F.ios as) H σ' ρ' c' H' → Bk P' F.ios as H H' ρ' := fun {σ' ρ' c' H'} sr st => ⟨fun y o n q => st.fr y o (fun z => n (cG_cel.mp z)) q, st.tr, fun p hp d' e => by
      obtain ⟨v, h1, y, rfl, h2, h3⟩ := sr.rep p _ e
      have h4 := st.io p hp
      rw [h2] at h4
      unfold cG at h4
      rw [if_pos hp] at h4
      cases h4
      refine h3.less fun b z => ?_
      rcases z with z | ⟨q, hq, rfl⟩
      · exact .inr z
      · refine .inl ⟨q, ?_⟩
        rw [st.io q hq]
        unfold cG
        rw [if_pos hq]
        simp⟩
    cases e : denB g F.body (st0 F rs) with
    | stuck => rw [e] at hq; exact hq.elim
    | bk ρ => rw [e] at hq; exact hq.elim
    | ct ρ => rw [e] at hq; exact hq.elim
    | ex c pl ρ =>
      rw [e] at hq
      refine fun σ' H' c' d a b x => hq.2 H' d (bk a b) (x.less fun y z => ?_)
      rcases z with z | ⟨q, hq, rfl⟩
      · exact .inr z
      · refine .inl ⟨q, ?_⟩
        rw [b.io q hq]
        unfold cG
        rw [if_pos hq]
        simp
    | nx ρ =>
      rw [e] at hq
      exact fun σ' H' c' x y => hq.2 H' (bk x y)
    | rt r ρ =>
      rw [e] at hq
      refine fun v σ' H' c' x y z => hq.2 v H' (bk x y) ?_
      unfold RT at z
      rw [cG_abr] at z
      cases r with
      | val d' => exact z
      | own d' =>
        obtain ⟨y', e1, e2, e3, e4⟩ := z
        exact ⟨y', e1, e2.elim (fun z => absurd (.inr (cG_cel.mp z)) e3) id, e3, e4⟩
      | bor d' => exact z
theorem fn_none {f : Addr} {fd : FuncData} {ps : List Str} {F : Df} {C : Cn} {CX : CXT} : FnOk P w K mg base CX 0 f fd ps (spF C F fun _ => .stuck) := by
  have no : ∀ vs H Q E, ¬ spF C F (fun _ => .stuck) vs H Q E := fun vs H Q E h => by
    unfold spF at h
    split at h
    · obtain ⟨_, _, _, _, _, z⟩ := h; exact z.elim
    · obtain ⟨_, _, _, _, _, z⟩ := h; exact z.elim
  exact ⟨fun vs H Q E h => (no _ _ _ _ h).elim, fun A outer s H args us vs Q E _ _ _ _ h => (no _ _ _ _ h).elim⟩
structure Row where
  code : Nat
  nm : Str
  qual : Str
  gl : List Str
  ps : List Str
  st : Stmt
  dfl : List D
  mt : List (Nat × Str)
  ini : List (Str × Nat)
def tabB (T : List (Nat × Df)) (rows : List Row) (tb : Tb) : Bool :=
  rows.all fun r => match T.lookup r.code with
    | some F => defB F r.ps tb r.st
    | none => false
def rowIs (T : List (Nat × Df)) (r : Row) (f n : Nat) (ios : List Nat) (dfl : List D) : Bool := decide (r.code = f) && (scEqs r.dfl dfl && match T.lookup r.code with
  | some F => decide (F.ps = n) && decide (F.ios = ios)
  | none => false)
def fsOk (T : List (Nat × Df)) (rows : List Row) (tb : Tb) : Bool :=
  (tb.fs.all fun p => rows.any fun r => r.gl.contains p.1 && rowIs T r p.2.1 p.2.2.1 [] p.2.2.2) &&
  ((tb.os.all fun p => rows.any fun r => r.gl.contains p.1 && (!p.2.2.2.1.isEmpty && rowIs T r p.2.1 p.2.2.1 p.2.2.2.1 p.2.2.2.2)) &&
  ((tb.ms.all fun p => rows.any fun r => r.mt.contains p.1 && rowIs T r p.2.1 p.2.2.1 [] p.2.2.2) &&
  ((tb.mo.all fun p => rows.any fun r => r.mt.contains p.1 && (!p.2.2.2.1.isEmpty && rowIs T r p.2.1 p.2.2.1 p.2.2.2.1 p.2.2.2.2)) &&
  (tb.nw.all fun p => rows.any fun r => r.ini.contains (p.1, p.2.1) && rowIs T r p.2.2.1 p.2.2.2.1 [0] p.2.2.2.2))))
theorem lookup_mem {α β : Type} [BEq β] [LawfulBEq β] : ∀ {l : List (β × α)} {x : β} {v : α}, l.lookup x = some v → (x, v) ∈ l
  | (y, w) :: l, x, v, h => by
    rw [List.lookup_cons] at h
    split at h
    · next e => cases h; rw [eq_of_beq e]; exact List.mem_cons_self
    · exact List.mem_cons_of_mem _ (lookup_mem h)
def rnO (T : List (Nat × Df)) (M : Mn) : Nat → Nat → List R → Out
  | 0, _, _ => .stuck
  | n + 1, f, rs => match T.lookup f with
    | some F => runO (gOf T M n) F rs
    | none => .stuck
theorem rnC_O {T : List (Nat × Df)} {M : Mn} {f : Nat} {F : Df} (h : T.lookup f = some F) (n : Nat) (rs : List R) : rnC T M n f rs = (rnO T M n f rs).cr F.ios := by
  cases n with
  | zero => rfl
  | succ n => rw [rnC_s, rnO, h]; rfl
def TxOk (K : PySem.W.Frag) (mg : Str → Option Value) (ca : Nat → Addr) (r : Row) : Prop := ∃ f fd, Txt K r.nm r.qual r.st f fd r.ps r.dfl ∧ (∀ x ∈ r.gl, mg x = some (.ref f)) ∧ (∀ q ∈ r.mt, Cls K (ca q.1) ∧ Meth K (ca q.1) q.2 f) ∧ ∀ q ∈ r.ini, mg q.1 = some (.ref (ca q.2)) ∧ Mk K (ca q.2) f
structure XfK (K : PySem.W.Frag) (w : World) (mg : Str → Option Value) (x : Str) (a : Addr) : Prop where
  at_ : mg x = some (.ref a)
  oex : OexC K a
  nf : ∀ f ∈ (["part", "name", "due", "found"] : List Str), PySem.W.findIn K (.ref a) f = some none
  ex : ∃ fI fd, PySem.W.findIn K (.ref a) "__init__" = some (some (.ref fI)) ∧ PySem.W.typeIn K (.ref fI) = some (.type "function") ∧ (∀ P base k, FnOk P w K mg base (L2.CX P w) (k + 1) fI fd xiN (spXi K)) ∧ Binds K fd xiN []
structure NmOk (K : PySem.W.Frag) (w : World) (mg : Str → Option Value) (C : Cn) (tb : Tb) (M : Mn) : Prop where
  bs : ∀ x, tb.bs.contains x = true → mg x = none
  ca : M.ca = C.ca
  cs : ∀ x c, tb.cs.lookup x = some c → mg x = some (.ref (M.ca c)) ∧ C8.InsC K (M.ca c)
  fl : ∀ c f, tb.fl.contains (c, f) = true → Cls K (M.ca c) ∧ NoAttr K (M.ca c) f
  xc : ∀ x j, tb.xs.lookup x = some j → ExcK K mg x (C.ca j)
  xm : ∀ i j b, M.sub i j = some b → PySem.W.exmOne K (.ref (C.ca i)) (.ref (C.ca j)) = some b
  gl : ∀ x r, M.glo.lookup x = some r → ∃ v u, mg x = some u ∧ RelV v u ∧ ∀ H0 H P, RR C.K H0 H P v r
  kd : ∀ x ks ds, tb.kd.lookup x = some (ks, ds) → KdK K w mg x ks ds
  xf : ∀ x j, tb.xf.lookup x = some j → XfK K w mg x (C.ca j)
  xl : ∀ c f, tb.xl.contains (c, f) = true → XfC K (M.ca c) ∧ PySem.W.findIn K (.ref (M.ca c)) f = some none
  xn : ∀ x j, tb.xn.lookup x = some j → mg x = some (.ref (M.ca j))
  kt : ∀ i j b, M.kit i j = some b → XeK K (M.ca i) ∧ PySem.W.kitOne K (.ref (M.ca i)) (kvA M.ca j) = some b
theorem row_at {T : List (Nat × Df)} {tb : Tb} {C : Cn} {M : Mn} {n : Nat} {r : Row} {i m : Nat} {ios : List Nat} {dfl : List D} (q : rowIs T r i m ios dfl = true) {f : Addr} {fd : FuncData} (t : Txt K r.nm r.qual r.st f fd r.ps r.dfl)
    (ih : ∀ F, T.lookup r.code = some F → FnOk P w K mg base (L2.CX P w) n f fd r.ps (spF C F (rnO T M n r.code))) :
    (∀ rs, rnC T M n i rs = (rnO T M n i rs).cr ios) ∧ (ios = [] → ∀ j, FnAt P w K mg base n f (spP C m fun rs => (rnC T M n i rs).fin) (dfl.drop j)) ∧ (ios ≠ [] → ∀ j, FnAt P w K mg base n f (spG C m ios (rnO T M n i)) (dfl.drop j)) := by
  unfold rowIs at q
  simp only [Bool.and_eq_true, decide_eq_true_eq] at q
  obtain ⟨rfl, q3, q4⟩ := q
  cases eF : T.lookup r.code with
  | none => rw [eF] at q4; cases q4
  | some F =>
    rw [eF] at q4
    simp only [Bool.and_eq_true, decide_eq_true_eq] at q4
    obtain ⟨rfl, rfl⟩ := q4
    have := ih F eF
    have hsc : ∀ j, (dfl.drop j).all scOk = true := fun j => by
      have := t.sc
      rw [scEqs_ok q3] at this
      rw [List.all_eq_true] at this ⊢
      exact fun d hd => this d (List.mem_of_mem_drop hd)
    refine ⟨fun rs => rnC_O eF n rs, fun e j => ?_, fun e j => ?_⟩
    · obtain ⟨us, b1, b2⟩ := t.bd j
      rw [scEqs_ok q3] at b1
      refine ⟨fd, r.ps, us, this.imp fun vs H Q E h => ?_, b2, b1, hsc j⟩
      unfold spF
      rw [if_pos e]
      have er : (fun rs => (Out.cr [] (rnO T M n r.code rs)).fin) = fun rs => (rnC T M n r.code rs).fin := by
        funext rs
        rw [rnC_O eF n rs, e]
      rw [er]
      exact h
    · obtain ⟨us, b1, b2⟩ := t.bd j
      rw [scEqs_ok q3] at b1
      refine ⟨fd, r.ps, us, this.imp fun vs H Q E h => ?_, b2, b1, hsc j⟩
      unfold spF
      rw [if_neg e]
      exact h
theorem tab_ok {T : List (Nat × Df)} {rows : List Row} {tb : Tb} {C : Cn} {M : Mn} (hC : C.K = K) (ht : tabB T rows tb = true) (hf : fsOk T rows tb = true)
    (tx : ∀ r ∈ rows, TxOk K mg C.ca r) (hN : NmOk K w mg C tb M) :
    ∀ (n : Nat) (r : Row) (F : Df), r ∈ rows → T.lookup r.code = some F → ∀ f fd, Txt K r.nm r.qual r.st f fd r.ps r.dfl → FnOk P w K mg base (L2.CX P w) n f fd r.ps (spF C F (rnO T M n r.code)) := by
  unfold tabB at ht
  rw [List.all_eq_true] at ht
  unfold fsOk at hf
  simp only [Bool.and_eq_true, List.all_eq_true, List.any_eq_true, Bool.not_eq_true', List.isEmpty_eq_false_iff] at hf
  obtain ⟨f1, f2, f3, f4, f5⟩ := hf
  intro n
  induction n using Nat.strongRecOn with
  | ind n ih =>
    cases n with
    | zero => intro r F _ _ f fd _; exact fn_none
    | succ n =>
      intro r F hr hF f fd tf
      have hd := ht r hr
      rw [hF] at hd
      have at_ : ∀ m, m < n + 1 → ∀ {r : Row}, r ∈ rows → ∀ {i p : Nat} {ios : List Nat} {dfl : List D}, rowIs T r i p ios dfl = true → ∀ {f : Addr} {fd : FuncData}, Txt K r.nm r.qual r.st f fd r.ps r.dfl →
          (∀ rs, rnC T M m i rs = (rnO T M m i rs).cr ios) ∧ (ios = [] → ∀ j, FnAt P w K mg base m f (spP C p fun rs => (rnC T M m i rs).fin) (dfl.drop j)) ∧ (ios ≠ [] → ∀ j, FnAt P w K mg base m f (spG C p ios (rnO T M m i)) (dfl.drop j)) :=
        fun m hm r hr i p ios dfl q f fd t => row_at (tb := tb) q t fun F eF => ih m hm r F hr eF f fd t
      have B : TbOk P w K mg base C n tb (gOf T M n) := {
        bs := hN.bs
        ca := hN.ca
        cs := hN.cs
        fl := hN.fl
        xc := hN.xc
        xm := hN.xm
        gl := hN.gl
        kd := hN.kd
        xl := hN.xl
        xn := hN.xn
        kt := hN.kt
        xf := fun x j e => ⟨(hN.xf x j e).at_, fun l => by
          have z := hN.xf x j e
          obtain ⟨fI, fd, z1, z2, z3, z4⟩ := z.ex
          have l : 2 ≤ n := l
          obtain ⟨k', rfl⟩ : ∃ k', n = k' + 1 + 1 := ⟨n - 2, by omega⟩
          exact ⟨k' + 1, rfl, z.oex, z.nf, fI, fd, z1, z2, z3 _ _ _, z4⟩⟩
        fs := fun x i p dfl e => by
          obtain ⟨r', hr', q0, q⟩ := f1 _ (lookup_mem e)
          obtain ⟨f', fd', t', hm, _, _⟩ := tx r' hr'
          exact ⟨f', hm _ (List.contains_iff_mem.mp q0), t'.fn.kp, (at_ n (Nat.lt_succ_self n) hr' q t').2.1 rfl⟩
        os := fun x i p ios dfl e => by
          obtain ⟨r', hr', q0, qe, q⟩ := f2 _ (lookup_mem e)
          obtain ⟨f', fd', t', hm, _, _⟩ := tx r' hr'
          obtain ⟨a, _, b⟩ := at_ n (Nat.lt_succ_self n) hr' q t'
          exact ⟨rnO T M n i, a, f', hm _ (List.contains_iff_mem.mp q0), t'.fn.kp, b qe⟩
        ms := fun c m i p dfl e => by
          obtain ⟨r', hr', q0, q⟩ := f3 _ (lookup_mem e)
          obtain ⟨f', fd', t', _, hm, _⟩ := tx r' hr'
          have z := hm _ (List.contains_iff_mem.mp q0)
          rw [← hN.ca] at z
          exact ⟨z.1, f', z.2, (at_ n (Nat.lt_succ_self n) hr' q t').2.1 rfl⟩
        mo := fun c m i p ios dfl e => by
          obtain ⟨r', hr', q0, qe, q⟩ := f4 _ (lookup_mem e)
          obtain ⟨f', fd', t', _, hm, _⟩ := tx r' hr'
          have z := hm _ (List.contains_iff_mem.mp q0)
          rw [← hN.ca] at z
          obtain ⟨a, _, b⟩ := at_ n (Nat.lt_succ_self n) hr' q t'
          exact ⟨z.1, rnO T M n i, a, f', z.2, b qe⟩
        nw := fun x c i p dfl e => by
          obtain ⟨r', hr', q0, q⟩ := f5 _ (lookup_mem e)
          obtain ⟨f', fd', t', _, _, hm⟩ := tx r' hr'
          have z := hm _ (List.contains_iff_mem.mp q0)
          rw [← hN.ca] at z
          refine ⟨z.1, f', z.2, fun rr er => ?_⟩
          cases n with
          | zero => cases er
          | succ n' =>
            cases er
            obtain ⟨a, _, b⟩ := at_ n' (by omega) hr' q t'
            exact ⟨rnO T M n' i, a, n', rfl, b (by simp)⟩ }
      have := fn_ok (P := P) (w := w) (base := base) (g := gOf T M n) (k := n) tf hC hd B
      refine this.imp fun vs H Q E h => ?_
      have e : rnO T M (n + 1) r.code = runO (gOf T M n) F := by funext rs; rw [rnO, hF]
      rw [e] at h
      exact h
end

def spLaw (K : PySem.W.Frag) : Sp := fun vs H Q _ => ∃ (a : Addr) (ns : List Int), vs = [.ref a] ∧ SqL K H a (ns.map V.int) ∧ ns.length ≤ 63 ∧ ∀ H', Q (.bl true) H'
theorem law_cr {T : List (Nat × Df)} {M : Mn} {f : Nat} {F : Df} (h : T.lookup f = some F) (e : F.ios = []) {n : Nat} {rs : List R} : ((rnO T M n f rs).cr []).fin = rn T M n f rs := by
  unfold rn
  rw [rnC_O h, e]
theorem sp_law {C : Cn} {F : Df} {run : List R → Out} (e : F.ios = []) (e1 : F.ps = 1) (h : ∀ ns : List Int, ns.length ≤ 63 → ((run [.bor (.lst (ns.map D.int))]).cr []).fin = .ok (.val (.bl true))) : ∀ vs H Q E, spLaw C.K vs H Q E → spF C F run vs H Q E := fun vs H Q E ⟨a, ns, ev, q, l, z⟩ => by
  subst ev
  unfold spF
  rw [if_pos e, e1]
  refine ⟨rfl, [.bor (.lst (ns.map D.int))], fun _ => False, fun _ w => w.elim, .cons ⟨a, ns.map V.int, rfl, q, Rps.ints ns⟩ .nil, ?_⟩
  show RW _ _ _ _ _ ((run [.bor (.lst (ns.map D.int))]).cr []).fin _
  rw [h ns l]
  intro v H' _ r
  have : v = .bl true := by simpa [RR, Rp] using r
  subst this
  exact z H'
theorem cx_none {P : Program} {w : World} {H : Hp} {s : Shared} {e : Value} {s' : Shared} (h : L2.CX P w [] H s (fun _ _ _ => False) e s') : False := by
  obtain ⟨_, _, _, _, _, _, _, _, _, _, _, _, z⟩ := h
  exact z.elim
section
variable {K : PySem.W.Frag} {mg : Str → Option Value}
theorem tx_nil {ca : Nat → Addr} : ∀ r ∈ ([] : List Row), TxOk K mg ca r := fun r h => by cases h
theorem tx_cons {ca : Nat → Addr} {r : Row} {rs : List Row} (t : TxOk K mg ca r) (ts : ∀ r ∈ rs, TxOk K mg ca r) : ∀ r' ∈ r :: rs, TxOk K mg ca r' := fun r' h => by
  rcases List.mem_cons.mp h with rfl | h
  · exact t
  · exact ts r' h
theorem mt_nil {ca : Nat → Addr} {f : Addr} : ∀ q ∈ ([] : List (Nat × Str)), Cls K (ca q.1) ∧ Meth K (ca q.1) q.2 f := fun q h => by cases h
theorem ini_nil {ca : Nat → Addr} {f : Addr} : ∀ q ∈ ([] : List (Str × Nat)), mg q.1 = some (.ref (ca q.2)) ∧ Mk K (ca q.2) f := fun q h => by cases h
theorem cs_nil {ca : Nat → Addr} : ∀ x c, ([] : List (Str × Nat)).lookup x = some c → mg x = some (.ref (ca c)) ∧ C8.InsC K (ca c) := fun x c h => by simp at h
theorem fl_nil {ca : Nat → Addr} : ∀ c f, ([] : List (Nat × Str)).contains (c, f) = true → Cls K (ca c) ∧ NoAttr K (ca c) f := fun c f h => by simp at h
theorem kdn_nil {w : World} : ∀ x ks ds, ([] : List (Str × (List Str × List D))).lookup x = some (ks, ds) → KdK K w mg x ks ds := fun x ks ds h => by simp at h
theorem mg_nil {f : Addr} : ∀ x ∈ ([] : List Str), mg x = some (.ref f) := fun x h => by cases h
theorem mg_cons {f : Addr} {y : Str} {l : List Str} (h : mg y = some (.ref f)) (hs : ∀ x ∈ l, mg x = some (.ref f)) : ∀ x ∈ y :: l, mg x = some (.ref f) := fun x q => by
  rcases List.mem_cons.mp q with rfl | q
  · exact h
  · exact hs x q
theorem bs_nil : ∀ x, ([] : List Str).contains x = true → mg x = none := fun x h => by simp at h
theorem bs_cons {y : Str} {l : List Str} (h : mg y = none) (hs : ∀ x, l.contains x = true → mg x = none) : ∀ x, (y :: l).contains x = true → mg x = none := fun x q => by
  rw [List.contains_iff_mem] at q
  rcases List.mem_cons.mp q with e | q
  · rw [e]; exact h
  · exact hs x (List.contains_iff_mem.mpr q)
theorem xl_nil {ca : Nat → Addr} : ∀ c f, ([] : List (Nat × Str)).contains (c, f) = true → XfC K (ca c) ∧ PySem.W.findIn K (.ref (ca c)) f = some none := fun c f h => by simp at h
theorem xl_cons {ca : Nat → Addr} {i : Nat} {x : Str} {l : List (Nat × Str)} (h1 : XfC K (ca i)) (h2 : PySem.W.findIn K (.ref (ca i)) x = some none) (hs : ∀ c f, l.contains (c, f) = true → XfC K (ca c) ∧ PySem.W.findIn K (.ref (ca c)) f = some none) : ∀ c f, ((i, x) :: l).contains (c, f) = true → XfC K (ca c) ∧ PySem.W.findIn K (.ref (ca c)) f = some none := fun c f q => by
  rw [List.contains_iff_mem] at q
  rcases List.mem_cons.mp q with e | q
  · cases e; exact ⟨h1, h2⟩
  · exact hs c f (List.contains_iff_mem.mpr q)
theorem xn_nil {ca : Nat → Addr} : ∀ x j, ([] : List (Str × Nat)).lookup x = some j → mg x = some (.ref (ca j)) := fun x j h => by simp at h
theorem xn_cons {ca : Nat → Addr} {y : Str} {i : Nat} {l : List (Str × Nat)} (h : mg y = some (.ref (ca i))) (hs : ∀ x j, l.lookup x = some j → mg x = some (.ref (ca j))) : ∀ x j, ((y, i) :: l).lookup x = some j → mg x = some (.ref (ca j)) := fun x j q => by
  rw [List.lookup_cons] at q
  split at q
  · next e => cases q; rw [eq_of_beq e]; exact h
  · exact hs x j q
def GlOk (K : PySem.W.Frag) (mg : Str → Option Value) (x : Str) (r : R) : Prop := ∃ v u, mg x = some u ∧ RelV v u ∧ ∀ H0 H P, RR K H0 H P v r
theorem gl_nil : ∀ x r, ([] : List (Str × R)).lookup x = some r → GlOk K mg x r := fun x r h => by simp at h
end
section
variable {K : PySem.W.Frag} {mg : Str → Option Value} {ca : Nat → Addr}
theorem xc_nil : ∀ x j, ([] : List (Str × Nat)).lookup x = some j → ExcK K mg x (ca j) := fun x j h => by simp at h
theorem xc_cons {y : Str} {i : Nat} {l : List (Str × Nat)} (h : ExcK K mg y (ca i)) (hs : ∀ x j, l.lookup x = some j → ExcK K mg x (ca j)) : ∀ x j, ((y, i) :: l).lookup x = some j → ExcK K mg x (ca j) := fun x j q => by
  rw [List.lookup_cons] at q
  split at q
  · next e => cases q; rw [eq_of_beq e]; exact h
  · exact hs x j q
def subT (l : List ((Nat × Nat) × Bool)) (i j : Nat) : Option Bool := l.lookup (i, j)
theorem xm_nil : ∀ i j b, subT [] i j = some b → PySem.W.exmOne K (.ref (ca i)) (.ref (ca j)) = some b := fun i j b h => by simp [subT] at h
theorem xm_cons {i' j' : Nat} {b' : Bool} {l : List ((Nat × Nat) × Bool)} (h : PySem.W.exmOne K (.ref (ca i')) (.ref (ca j')) = some b') (hs : ∀ i j b, subT l i j = some b → PySem.W.exmOne K (.ref (ca i)) (.ref (ca j)) = some b) :
    ∀ i j b, subT (((i', j'), b') :: l) i j = some b → PySem.W.exmOne K (.ref (ca i)) (.ref (ca j)) = some b := fun i j b q => by
  unfold subT at q
  rw [List.lookup_cons] at q
  split at q
  · next e => cases q; have := eq_of_beq e; cases this; exact h
  · exact hs i j b q
theorem kt_nil {ca : Nat → Addr} : ∀ i j b, subT [] i j = some b → XeK K (ca i) ∧ PySem.W.kitOne K (.ref (ca i)) (kvA ca j) = some b := fun i j b h => by simp [subT] at h
theorem kt_cons {ca : Nat → Addr} {i' j' : Nat} {b' : Bool} {l : List ((Nat × Nat) × Bool)} (h1 : XeK K (ca i')) (h2 : PySem.W.kitOne K (.ref (ca i')) (kvA ca j') = some b') (hs : ∀ i j b, subT l i j = some b → XeK K (ca i) ∧ PySem.W.kitOne K (.ref (ca i)) (kvA ca j) = some b) : ∀ i j b, subT (((i', j'), b') :: l) i j = some b → XeK K (ca i) ∧ PySem.W.kitOne K (.ref (ca i)) (kvA ca j) = some b := fun i j b q => by
  unfold subT at q
  rw [List.lookup_cons] at q
  split at q
  · next e => cases q; have := eq_of_beq e; cases this; exact ⟨h1, h2⟩
  · exact hs i j b q
theorem exm_of {c C : Addr} {cd : ClassData} {b : Bool} (h1 : PySem.W.subIn K (.ref C) (.type "BaseException") = some true) (h2 : PySem.W.clsIn K C = some cd) (h3 : PySem.W.typeIn K (.ref C) = some (.type "type")) (h4 : PySem.W.subIn K (.ref c) (.ref C) = some b) :
    PySem.W.exmOne K (.ref c) (.ref C) = some b := by
  unfold PySem.W.exmOne PySem.W.kitCls
  rw [h1]
  show (if (some true == some true) = true then (if ((PySem.W.clsIn K C).isSome && PySem.W.typeIn K (.ref C) == some (.type "type")) = true then PySem.W.subIn K (.ref c) (.ref C) else none) else none) = some b
  rw [h2, h3, h4]
  rfl
theorem exc_mk {h : Heap} {x : Str} {a : Addr} (X : K.In h) (G : h.Ns mainGlobals mg) (p1 : PySem.W.nsIn K mainGlobals x = some (some (.ref a))) (p2 : PySem.W.keepIn K (.ref a) = true) (p3 : PySem.W.subIn K (.ref a) (.type "BaseException") = some true) (p4 : PySem.W.typeIn K (.ref a) = some (.type "type"))
    (p5 : PySem.W.excIn K a [.type "ValueError", .type "Exception", .type "BaseException", .type "object"] "ValueError.__new__" = true) : ExcK K mg x a :=
  ⟨PySem.W.mg_of X G p1, p2, p3, p4, _, _, _, _, PySem.F.excBase_ValueError, p5⟩
end
theorem txt_mk {K : PySem.W.Frag} {x qual : Str} {f : Addr} {st : Stmt} {ps : List Str} {oc : Value} {od an : Option Addr} {osl : Array (Option Value)} {kV doc pm cdv ct : Value}
    (l : K.lookup f = some ⟨oc, od, .func (PySem.W.fnOf x qual (defArgs st) (defBody st) (defScope st) .none kV doc pm an cdv ct), osl⟩) (c : PySem.W.codeIn K cdv qual = true) (k : PySem.W.keepIn K (.ref f) = true)
    (b : ∀ (kV doc pm : Value) (an : Option Addr) (cdv ct : Value) (us : List Value), us.length = ps.length → bindArgs (PySem.W.fnOf x qual (defArgs st) (defBody st) (defScope st) .none kV doc pm an cdv ct) ⟨us, []⟩ = pure (ps.zip us)) : Txt K x qual st f (PySem.W.fnOf x qual (defArgs st) (defBody st) (defScope st) .none kV doc pm an cdv ct) ps [] where
  fn := ⟨⟨oc, od, .none, kV, doc, pm, an, cdv, ct, osl, rfl, l, c, .inl ⟨rfl, rfl⟩, .inl rfl⟩, k⟩
  bd := fun j => ⟨[], by rw [List.drop_nil]; exact .nil, .all (b kV doc pm an cdv ct)⟩
  sc := rfl
end Mp

namespace Mp
open PySem L2
structure XiT (st : Stmt) (b m : Str) : Prop where
  ex : ∃ (p0 p1 p2 p3 p4 p5 q0 r0 s0 t0 q1 r1 s1 t1 q2 r2 s2 t2 q3 r3 s3 t3 : Pos) (j : Nat), defBody st = [.Expr (.Call (.Attribute (.Name b p1) "__init__" p2) [.Name "self" p3, .Constant (.str m) j p4] [] p5) p0, .Assign [.Attribute (.Name "self" q0) "part" r0] (.Name "part" s0) t0, .Assign [.Attribute (.Name "self" q1) "name" r1] (.Name "name" s1) t1, .Assign [.Attribute (.Name "self" q2) "due" r2] (.Name "due" s2) t2, .Assign [.Attribute (.Name "self" q3) "found" r3] (.Name "found" s3) t3] ∧
    ∀ env : PySem.Env, ∃ pl : Sem Bool, eval (.Call (.Attribute (.Name b p1) "__init__" p2) [.Name "self" p3, .Constant (.str m) j p4] [] p5) env = (do
      let ov ← eval (.Name b p1) env
      standAt p2.atName
      let (f, first) ← holding [ov] (getMethod ov "__init__" pl)
      callWith p5 f first (backTo p5 (starEach [.Name "self" p3, .Constant (.str m) j p4] env)) (backToKw p5 (keywordEach [] env)))
theorem xi_ok {P : Program} {w : World} {K : PySem.W.Frag} {mg : Str → Option Value} {base : Heap} {x qual : Str} {st : Stmt} {f : Addr} {fd : FuncData} {k : Nat} {b m : Str} {B : Addr} {mc : Value}
    (F : FunD K x qual (defArgs st) (defBody st) (defScope st) [] [] f fd) (T : XiT st b m) (hsc : scopeB xiN xiN (defScope st) = true) (hm : mg b = some (.ref B)) (hdb : (b == ("__debug__" : Str)) = false) (hgl : gloOk (defScope st) b = true) (T0 : XiK K B mc) :
    FnOk P w K mg base (L2.CX P w) (k + 1) f fd xiN (spXi K) := by
  have S := scope_by hsc
  refine F.ok S (fun vs H Q E h => h.1) fun cdv A outer s H vs Q E hr h => ?_
  obtain ⟨p0, p1, p2, p3, p4, p5, q0, r0, s0, t0, q1, r1, s1, t1, q2, r2, s2, t2, q3, r3, s3, t3, j, hb, hev⟩ := T.ex
  obtain ⟨pl, hev⟩ := hev (cxOf (L2.CX P w) P w K mg base xiN qual (defScope st) f cdv A outer s H E).env
  have pv : ∀ (i : Nat) (y : Str) (pos : Pos), xiN[i]? = some y → y ∈ xiN → (y == ("__debug__" : Str)) = false → (y == ("__classdict__" : Str)) = false → PE (cxOf (L2.CX P w) P w K mg base xiN qual (defScope st) f cdv A outer s H E) (.Name y pos) (tVar i) := fun i y pos h1 h2 h3 h4 => pe_var h1 ((S.par y h2).imp id .inl) h3 h4
  have v0 := fun pos => pv 0 "self" pos rfl (by decide) (by decide) (by decide)
  have v1 := fun pos => pv 1 "part" pos rfl (by decide) (by decide) (by decide)
  have v2 := fun pos => pv 2 "name" pos rfl (by decide) (by decide) (by decide)
  have v3 := fun pos => pv 3 "due" pos rfl (by decide) (by decide) (by decide)
  have v4 := fun pos => pv 4 "found" pos rfl (by decide) (by decide) (by decide)
  have hg : Gl (cxOf (L2.CX P w) P w K mg base xiN qual (defScope st) f cdv A outer s H E) b := glo_of hgl
  refine ⟨_, hb ▸ pss_cons (ps_expr (pe_xinit hg hm hdb T0 (pa_cons (v0 p3) (pa_cons pe_str pa_nil)) hev)) (pss_cons (ps_ost (v0 q0) (v1 s0)) (pss_cons (ps_ost (v0 q1) (v2 s1)) (pss_cons (ps_ost (v0 q2) (v3 s2)) (pss_cons (ps_ost (v0 q3) (v4 s3)) pss_nil)))), ?_⟩
  obtain ⟨_, a, C, y1, y2, y3, y4, rfl, O, nf, ea, q⟩ := h
  refine ⟨.ref a, rfl, a, C, [.str m], rfl, by simp, O, ea, ?_⟩
  refine ⟨y1, rfl, .ref a, rfl, a, C, rfl, O, nf "part" (by simp), .inl ⟨ea, fun dx n1 n2 => ?_⟩⟩
  have e1 : (upd (upd H dx (exd dx [("part", y1)])) a (exo a C (some dx))) a = some (exo a C (some dx)) := upd_same
  have e2 : (upd (upd H dx (exd dx [("part", y1)])) a (exo a C (some dx))) dx = some (exd dx [("part", y1)]) := by rw [upd_ne n2, upd_same]
  have e3 : ∀ c, c ≠ a → c ≠ dx → (upd (upd H dx (exd dx [("part", y1)])) a (exo a C (some dx))) c = H c := fun c h1 h2 => by rw [upd_ne h1, upd_ne h2]
  generalize (upd (upd H dx (exd dx [("part", y1)])) a (exo a C (some dx))) = G at e1 e2 e3 ⊢
  have an : a ≠ dx := fun z => n2 z.symm
  have step : ∀ {G : Hp} {fs fs' : List (Str × V)}, G a = some (exo a C (some dx)) → (∀ c, c ≠ a → c ≠ dx → G c = H c) → (upd G dx (exd dx fs')) a = some (exo a C (some dx)) ∧ (upd G dx (exd dx fs')) dx = some (exd dx fs') ∧ ∀ c, c ≠ a → c ≠ dx → (upd G dx (exd dx fs')) c = H c := fun h1 h2 => ⟨by rw [upd_ne an]; exact h1, upd_same, fun c k1 k2 => by rw [upd_ne k2]; exact h2 c k1 k2⟩
  refine ⟨y2, rfl, .ref a, rfl, a, C, rfl, O, nf "name" (by simp), .inr ⟨dx, _, e1, e2, by simp, ?_⟩⟩
  obtain ⟨e1, e2, e3⟩ := step (fs := []) (fs' := [("name", y2), ("part", y1)]) e1 e3
  generalize (upd G dx _) = G at e1 e2 e3 ⊢
  refine ⟨y3, rfl, .ref a, rfl, a, C, rfl, O, nf "due" (by simp), .inr ⟨dx, _, e1, e2, by simp, ?_⟩⟩
  obtain ⟨e1, e2, e3⟩ := step (fs := []) (fs' := [("due", y3), ("name", y2), ("part", y1)]) e1 e3
  generalize (upd G dx _) = G at e1 e2 e3 ⊢
  refine ⟨y4, rfl, .ref a, rfl, a, C, rfl, O, nf "found" (by simp), .inr ⟨dx, _, e1, e2, by simp, ?_⟩⟩
  obtain ⟨e1, e2, e3⟩ := step (fs := []) (fs' := xiF y1 y2 y3 y4) e1 e3
  exact q dx _ n1 n2 e1 e2 e3
end Mp

namespace Mp
open PySem L2
def oexB (C : Addr) (cd : ClassData) (sl : Array (Option Value)) : Bool := match cd.mro, sl.toList with
  | .ref C' :: bm, [_, _, _, _, some (.builtin n), _] => C' == C && (n == "ValueError.__new__" && (!cd.hasDel && (cd.hasDict && PySem.HandSPX.refsVE bm)))
  | _, _ => false
theorem oex_cls {K : PySem.W.Frag} {C : Addr} {dd : Option Addr} {cd : ClassData} {sl : Array (Option Value)} (l : K.lookup C = some ⟨.type "type", dd, .cls cd, sl⟩) (q : oexB C cd sl = true) :
    ∃ nm q N bs bm sn sub ab col dd k0 k1 k2 k3 k5, K.lookup C = some (excClassObj nm q C N bs bm true sn sub ab col dd k0 k1 k2 k3 k5 "ValueError.__new__") ∧ PySem.HandSPX.refsVE bm = true := by
  unfold oexB at q
  split at q
  · rename_i C' bm k0 k1 k2 k3 n k5 hm hs
    simp only [Bool.and_eq_true, beq_iff_eq, Bool.not_eq_true'] at q
    obtain ⟨rfl, rfl, hdel, hd, hr⟩ := q
    obtain ⟨nm, bs, mro, ns, qn, hdc, sn, sub, ab, col, del⟩ := cd
    dsimp only at hm hdel hd
    subst hm hdel hd
    have hsl : sl = #[k0, k1, k2, k3, some (.builtin "ValueError.__new__"), k5] := by
      obtain ⟨l⟩ := sl
      simp only at hs
      rw [hs]
    subst hsl
    exact ⟨nm, qn, ns, bs, bm, sn, sub, ab, col, dd, k0, k1, k2, k3, k5, l, hr⟩
  · cases q
theorem xf_mk {K : PySem.W.Frag} {mg : Str → Option Value} {h : Heap} {w : World} {x b m qual : Str} {a B fI : Addr} {mc : Value} {dd : Option Addr} {cd : ClassData} {sl : Array (Option Value)} {st : Stmt} {fd : FuncData}
    (X : K.In h) (G : h.Ns mainGlobals mg) (p1 : PySem.W.nsIn K mainGlobals x = some (some (.ref a))) (p2 : PySem.W.keepIn K (.ref a) = true) (p3 : PySem.W.subIn K (.ref a) (.type "BaseException") = some true) (p4 : PySem.W.typeIn K (.ref a) = some (.type "type"))
    (l : K.lookup a = some ⟨.type "type", dd, .cls cd, sl⟩) (hc : oexB a cd sl = true) (sa : PySem.W.findIn K (.ref a) "__setattr__" = some (some (.builtin "object.__setattr__")))
    (n1 : PySem.W.findIn K (.ref a) "part" = some none) (n2 : PySem.W.findIn K (.ref a) "name" = some none) (n3 : PySem.W.findIn K (.ref a) "due" = some none) (n4 : PySem.W.findIn K (.ref a) "found" = some none)
    (i1 : PySem.W.findIn K (.ref a) "__init__" = some (some (.ref fI))) (i2 : PySem.W.typeIn K (.ref fI) = some (.type "function"))
    (b1 : PySem.W.nsIn K mainGlobals b = some (some (.ref B))) (b2 : PySem.W.readsIn K B mc = true) (b3 : PySem.W.specialIn K (.ref B) "__getattribute__" = some (some (.builtin "type.__getattribute__"))) (b4 : PySem.W.findCls K (.ref B) mc "__init__" = some (.val (.builtin "ValueError.__init__")))
    (t : Txt K "__init__" qual st fI fd xiN []) (xt : XiT st b m) (hsc : scopeB xiN xiN (defScope st) = true) (hdb : (b == ("__debug__" : Str)) = false) (hgl : gloOk (defScope st) b = true) : XfK K w mg x a where
  at_ := PySem.W.mg_of X G p1
  oex := ⟨oex_cls l hc, sa, p3, p4, p2⟩
  nf := fun f hf => by
    simp only [List.mem_cons, List.not_mem_nil, or_false] at hf
    rcases hf with rfl | rfl | rfl | rfl <;> assumption
  ex := by
    refine ⟨fI, fd, i1, i2, fun P base k => xi_ok t.fn xt hsc (PySem.W.mg_of X G b1) hdb hgl ⟨b2, b3, b4⟩, ?_⟩
    obtain ⟨us, h1, h2⟩ := t.bd 0
    cases h1
    exact h2
theorem xf_nil {K : PySem.W.Frag} {w : World} {mg : Str → Option Value} {ca : Nat → Addr} : ∀ x j, ([] : List (Str × Nat)).lookup x = some j → XfK K w mg x (ca j) := fun x j e => nomatch e
theorem xf_cons {K : PySem.W.Frag} {w : World} {mg : Str → Option Value} {ca : Nat → Addr} {y : Str} {i : Nat} {l : List (Str × Nat)} (h : XfK K w mg y (ca i)) (r : ∀ x j, l.lookup x = some j → XfK K w mg x (ca j)) : ∀ x j, ((y, i) :: l).lookup x = some j → XfK K w mg x (ca j) := fun x j e => by
  rw [List.lookup_cons] at e
  split at e
  · next q => cases e; rw [eq_of_beq q]; exact h
  · exact r x j e
end Mp

namespace Mp
open PySem L2

theorem rnC_at {T : List (Nat × Df)} {M : Mn} {n f : Nat} {rs : List R} {F : Df} (h : T.lookup f = some F) : rnC T M (n + 1) f rs = runD (gOf T M n) F rs := by
  rw [rnC_s, h]
theorem rn_at {T : List (Nat × Df)} {M : Mn} {n f : Nat} {rs : List R} {F : Df} (h : T.lookup f = some F) : rn T M (n + 1) f rs = (runD (gOf T M n) F rs).fin := by
  unfold rn
  rw [rnC_at h]
theorem run_rn (T : List (Nat × Df)) (M : Mn) (n f : Nat) : (gOf T M n).run f = rn T M n f := rfl
theorem runC_rn (T : List (Nat × Df)) (M : Mn) (n : Nat) : (gOf T M n).runC = rnC T M n := rfl
theorem gOf_glo (T : List (Nat × Df)) (M : Mn) (n : Nat) : (gOf T M n).glo = M.glo := rfl
theorem gOf_sub (T : List (Nat × Df)) (M : Mn) (n : Nat) : (gOf T M n).sub = M.sub := rfl
theorem gOf_ca (T : List (Nat × Df)) (M : Mn) (n : Nat) : (gOf T M n).ca = M.ca := rfl
theorem gOf_kit (T : List (Nat × Df)) (M : Mn) (n : Nat) : (gOf T M n).kit = M.kit := rfl
theorem atI_in {α : Type} {xs : List α} {i : Int} (h0 : 0 ≤ i) (h1 : i < xs.length) : atI xs i = xs[i.toNat]? := by
  obtain ⟨n, rfl⟩ := Int.eq_ofNat_of_zero_le h0
  have hn : n < xs.length := by omega
  rw [show ((n : Int)).toNat = n from rfl, List.getElem?_eq_getElem hn]
  exact atI_nat (List.getElem?_eq_getElem hn)
theorem atI_map {α β : Type} (f : α → β) (xs : List α) (i : Int) : atI (xs.map f) i = (atI xs i).map f := by
  unfold atI
  rw [List.length_map]
  cases ixN xs.length i with
  | none => rfl
  | some j => simp
theorem lcGo_map {b : D → Option Env} {elt : Env → Res R} {f : D → D} : ∀ {ds acc : List D}, (∀ d ∈ ds, ∃ ρ r, b d = some ρ ∧ elt ρ = .ok r ∧ r.froz = some (f d)) → acc.length + ds.length ≤ LIM → lcGo b none elt ds acc = .ok (acc ++ ds.map f)
  | [], acc, _, _ => by simp [lcGo]
  | d :: ds, acc, h, hl => by
    obtain ⟨ρ, r, h1, h2, h3⟩ := h d List.mem_cons_self
    rw [List.length_cons] at hl
    unfold lcGo
    rw [h1]
    simp only [lcT, h2, h3]
    rw [if_pos (by omega), lcGo_map (fun e he => h e (List.mem_cons_of_mem _ he)) (by rw [List.length_append, List.length_singleton]; omega)]
    simp
theorem len_cps (w : Str) : w.length = w.cps.toList.length := by simp [Str.length]
theorem mulOk_r {i j : Int} (h : j.natAbs < 18446744073709551616) : mulOk i j = true := by
  unfold mulOk
  rw [decide_eq_true h]
  simp
theorem mulOk_l {i j : Int} (h : i.natAbs < 18446744073709551616) : mulOk i j = true := by
  unfold mulOk
  rw [decide_eq_true h]
  simp
theorem atS {s : List Int} {k : Int} (h0 : 0 ≤ k) (h1 : k < s.length) : atI (s.map D.int) k = some (.int (s.getD k.toNat 0)) := by
  rw [atI_map, atI_in h0 h1, List.getElem?_eq_getElem (by omega)]
  simp [List.getD, List.getElem?_eq_getElem (show k.toNat < s.length by omega)]
end Mp

namespace Mp
open PySem L2

def oK (o : Out) (b : Env → Out) : Out := match o with
  | .nx ρ' => b ρ'
  | o => o
theorem oSeq_k (a b : Env → Out) (ρ : Env) : oSeq a b ρ = oK (a ρ) b := by
  unfold oSeq oK
  cases a ρ <;> rfl
theorem oK_nx (ρ : Env) (b : Env → Out) : oK (.nx ρ) b = b ρ := rfl
theorem oK_rt (r : R) (ρ : Env) (b : Env → Out) : oK (.rt r ρ) b = .rt r ρ := rfl
theorem oK_bk (ρ : Env) (b : Env → Out) : oK (.bk ρ) b = .bk ρ := rfl
theorem oK_ct (ρ : Env) (b : Env → Out) : oK (.ct ρ) b = .ct ρ := rfl
theorem oK_ex (c : Nat) (pl : List (Str × D)) (ρ : Env) (b : Env → Out) : oK (.ex c pl ρ) b = .ex c pl ρ := rfl
theorem oK_st (b : Env → Out) : oK .stuck b = .stuck := rfl
theorem oB_exc (k : Nat) (pl : List (Str × D)) (ρ : Env) (f : R → Out) : oB (.exc k pl) ρ f = .ex k pl ρ := rfl
def oIf (r : R) (a b : Env → Out) (ρ : Env) : Out := match asBl r with
  | some true => a ρ
  | some false => b ρ
  | none => .stuck
theorem sIf_k (c : Env → Res R) (a b : Env → Out) (ρ : Env) : sIf c a b ρ = oB (c ρ) ρ fun r => oIf r a b ρ := rfl
theorem oIf_t (a b : Env → Out) (ρ : Env) : oIf (.val (.bl true)) a b ρ = a ρ := rfl
theorem oIf_f (a b : Env → Out) (ρ : Env) : oIf (.val (.bl false)) a b ρ = b ρ := rfl
theorem eArgs_nil (ρ : Env) : eArgs [] ρ = .ok [] := rfl
theorem eArgs_cons (m : Env → Res R) (ms : List (Env → Res R)) (ρ : Env) : eArgs (m :: ms) ρ = (m ρ).bind fun r => (eArgs ms ρ).bind fun rs => .ok (r :: rs) := by
  rw [eArgs]
  cases m ρ with
  | ok r => simp only [Res.bind_ok]; cases eArgs ms ρ <;> rfl
  | exc c pl => rfl
  | stuck => rfl
def andK (x : R) (b : Env → Res R) (ρ : Env) : Res R := match asBl x with
  | some true => b ρ
  | some false => .ok (.val (.bl false))
  | none => .stuck
def orK (x : R) (b : Env → Res R) (ρ : Env) : Res R := match asBl x with
  | some true => .ok (.val (.bl true))
  | some false => b ρ
  | none => .stuck
def iteK (x : R) (a b : Env → Res R) (ρ : Env) : Res R := match asBl x with
  | some true => a ρ
  | some false => b ρ
  | none => .stuck
def notK (x : R) : Res R := match asBl x with
  | some b => .ok (.val (.bl !b))
  | none => .stuck
theorem eAnd_k (a b : Env → Res R) (ρ : Env) : eAnd a b ρ = (a ρ).bind fun x => andK x b ρ := rfl
theorem eOr_k (a b : Env → Res R) (ρ : Env) : eOr a b ρ = (a ρ).bind fun x => orK x b ρ := rfl
theorem eIte_k (c a b : Env → Res R) (ρ : Env) : eIte c a b ρ = (c ρ).bind fun x => iteK x a b ρ := rfl
theorem eNot_k (a : Env → Res R) (ρ : Env) : eNot a ρ = (a ρ).bind notK := rfl
theorem andK_t (b : Env → Res R) (ρ : Env) : andK (.val (.bl true)) b ρ = b ρ := rfl
theorem andK_f (b : Env → Res R) (ρ : Env) : andK (.val (.bl false)) b ρ = .ok (.val (.bl false)) := rfl
theorem orK_t (b : Env → Res R) (ρ : Env) : orK (.val (.bl true)) b ρ = .ok (.val (.bl true)) := rfl
theorem orK_f (b : Env → Res R) (ρ : Env) : orK (.val (.bl false)) b ρ = b ρ := rfl
theorem iteK_t (a b : Env → Res R) (ρ : Env) : iteK (.val (.bl true)) a b ρ = a ρ := rfl
theorem iteK_f (a b : Env → Res R) (ρ : Env) : iteK (.val (.bl false)) a b ρ = b ρ := rfl
theorem notK_b (b : Bool) : notK (.val (.bl b)) = .ok (.val (.bl !b)) := rfl
def crN (r : R) : Option (List D) → CR
  | some ds => .ok r ds
  | none => .stuck
def crX (k : Nat) (pl : List (Str × D)) : Option (List D) → CR
  | some ds => .exc k pl ds
  | none => .stuck
theorem cr_nx (ios : List Nat) (ρ : Env) : (Out.nx ρ).cr ios = crN (.val .non) (pick ρ ios) := by cases h : pick ρ ios <;> simp [Out.cr, crN, h]
theorem cr_rt (ios : List Nat) (r : R) (ρ : Env) : (Out.rt r ρ).cr ios = crN r (pick ρ ios) := by cases h : pick ρ ios <;> simp [Out.cr, crN, h]
theorem cr_ex (ios : List Nat) (c : Nat) (pl : List (Str × D)) (ρ : Env) : (Out.ex c pl ρ).cr ios = crX c pl (pick ρ ios) := by cases h : pick ρ ios <;> simp [Out.cr, crX, h]
theorem crN_s (r : R) (ds : List D) : crN r (some ds) = .ok r ds := rfl
theorem crX_s (k : Nat) (pl : List (Str × D)) (ds : List D) : crX k pl (some ds) = .exc k pl ds := rfl
def pickK : Option (Option R) → Option (List D) → Option (List D)
  | some (some (.own d)), some ds => some (d :: ds)
  | _, _ => none
theorem pick_nil (ρ : Env) : pick ρ [] = some [] := rfl
theorem pick_cons (ρ : Env) (p : Nat) (ps : List Nat) : pick ρ (p :: ps) = pickK ρ[p]? (pick ρ ps) := by
  rw [pick]; unfold pickK; rfl
theorem pickK_s (d : D) (ds : List D) : pickK (some (some (.own d))) (some ds) = some (d :: ds) := rfl
theorem cfin_ok (r : R) (ds : List D) : (CR.ok r ds).fin = .ok r := rfl
theorem cfin_ex (c : Nat) (pl : List (Str × D)) (ds : List D) : (CR.exc c pl ds).fin = .exc c pl := rfl
-- words
theorem denB_nil (g : G) (ρ : Env) : denB g [] ρ = .nx ρ := by rw [denB]
theorem denB_cons (g : G) (m : Sm) (ms : List Sm) (ρ : Env) : denB g (m :: ms) ρ = oK (denS g m ρ) (denB g ms) := by rw [denB, oSeq_k]
theorem dn_var (g : G) (i : Nat) (ρ : Env) : den g (.var i) ρ = (eVar i) ρ := by rw [den]
theorem dn_cst (g : G) (d : D) (ρ : Env) : den g (.cst d) ρ = (fun _ => ofD d) ρ := by rw [den]
theorem dn_glo (g : G) (x : Str) (ρ : Env) : den g (.glo x) ρ = (eGlo g x) ρ := by rw [den]
theorem dn_tup (g : G) (es : List Xp) (ρ : Env) : den g (.tup es) ρ = (eTup (dens g es)) ρ := by rw [den]
theorem dn_lst (g : G) (es : List Xp) (ρ : Env) : den g (.lst es) ρ = (eLst (dens g es)) ρ := by rw [den]
theorem dn_and (g : G) (a b : Xp) (ρ : Env) : den g (.and a b) ρ = (eAnd (den g a) (den g b)) ρ := by rw [den]
theorem dn_or (g : G) (a b : Xp) (ρ : Env) : den g (.or a b) ρ = (eOr (den g a) (den g b)) ρ := by rw [den]
theorem dn_not (g : G) (a : Xp) (ρ : Env) : den g (.not a) ρ = (eNot (den g a)) ρ := by rw [den]
theorem dn_neg (g : G) (a : Xp) (ρ : Env) : den g (.neg a) ρ = (eNeg (den g a)) ρ := by rw [den]
theorem dn_bin (g : G) (op : Operator) (a b : Xp) (ρ : Env) : den g (.bin op a b) ρ = (eBin op (den g a) (den g b)) ρ := by rw [den]
theorem dn_cmp (g : G) (op : CmpOp) (a b : Xp) (ρ : Env) : den g (.cmp op a b) ρ = (eCmp op (den g a) (den g b)) ρ := by rw [den]
theorem dn_chn (g : G) (op op' : CmpOp) (a b c : Xp) (ρ : Env) : den g (.chn op op' a b c) ρ = (eChain op op' (den g a) (den g b) (den g c)) ρ := by rw [den]
theorem dn_ite (g : G) (c a b : Xp) (ρ : Env) : den g (.ite c a b) ρ = (eIte (den g c) (den g a) (den g b)) ρ := by rw [den]
theorem dn_ix (g : G) (a b : Xp) (ρ : Env) : den g (.ix a b) ρ = (eIx (den g a) (den g b)) ρ := by rw [den]
theorem dn_sl (g : G) (a : Xp) (lo hi : List Xp) (ρ : Env) : den g (.sl a lo hi) ρ = (eSl (den g a) (dens g lo).head? (dens g hi).head?) ρ := by rw [den]
theorem dn_blt (g : G) (b : Bt) (es : List Xp) (ρ : Env) : den g (.blt b es) ρ = (eBlt b.fn (dens g es)) ρ := by rw [den]
theorem dn_isi (g : G) (a : Xp) (T : Ty) (ρ : Env) : den g (.isi a T) ρ = (eIsi T.T (den g a)) ρ := by rw [den]
theorem dn_join (g : G) (a b : Xp) (ρ : Env) : den g (.join a b) ρ = (eJoin (den g a) (den g b)) ρ := by rw [den]
theorem dn_get1 (g : G) (a b : Xp) (ρ : Env) : den g (.get1 a b) ρ = (eGet1 (den g a) (den g b)) ρ := by rw [den]
theorem dn_dct0 (g : G) (tk : Bool) (ρ : Env) : den g (.dct0 tk) ρ = .ok (.own (.dct tk [] [])) := by rw [den]; rfl
theorem dn_din (g : G) (n : Bool) (a b : Xp) (ρ : Env) : den g (.din n a b) ρ = (eDin n (den g a) (den g b)) ρ := by rw [den]
theorem dn_get2 (g : G) (a b c : Xp) (ρ : Env) : den g (.get2 a b c) ρ = (eGet2 (den g a) (den g b) (den g c)) ρ := by rw [den]
theorem dn_call (g : G) (f : Nat) (es : List Xp) (dd : List D) (ρ : Env) : den g (.call f es dd) ρ = (eCall (fun rs => g.run f (rs ++ dd.map .val)) (dens g es)) ρ := by rw [den]
theorem dn_rng (g : G) (es : List Xp) (ρ : Env) : den g (.rng es) ρ = (eRngV (dens g es)) ρ := by rw [den]
theorem dn_lc (g : G) (elt : Xp) (t : Tg) (src : Xp) (tt : List Xp) (ρ : Env) : den g (.lc elt t src tt) ρ = (eLc t (eSeq (den g src)) (dens g tt).head? (den g elt)) ρ := by rw [den]
theorem ds_pass (g : G)  (ρ : Env) : denS g (.pass) ρ = .nx ρ := by rw [denS]
theorem ds_brk (g : G)  (ρ : Env) : denS g (.brk) ρ = .bk ρ := by rw [denS]
theorem ds_cnt (g : G)  (ρ : Env) : denS g (.cnt) ρ = .ct ρ := by rw [denS]
theorem ds_drop (g : G) (m : Xp) (ρ : Env) : denS g (.drop m) ρ = sDrop (den g m) ρ := by rw [denS]
theorem ds_ret (g : G) (m : Xp) (ρ : Env) : denS g (.ret m) ρ = sRet (den g m) ρ := by rw [denS]
theorem ds_retN (g : G)  (ρ : Env) : denS g (.retN) ρ = sRetN ρ := by rw [denS]
theorem ds_retV (g : G) (i : Nat) (ρ : Env) : denS g (.retV i) ρ = sRetV i ρ := by rw [denS]
theorem ds_set (g : G) (ow : Bool) (i : Nat) (m : Xp) (ρ : Env) : denS g (.set ow i m) ρ = sSet ow i (den g m) ρ := by rw [denS]
theorem ds_unp (g : G) (t : Tg) (m : Xp) (ρ : Env) : denS g (.unp t m) ρ = sUnp t (den g m) ρ := by rw [denS]
theorem ds_ite (g : G) (c : Xp) (a b : List Sm) (ρ : Env) : denS g (.ite c a b) ρ = sIf (den g c) (denB g a) (denB g b) ρ := by rw [denS]
theorem ds_fore (g : G) (t : Tg) (s : Xp) (b : List Sm) (ρ : Env) : denS g (.fore t s b) ρ = sFor t (eSeqX (den g s)) (denB g b) ρ := by rw [denS]
theorem ds_whl (g : G) (n : Nat) (c : Xp) (b : List Sm) (ρ : Env) : denS g (.whl n c b) ρ = whGo (den g c) (denB g b) n ρ := by rw [denS]
theorem ds_app (g : G) (i : Nat) (m : Xp) (ρ : Env) : denS g (.app i m) ρ = sApp i (den g m) ρ := by rw [denS]
theorem ds_ext (g : G) (i : Nat) (m : Xp) (ρ : Env) : denS g (.ext i m) ρ = sExt i (den g m) ρ := by rw [denS]
theorem ds_dput (g : G) (i : Nat) (a b : Xp) (ρ : Env) : denS g (.dput i a b) ρ = sDput i (den g a) (den g b) ρ := by rw [denS]
theorem ds_clr (g : G) (i : Nat) (ρ : Env) : denS g (.clr i) ρ = sClr i ρ := by rw [denS]
theorem ds_lend (g : G) (i : Nat) (w : Option Dk) (t : Tg) (b : List Sm) (ρ : Env) : denS g (.lend i w t b) ρ = sLendG i w t (denB g b) ρ := by rw [denS]
theorem ds_ford (g : G) (t : Tg) (k : Dk) (s : Xp) (b : List Sm) (ρ : Env) : denS g (.ford t k s b) ρ = sFor t (eDit true k (den g s)) (denB g b) ρ := by rw [denS]; rfl
theorem ds_op (g : G) (o : SOp) (es : List Xp) (ρ : Env) : denS g (.op o es) ρ = sOp g o (dens g es) ρ := by rw [denS]
theorem ds_stk (g : G) (i j : Nat) (s : Xp) (b fin : List Ks) (ρ : Env) : denS g (.stk i j s b fin) ρ = sStk i j (eSeqX (den g s)) (denKs g b) (denKs g fin) ρ := by rw [denS]
theorem dn_op (g : G) (o : Op) (es : List Xp) (ρ : Env) : den g (.op o es) ρ = eOp g o (dens g es) ρ := by rw [den]
theorem dn_lcd (g : G) (elt : Xp) (t : Tg) (k : Dk) (src : Xp) (tt : List Xp) (ρ : Env) : den g (.lcd elt t k src tt) ρ = eLcD t k (den g src) (dens g tt).head? (den g elt) ρ := by rw [den]
theorem ds_callG (g : G) (ret : Rt) (f : Nat) (es : List Xp) (dd : List D) (ms : List Ar) (ρ : Env) : denS g (.callG ret f es dd ms) ρ = sCallG (g.runC f) ret (dens g es) dd (ms ++ List.replicate dd.length .v) ρ := by rw [denS]
theorem ds_raise (g : G) (k : Nat) (ρ : Env) : denS g (.raise k) ρ = .ex k [] ρ := by rw [denS]; rfl
theorem ds_tryM (g : G) (b : List Sm) (js : List Nat) (ss : List (List Sm)) (ρ : Env) : denS g (.tryM b js ss) ρ = sTry g.sub (denB g b) (js.zip (denL g ss)) ρ := by rw [denS]
theorem ds_dpop (g : G) (j : Nat) (m : Xp) (ρ : Env) : denS g (.dpop j m) ρ = sDpop j (den g m) ρ := by rw [denS]
def dpopC (j : Nat) (ρ : Env) (ks ds : List D) (kk : D) : Bool → Out
  | true => .nx (ρ.set j (some (.own (.dct false (dctDelK ks kk) (dctDelV ks ds kk)))))
  | false => .stuck
def dpopB (j : Nat) (ρ : Env) (ks ds : List D) : Option D → Out
  | some kk => dpopC j ρ ks ds kk (ks.any fun x => keq x kk)
  | none => .stuck
def dpopA (j : Nat) (m : Env → Res R) (ρ : Env) : D → Out
  | .dct false ks ds => oB (m ρ) ρ fun rk => dpopB j ρ ks ds (dKey false rk)
  | _ => .stuck
theorem sDpop_k (j : Nat) (m : Env → Res R) (ρ : Env) : sDpop j m ρ = onO j ρ (dpopA j m ρ) := by
  show onO j ρ _ = onO j ρ _
  congr 1
  funext d
  cases d with
  | dct tk ks ds =>
    cases tk with
    | true => rfl
    | false =>
      show oB (m ρ) ρ _ = oB (m ρ) ρ _
      congr 1
      funext rk
      cases dKey false rk with
      | none => rfl
      | some kk =>
        show (if (ks.any fun x => keq x kk) = true then _ else _) = dpopC j ρ ks ds kk (ks.any fun x => keq x kk)
        cases (ks.any fun x => keq x kk) <;> rfl
  | _ => rfl
theorem dpopA_d (j : Nat) (m : Env → Res R) (ρ : Env) (ks ds : List D) : dpopA j m ρ (.dct false ks ds) = oB (m ρ) ρ fun rk => dpopB j ρ ks ds (dKey false rk) := rfl
theorem dpopB_s (j : Nat) (ρ : Env) (ks ds : List D) (kk : D) : dpopB j ρ ks ds (some kk) = dpopC j ρ ks ds kk (ks.any fun x => keq x kk) := rfl
theorem dpopC_t (j : Nat) (ρ : Env) (ks ds : List D) (kk : D) : dpopC j ρ ks ds kk true = .nx (ρ.set j (some (.own (.dct false (dctDelK ks kk) (dctDelV ks ds kk))))) := rfl
theorem ds_raiseF (g : G) (k : Nat) (es : List Xp) (ρ : Env) : denS g (.raiseF k es) ρ = sRaiseL g.lv k (dens g es) ρ := by rw [denS]
theorem gOf_lv (T : List (Nat × Df)) (M : Mn) (n : Nat) : (gOf T M n).lv = n := rfl
theorem raiseL_s (n k : Nat) (ms : List (Env → Res R)) (ρ : Env) : sRaiseL (n + 2) k ms ρ = xiOut k ρ (eArgs ms ρ) := rfl
def xiQ (k : Nat) (ρ : Env) : Option (List D) → Out
  | some ds => (match xiPl ds with
    | some pl => .ex k pl ρ
    | none => .stuck)
  | none => .stuck
theorem xiOut_k (k : Nat) (ρ : Env) (rs : List R) : xiOut k ρ (.ok rs) = xiQ k ρ (frozs rs) := by
  show (match (frozs rs).bind xiPl with | some pl => Out.ex k pl ρ | none => .stuck) = _
  cases frozs rs <;> rfl
theorem xiOut_x (k : Nat) (ρ : Env) (c : Nat) (pl : List (Str × D)) : xiOut k ρ (.exc c pl) = .ex c pl ρ := rfl
theorem xiQ_s (k : Nat) (ρ : Env) (d1 d2 d3 d4 : D) : xiQ k ρ (some [d1, d2, d3, d4]) = .ex k [("found", d4), ("due", d3), ("name", d2), ("part", d1)] ρ := rfl
def tryEK (t : Nat → Nat → Option Bool) (hs : List (Nat × (Env → Out))) (mo : Env → Out) : Out → Out
  | .ex k pl ρ' => catchGo t k pl ρ' hs
  | .nx ρ' => mo ρ'
  | o => o
theorem ds_tryE (g : G) (b : List Sm) (js : List Nat) (ss : List (List Sm)) (o : List Sm) (ρ : Env) : denS g (.tryE b js ss o) ρ = tryEK g.sub (js.zip (denL g ss)) (denB g o) (denB g b ρ) := by rw [denS]; unfold sTryE tryEK; cases denB g b ρ <;> rfl
theorem tE_nx (t : Nat → Nat → Option Bool) (hs : List (Nat × (Env → Out))) (mo : Env → Out) (ρ : Env) : tryEK t hs mo (.nx ρ) = mo ρ := rfl
theorem tE_rt (t : Nat → Nat → Option Bool) (hs : List (Nat × (Env → Out))) (mo : Env → Out) (r : R) (ρ : Env) : tryEK t hs mo (.rt r ρ) = .rt r ρ := rfl
theorem tE_ex (t : Nat → Nat → Option Bool) (hs : List (Nat × (Env → Out))) (mo : Env → Out) (k : Nat) (pl : List (Str × D)) (ρ : Env) : tryEK t hs mo (.ex k pl ρ) = catchGo t k pl ρ hs := rfl
theorem ds_frz (g : G) (i : Nat) (ρ : Env) : denS g (.frz i) ρ = sFrz i ρ := by rw [denS]
-- operations
theorem add_i (i j : Int) : opAdd (.val (.int i)) (.val (.int j)) = .ok (.val (.int (i + j))) := rfl
theorem add_s (a b : Str) : opAdd (.val (.str a)) (.val (.str b)) = if a.length + b.length ≤ LIM then .ok (.val (.str (a ++ b))) else .stuck := rfl
theorem add_l {x y : R} {as bs : List D} (hx : x.d = .lst as) (hy : y.d = .lst bs) (ex : x.exact = true) (ey : y.exact = true) : opAdd x y = if as.length + bs.length ≤ LIM then .ok (.own (.lst (as ++ bs))) else .stuck := by
  unfold opAdd
  simp only [hx, hy, ex, ey, Bool.true_and]
  by_cases h : as.length + bs.length ≤ LIM
  · rw [if_pos h, decide_eq_true h]; rfl
  · rw [if_neg h, decide_eq_false h]; rfl
theorem add_oo (as bs : List D) : opAdd (.own (.lst as)) (.own (.lst bs)) = if as.length + bs.length ≤ LIM then .ok (.own (.lst (as ++ bs))) else .stuck := add_l rfl rfl rfl rfl
theorem add_ov (as bs : List D) : opAdd (.own (.lst as)) (.val (.lst bs)) = if as.length + bs.length ≤ LIM then .ok (.own (.lst (as ++ bs))) else .stuck := add_l rfl rfl rfl rfl
theorem add_vo (as bs : List D) : opAdd (.val (.lst as)) (.own (.lst bs)) = if as.length + bs.length ≤ LIM then .ok (.own (.lst (as ++ bs))) else .stuck := add_l rfl rfl rfl rfl
theorem add_vv (as bs : List D) : opAdd (.val (.lst as)) (.val (.lst bs)) = if as.length + bs.length ≤ LIM then .ok (.own (.lst (as ++ bs))) else .stuck := add_l rfl rfl rfl rfl
theorem sub_i (i j : Int) : opSub (.val (.int i)) (.val (.int j)) = .ok (.val (.int (i - j))) := rfl
theorem mul_i (i j : Int) : opMul (.val (.int i)) (.val (.int j)) = if mulOk i j = true then .ok (.val (.int (i * j))) else .stuck := rfl
theorem mul_s (a : Str) (k : Int) : opMul (.val (.str a)) (.val (.int k)) = if (decide (0 ≤ k) && decide (k ≤ 1000) && decide (a.length ≤ 1000)) = true then .ok (.val (.str (strRep a k))) else .stuck := rfl
theorem mul_o (as : List D) (k : Int) : opMul (.own (.lst as)) (.val (.int k)) = if (decide (0 ≤ k) && decide (k ≤ 1000) && decide (as.length ≤ 1000)) = true then .ok (.own (.lst (List.replicate k.toNat as).flatten)) else .stuck := rfl
theorem div_i (i j : Int) : opDiv (.val (.int i)) (.val (.int j)) = if (decide (0 < j) && decide (j.natAbs.log2 < 9000)) = true then .ok (.val (.int (i / j))) else .stuck := rfl
theorem mod_i (i j : Int) : opMod (.val (.int i)) (.val (.int j)) = if decide (0 < j) = true then .ok (.val (.int (i % j))) else .stuck := rfl
theorem pow_i (i j : Int) : opPow (.val (.int i)) (.val (.int j)) = if (decide (0 ≤ j) && decide (j ≤ 1000000) && decide (i.natAbs < 18446744073709551616)) = true then .ok (.val (.int (i ^ j.toNat))) else .stuck := rfl
theorem div_p (i j : Int) (h0 : 0 < j) (h1 : j < 18446744073709551616) : opDiv (.val (.int i)) (.val (.int j)) = .ok (.val (.int (i / j))) := by
  rw [div_i, if_pos]
  rw [decide_eq_true h0, Bool.true_and]
  have : j.natAbs.log2 < 64 := (Nat.log2_lt (by omega)).mpr (by omega)
  exact decide_eq_true (by omega)
theorem mod_p (i j : Int) (h0 : 0 < j) : opMod (.val (.int i)) (.val (.int j)) = .ok (.val (.int (i % j))) := by
  rw [mod_i, if_pos (decide_eq_true h0)]
theorem mul_r (i j : Int) (h0 : -18446744073709551616 < j) (h1 : j < 18446744073709551616) : opMul (.val (.int i)) (.val (.int j)) = .ok (.val (.int (i * j))) := by
  rw [mul_i, if_pos (mulOk_r (by omega))]
theorem mul_l (i j : Int) (h0 : -18446744073709551616 < i) (h1 : i < 18446744073709551616) : opMul (.val (.int i)) (.val (.int j)) = .ok (.val (.int (i * j))) := by
  rw [mul_i, if_pos (mulOk_l (by omega))]
theorem pow_p (i j : Int) (h0 : 0 ≤ j) (h1 : j ≤ 1000000) (h2 : -18446744073709551616 < i) (h3 : i < 18446744073709551616) : opPow (.val (.int i)) (.val (.int j)) = .ok (.val (.int (i ^ j.toNat))) := by
  rw [pow_i, if_pos]
  rw [decide_eq_true h0, decide_eq_true h1, Bool.true_and, Bool.true_and]
  exact decide_eq_true (by omega)
theorem neg_i (i : Int) : opNeg (.val (.int i)) = .ok (.val (.int (-i))) := rfl
theorem bin_add : opBin .Add = opAdd := rfl
theorem bin_sub : opBin .Sub = opSub := rfl
theorem bin_mul : opBin .Mult = opMul := rfl
theorem bin_div : opBin .FloorDiv = opDiv := rfl
theorem bin_mod : opBin .Mod = opMod := rfl
theorem bin_pow : opBin .Pow = opPow := rfl
-- comparisons
theorem c_eq : opCmp .Eq = cpEq := rfl
theorem c_ne : opCmp .NotEq = cpNe := rfl
theorem c_lt : opCmp .Lt = cpLt := rfl
theorem c_le : opCmp .LtE = cpLe := rfl
theorem c_gt : opCmp .Gt = cpGt := rfl
theorem c_ge : opCmp .GtE = cpGe := rfl
theorem c_is : opCmp .Is = cpIs := rfl
theorem c_in : opCmp .In = cpIn := rfl
theorem c_nin : opCmp .NotIn = cpNin := rfl
theorem eq_ii (i j : Int) : cpEq (.val (.int i)) (.val (.int j)) = .ok (.val (.bl (i == j))) := rfl
theorem eq_ss (i j : Str) : cpEq (.val (.str i)) (.val (.str j)) = .ok (.val (.bl (i == j))) := rfl
theorem eq_bb (i j : Bool) : cpEq (.val (.bl i)) (.val (.bl j)) = .ok (.val (.bl (i == j))) := rfl
theorem ne_ii (i j : Int) : cpNe (.val (.int i)) (.val (.int j)) = .ok (.val (.bl !(i == j))) := rfl
theorem ne_ss (i j : Str) : cpNe (.val (.str i)) (.val (.str j)) = .ok (.val (.bl !(i == j))) := rfl
theorem ne_bb (i j : Bool) : cpNe (.val (.bl i)) (.val (.bl j)) = .ok (.val (.bl !(i == j))) := rfl
theorem lt_ii (i j : Int) : cpLt (.val (.int i)) (.val (.int j)) = .ok (.val (.bl (decide (i < j)))) := rfl
theorem le_ii (i j : Int) : cpLe (.val (.int i)) (.val (.int j)) = .ok (.val (.bl (decide (i ≤ j)))) := rfl
theorem gt_ii (i j : Int) : cpGt (.val (.int i)) (.val (.int j)) = .ok (.val (.bl (decide (j < i)))) := rfl
theorem ge_ii (i j : Int) : cpGe (.val (.int i)) (.val (.int j)) = .ok (.val (.bl (decide (j ≤ i)))) := rfl
theorem in_ss (i j : Str) : cpIn (.val (.str i)) (.val (.str j)) = .ok (.val (.bl (strIn i j))) := rfl
theorem nin_ss (i j : Str) : cpNin (.val (.str i)) (.val (.str j)) = .ok (.val (.bl !strIn i j)) := rfl
-- parts
def optR {α : Type} (o : Option α) (f : α → R) : Res R := match o with
  | some d => .ok (f d)
  | none => .stuck
theorem optR_some {α : Type} (d : α) (f : α → R) : optR (some d) f = .ok (f d) := rfl
theorem ix_l {x : R} {ds : List D} (i : Int) (h : x.d = .lst ds) : opIx x (.val (.int i)) = optR (atI ds i) .val := by
  unfold opIx; rw [h]; cases h2 : atI ds i <;> simp [optR, h2]
theorem ix_lv (ds : List D) (i : Int) : opIx (.val (.lst ds)) (.val (.int i)) = optR (atI ds i) .val := ix_l i rfl
theorem ix_lo (ds : List D) (i : Int) : opIx (.own (.lst ds)) (.val (.int i)) = optR (atI ds i) .val := ix_l i rfl
theorem ix_lb (ds : List D) (i : Int) : opIx (.bor (.lst ds)) (.val (.int i)) = optR (atI ds i) .val := ix_l i rfl
theorem ix_tv (ds : List D) (i : Int) : opIx (.val (.tup ds)) (.val (.int i)) = optR (atI ds i) .val := by cases h2 : atI ds i <;> simp [opIx, optR, h2]
theorem ix_tb (ds : List D) (i : Int) : opIx (.bor (.tup ds)) (.val (.int i)) = optR (atI ds i) .val := by cases h2 : atI ds i <;> simp [opIx, optR, h2]
theorem ix_s (z : Str) (i : Int) : opIx (.val (.str z)) (.val (.int i)) = if z.length ≤ LIM then optR (atI z.cps.toList i) (fun c => .val (.str ⟨#[c]⟩)) else .stuck := by cases h2 : atI z.cps.toList i <;> simp [opIx, optR, h2]
theorem sl_s (z : Str) (lo hi : Option Int) : opSl (.val (.str z)) lo hi = if z.length ≤ LIM then .ok (.val (.str (cutS z lo hi))) else .stuck := rfl
theorem sl_lv (ds : List D) (lo hi : Option Int) : opSl (.val (.lst ds)) lo hi = .ok (.own (.lst (cutL ds lo hi))) := rfl
theorem sl_lo (ds : List D) (lo hi : Option Int) : opSl (.own (.lst ds)) lo hi = .ok (.own (.lst (cutL ds lo hi))) := rfl
theorem sl_lb (ds : List D) (lo hi : Option Int) : opSl (.bor (.lst ds)) lo hi = .ok (.own (.lst (cutL ds lo hi))) := rfl
theorem sl_tv (ds : List D) (lo hi : Option Int) : opSl (.val (.tup ds)) lo hi = .ok (.val (.tup (cutL ds lo hi))) := rfl
def pK (r : R) : Res (Option Int) := match r.d with
  | .int i => .ok (some i)
  | _ => .stuck
theorem part_none (ρ : Env) : ePart none ρ = .ok none := rfl
theorem part_some (m : Env → Res R) (ρ : Env) : ePart (some m) ρ = (m ρ).bind pK := by
  rw [ePart]
  cases m ρ with
  | ok r => rfl
  | exc c pl => rfl
  | stuck => rfl
theorem pK_i (i : Int) : pK (.val (.int i)) = .ok (some i) := rfl
theorem eSl_k (a : Env → Res R) (lo hi : Option (Env → Res R)) (ρ : Env) : eSl a lo hi ρ = (a ρ).bind fun x => (ePart lo ρ).bind fun l => (ePart hi ρ).bind fun u => opSl x l u := by
  unfold eSl Res.bind
  cases a ρ with
  | ok x => simp only; cases ePart lo ρ with
    | ok l => simp only; cases ePart hi ρ <;> rfl
    | exc c pl => rfl
    | stuck => rfl
  | exc c pl => rfl
  | stuck => rfl
-- built-ins
theorem len_s (z : Str) : bLen [.val (.str z)] = if z.length ≤ LIM then .ok (.val (.int (z.length : Int))) else .stuck := rfl
theorem len_lv (ds : List D) : bLen [.val (.lst ds)] = .ok (.val (.int (ds.length : Int))) := rfl
theorem len_lo (ds : List D) : bLen [.own (.lst ds)] = .ok (.val (.int (ds.length : Int))) := rfl
theorem len_lb (ds : List D) : bLen [.bor (.lst ds)] = .ok (.val (.int (ds.length : Int))) := rfl
theorem len_tv (ds : List D) : bLen [.val (.tup ds)] = .ok (.val (.int (ds.length : Int))) := rfl
theorem len_tb (ds : List D) : bLen [.bor (.tup ds)] = .ok (.val (.int (ds.length : Int))) := rfl
theorem str_i (i : Int) : bStr [.val (.int i)] = if (decide (0 ≤ i) && decide (i.natAbs.log2 < 1900)) = true then .ok (.val (.str (numS i.toNat))) else .stuck := rfl
theorem str_p (i : Int) (h0 : 0 ≤ i) (h1 : i < 1000000000000000000000000000000) : bStr [.val (.int i)] = .ok (.val (.str (numS i.toNat))) := by
  rw [str_i, if_pos]
  rw [decide_eq_true h0, Bool.true_and]
  refine decide_eq_true ?_
  by_cases h : i.natAbs = 0
  · rw [h]; decide
  · have : i.natAbs.log2 < 100 := (Nat.log2_lt h).mpr (by omega)
    omega
theorem int_i (i : Int) : bInt [.val (.int i)] = .ok (.val (.int i)) := rfl
theorem int_b (b : Bool) : bInt [.val (.bl b)] = .ok (.val (.int (if b then 1 else 0))) := rfl
theorem list_lv (ds : List D) : bList [.val (.lst ds)] = .ok (.own (.lst ds)) := rfl
theorem list_lo (ds : List D) : bList [.own (.lst ds)] = .ok (.own (.lst ds)) := rfl
theorem list_lb (ds : List D) : bList [.bor (.lst ds)] = .ok (.own (.lst ds)) := rfl
theorem list_tv (ds : List D) : bList [.val (.tup ds)] = .ok (.own (.lst ds)) := rfl
theorem tuple_lv (ds : List D) : bTuple [.val (.lst ds)] = .ok (.val (.tup ds)) := rfl
theorem tuple_lo (ds : List D) : bTuple [.own (.lst ds)] = .ok (.val (.tup ds)) := rfl
theorem tuple_lb (ds : List D) : bTuple [.bor (.lst ds)] = .ok (.val (.tup ds)) := rfl
theorem tuple_tv (ds : List D) : bTuple [.val (.tup ds)] = .ok (.val (.tup ds)) := rfl
theorem all_o (ds : List D) : bAll [.own (.lst ds)] = optR (bls ds) fun bs => .val (.bl (bs.all id)) := by cases h2 : bls ds <;> simp [bAll, optR, h2]
theorem any_o (ds : List D) : bAny [.own (.lst ds)] = optR (bls ds) fun bs => .val (.bl (bs.any id)) := by cases h2 : bls ds <;> simp [bAny, optR, h2]
theorem sum_o (ds : List D) : bSum [.own (.lst ds)] = optR (ints' ds) fun bs => .val (.int bs.sum) := by cases h2 : ints' ds <;> simp [bSum, optR, h2]
theorem min_i (i j : Int) : bMin [.val (.int i), .val (.int j)] = .ok (.val (.int (if j < i then j else i))) := rfl
theorem max_i (i j : Int) : bMaxA [.val (.int i), .val (.int j)] = .ok (.val (.int (if j > i then j else i))) := rfl
theorem eBlt_k (f : List R → Res R) (ms : List (Env → Res R)) (ρ : Env) : eBlt f ms ρ = (eArgs ms ρ).bind f := rfl
def isiK (T : String) (r : R) : Res R := optR (isT T r.d) fun b => .val (.bl b)
theorem eIsi_k (T : String) (m : Env → Res R) (ρ : Env) : eIsi T m ρ = (m ρ).bind (isiK T) := by
  unfold eIsi
  congr 1
  funext r
  unfold isiK optR
  cases isT T r.d <;> rfl
theorem isi_bb (b : Bool) : isiK "bool" (.val (.bl b)) = .ok (.val (.bl true)) := rfl
theorem isi_ii (b : Int) : isiK "int" (.val (.int b)) = .ok (.val (.bl true)) := rfl
theorem isi_bi (b : Int) : isiK "bool" (.val (.int b)) = .ok (.val (.bl false)) := rfl
theorem isi_ss (b : Str) : isiK "str" (.val (.str b)) = .ok (.val (.bl true)) := rfl
theorem isi_st (b : List D) : isiK "str" (.val (.tup b)) = .ok (.val (.bl false)) := rfl
theorem isi_tt (b : List D) : isiK "tuple" (.val (.tup b)) = .ok (.val (.bl true)) := rfl
theorem isi_ts (b : Str) : isiK "tuple" (.val (.str b)) = .ok (.val (.bl false)) := rfl
theorem isi_it (b : List D) : isiK "int" (.val (.tup b)) = .ok (.val (.bl false)) := rfl
theorem isi_ti (b : Int) : isiK "tuple" (.val (.int b)) = .ok (.val (.bl false)) := rfl
theorem isi_si (b : Int) : isiK "str" (.val (.int b)) = .ok (.val (.bl false)) := rfl
theorem isi_ll (b : List D) : isiK "list" (.val (.lst b)) = .ok (.val (.bl true)) := rfl
theorem isi_lb (b : List D) : isiK "list" (.bor (.lst b)) = .ok (.val (.bl true)) := rfl
theorem isi_lo (b : List D) : isiK "list" (.own (.lst b)) = .ok (.val (.bl true)) := rfl
theorem eCall_k (f : List R → Res R) (ms : List (Env → Res R)) (ρ : Env) : eCall f ms ρ = (eArgs ms ρ).bind fun rs => f (rs.map R.arg) := rfl
theorem arg_v (d : D) : R.arg (.val d) = .val d := rfl
theorem arg_o (d : D) : R.arg (.own d) = .val d := rfl
theorem arg_b (d : D) : R.arg (.bor d) = .bor d := rfl
theorem froz_v (d : D) : R.froz (.val d) = some d := rfl
theorem froz_o (d : D) : R.froz (.own d) = some d := rfl
-- storing
theorem oBs_k (x : List R) (ρ : Env) (f : List R → Out) : oBs (.ok x) ρ f = f x := rfl
def gK4 (ret : Rt) (r : R) : Option Env → Out
  | some ρ' => retK ret r ρ'
  | none => .stuck
def gK5 (k : Nat) (pl : List (Str × D)) : Option Env → Out
  | some ρ' => .ex k pl ρ'
  | none => .stuck
def gK3 (ret : Rt) (ms : List Ar) (ρ : Env) : CR → Out
  | .ok r ds => gK4 ret r (backM ms ds ρ)
  | .exc k pl ds => gK5 k pl (backM ms ds ρ)
  | .stuck => .stuck
def gK2 (run : List R → CR) (ret : Rt) (ms : List Ar) (ρ : Env) : Option (List R) → Out
  | some rs => gK3 ret ms ρ (run rs)
  | none => .stuck
theorem sCallG_k (run : List R → CR) (ret : Rt) (es : List (Env → Res R)) (dd : List D) (ms : List Ar) (ρ : Env) : sCallG run ret es dd ms ρ = oBs (eArgs es ρ) ρ fun rs => gK2 run ret ms ρ (argM ρ ms (rs ++ dd.map .val)) := by
  unfold sCallG
  congr 1
theorem gK2_s (run : List R → CR) (ret : Rt) (ms : List Ar) (ρ : Env) (rs : List R) : gK2 run ret ms ρ (some rs) = gK3 ret ms ρ (run rs) := rfl
theorem gK3_ok (ret : Rt) (ms : List Ar) (ρ : Env) (r : R) (ds : List D) : gK3 ret ms ρ (.ok r ds) = gK4 ret r (backM ms ds ρ) := rfl
theorem gK3_ex (ret : Rt) (ms : List Ar) (ρ : Env) (k : Nat) (pl : List (Str × D)) (ds : List D) : gK3 ret ms ρ (.exc k pl ds) = gK5 k pl (backM ms ds ρ) := rfl
theorem gK4_n (r : R) (ρ : Env) : gK4 .no r (some ρ) = .nx ρ := rfl
theorem gK4_t (r : R) (i : Nat) (ρ : Env) : gK4 (.to i) r (some ρ) = setR false i r ρ := rfl
theorem gK4_b (r : R) (ρ : Env) : gK4 .back r (some ρ) = .rt r ρ := rfl
theorem gK5_s (k : Nat) (pl : List (Str × D)) (ρ : Env) : gK5 k pl (some ρ) = .ex k pl ρ := rfl
def consO : Option R → Option (List R) → Option (List R)
  | some x, some ys => some (x :: ys)
  | _, _ => none
theorem argM_nil (ρ : Env) : argM ρ [] [] = some [] := rfl
theorem argM_cons (ρ : Env) (m : Ar) (ms : List Ar) (r : R) (rs : List R) : argM ρ (m :: ms) (r :: rs) = consO (arg1 ρ r m) (argM ρ ms rs) := by
  rw [argM]; unfold consO; rfl
theorem consO_s (x : R) (ys : List R) : consO (some x) (some ys) = some (x :: ys) := rfl
def ioA : Option (Option R) → Option R
  | some (some (.own d)) => some (.own d)
  | _ => none
def leA : Option (Option R) → Option R
  | some (some r) => some (lentR r)
  | _ => none
theorem arg1_v (ρ : Env) (d : D) : arg1 ρ (.val d) .v = some (.val d) := rfl
theorem arg1_o (ρ : Env) (d : D) : arg1 ρ (.own d) .v = some (.val d) := rfl
theorem arg1_io (ρ : Env) (r : R) (j : Nat) : arg1 ρ r (.io j) = ioA ρ[j]? := by unfold arg1 ioA; rfl
theorem arg1_le (ρ : Env) (r : R) (j : Nat) : arg1 ρ r (.le j) = leA ρ[j]? := by unfold arg1 leA; rfl
theorem ioA_s (d : D) : ioA (some (some (.own d))) = some (.own d) := rfl
theorem leA_s (r : R) : leA (some (some r)) = some (lentR r) := rfl
theorem lentR_o (d : D) : lentR (.own d) = .bor d := rfl
theorem lentR_v (d : D) : lentR (.val d) = .val d := rfl
theorem lentR_b (d : D) : lentR (.bor d) = .bor d := rfl
theorem backM_nil (ρ : Env) : backM [] [] ρ = some ρ := rfl
theorem backM_io (j : Nat) (ms : List Ar) (d : D) (ds : List D) (ρ : Env) : backM (.io j :: ms) (d :: ds) ρ = backM ms ds (ρ.set j (some (.own d))) := rfl
theorem backM_v (ms : List Ar) (ds : List D) (ρ : Env) : backM (.v :: ms) ds ρ = backM ms ds ρ := by rw [backM]
theorem backM_le (j : Nat) (ms : List Ar) (ds : List D) (ρ : Env) : backM (.le j :: ms) ds ρ = backM ms ds ρ := by rw [backM]
def tryK (t : Nat → Nat → Option Bool) (hs : List (Nat × (Env → Out))) (o : Out) : Out := match o with
  | .ex k pl ρ' => catchGo t k pl ρ' hs
  | o => o
theorem sTry_k (t : Nat → Nat → Option Bool) (mb : Env → Out) (hs : List (Nat × (Env → Out))) (ρ : Env) : sTry t mb hs ρ = tryK t hs (mb ρ) := by
  unfold sTry tryK
  cases mb ρ <;> rfl
theorem tK_nx (t : Nat → Nat → Option Bool) (hs : List (Nat × (Env → Out))) (ρ : Env) : tryK t hs (.nx ρ) = .nx ρ := rfl
theorem tK_rt (t : Nat → Nat → Option Bool) (hs : List (Nat × (Env → Out))) (r : R) (ρ : Env) : tryK t hs (.rt r ρ) = .rt r ρ := rfl
theorem tK_bk (t : Nat → Nat → Option Bool) (hs : List (Nat × (Env → Out))) (ρ : Env) : tryK t hs (.bk ρ) = .bk ρ := rfl
theorem tK_ct (t : Nat → Nat → Option Bool) (hs : List (Nat × (Env → Out))) (ρ : Env) : tryK t hs (.ct ρ) = .ct ρ := rfl
theorem tK_ex (t : Nat → Nat → Option Bool) (hs : List (Nat × (Env → Out))) (k : Nat) (pl : List (Str × D)) (ρ : Env) : tryK t hs (.ex k pl ρ) = catchGo t k pl ρ hs := rfl
def caK (t : Nat → Nat → Option Bool) (k : Nat) (pl : List (Str × D)) (ρ : Env) (ms : Env → Out) (r : List (Nat × (Env → Out))) (b : Option Bool) : Out := match b with
  | some true => (match ms ρ with
    | .ex _ _ _ => .stuck
    | o => o)
  | some false => catchGo t k pl ρ r
  | none => .stuck
theorem catch_nil (t : Nat → Nat → Option Bool) (k : Nat) (pl : List (Str × D)) (ρ : Env) : catchGo t k pl ρ [] = .ex k pl ρ := by rw [catchGo]
theorem catch_cons (t : Nat → Nat → Option Bool) (k : Nat) (pl : List (Str × D)) (ρ : Env) (j : Nat) (ms : Env → Out) (r : List (Nat × (Env → Out))) : catchGo t k pl ρ ((j, ms) :: r) = caK t k pl ρ ms r (t k j) := by
  rw [catchGo]
  rfl
def noX (o : Out) : Out := match o with
  | .ex _ _ _ => .stuck
  | o => o
theorem caK_t (t : Nat → Nat → Option Bool) (k : Nat) (pl : List (Str × D)) (ρ : Env) (ms : Env → Out) (r : List (Nat × (Env → Out))) : caK t k pl ρ ms r (some true) = noX (ms ρ) := rfl
theorem caK_f (t : Nat → Nat → Option Bool) (k : Nat) (pl : List (Str × D)) (ρ : Env) (ms : Env → Out) (r : List (Nat × (Env → Out))) : caK t k pl ρ ms r (some false) = catchGo t k pl ρ r := rfl
theorem noX_nx (ρ : Env) : noX (.nx ρ) = .nx ρ := rfl
theorem noX_rt (r : R) (ρ : Env) : noX (.rt r ρ) = .rt r ρ := rfl
theorem noX_bk (ρ : Env) : noX (.bk ρ) = .bk ρ := rfl
theorem noX_ct (ρ : Env) : noX (.ct ρ) = .ct ρ := rfl
theorem setR_f (i : Nat) (d : D) (ρ : Env) : setR false i (.val d) ρ = .nx (ρ.set i (some (.val d))) := rfl
theorem setR_fo (i : Nat) (d : D) (ρ : Env) : setR false i (.own d) ρ = .nx (ρ.set i (some (.val d))) := rfl
theorem setR_t (i : Nat) (d : D) (ρ : Env) : setR true i (.own d) ρ = if i < ρ.length then .nx (ρ.set i (some (.own d))) else .stuck := rfl
def appK (i : Nat) (ds : List D) (ρ : Env) (r : R) : Out := match r.froz with
  | some d => if ds.length < LIM then .nx (ρ.set i (some (.own (.lst (ds ++ [d]))))) else .stuck
  | _ => .stuck
theorem sApp_k (i : Nat) (m : Env → Res R) (ρ : Env) : sApp i m ρ = onL i ρ fun ds => oB (m ρ) ρ (appK i ds ρ) := rfl
theorem appK_v (i : Nat) (ds : List D) (ρ : Env) (d : D) : appK i ds ρ (.val d) = if ds.length < LIM then .nx (ρ.set i (some (.own (.lst (ds ++ [d]))))) else .stuck := rfl
theorem appK_o (i : Nat) (ds : List D) (ρ : Env) (d : D) : appK i ds ρ (.own d) = if ds.length < LIM then .nx (ρ.set i (some (.own (.lst (ds ++ [d]))))) else .stuck := rfl
def extK (i : Nat) (ds : List D) (ρ : Env) (r : R) : Out := match r.froz with
  | some (.lst es) => if ds.length + es.length ≤ LIM then .nx (ρ.set i (some (.own (.lst (ds ++ es))))) else .stuck
  | _ => .stuck
theorem sExt_k (i : Nat) (m : Env → Res R) (ρ : Env) : sExt i m ρ = onL i ρ fun ds => oB (m ρ) ρ (extK i ds ρ) := rfl
theorem extK_v (i : Nat) (ds : List D) (ρ : Env) (es : List D) : extK i ds ρ (.val (.lst es)) = if ds.length + es.length ≤ LIM then .nx (ρ.set i (some (.own (.lst (ds ++ es))))) else .stuck := rfl
theorem extK_o (i : Nat) (ds : List D) (ρ : Env) (es : List D) : extK i ds ρ (.own (.lst es)) = if ds.length + es.length ≤ LIM then .nx (ρ.set i (some (.own (.lst (ds ++ es))))) else .stuck := rfl
def unpK (t : Tg) (ρ : Env) (r : R) : Out := match r.froz with
  | some d => (match bindD t d ρ with
    | some ρ1 => .nx ρ1
    | none => .stuck)
  | none => .stuck
theorem sUnp_k (t : Tg) (m : Env → Res R) (ρ : Env) : sUnp t m ρ = oB (m ρ) ρ (unpK t ρ) := rfl
theorem unpK_v (is : List Nat) (ds : List D) (ρ : Env) : unpK (.many is) ρ (.val (.tup ds)) = if ds.length = is.length then .nx (setAll ρ is (vals ds)) else .stuck := by
  unfold unpK bindD
  simp only [R.froz]
  by_cases h : ds.length = is.length
  · rw [if_pos h, if_pos h]
  · rw [if_neg h, if_neg h]
-- what is walked
def forK (t : Tg) (mb : Env → Out) (ρ : Env) (x : Res (List D)) : Out := match x with
  | .ok ds => forGo t mb ds ρ
  | .exc k pl => .ex k pl ρ
  | .stuck => .stuck
theorem sFor_k (t : Tg) (src : Env → Res (List D)) (mb : Env → Out) (ρ : Env) : sFor t src mb ρ = forK t mb ρ (src ρ) := by
  unfold sFor forK
  cases src ρ <;> rfl
theorem forK_ok (t : Tg) (mb : Env → Out) (ρ : Env) (ds : List D) : forK t mb ρ (.ok ds) = forGo t mb ds ρ := rfl
def itemsX (r : R) : Res (List D) := if r.exact then itemsD r else .stuck
theorem eSeqX_k (m : Env → Res R) (ρ : Env) : eSeqX m ρ = (m ρ).bind itemsX := by
  unfold eSeqX toRes Res.bind itemsX
  cases m ρ <;> rfl
theorem eSeq_k (m : Env → Res R) (ρ : Env) : eSeq m ρ = (m ρ).bind itemsD := by
  unfold eSeq toRes Res.bind
  cases m ρ <;> rfl
theorem it_lv (ds : List D) : itemsX (.val (.lst ds)) = .ok ds := rfl
theorem it_lo (ds : List D) : itemsX (.own (.lst ds)) = .ok ds := rfl
theorem it_tv (ds : List D) : itemsX (.val (.tup ds)) = .ok ds := rfl
theorem it_s (z : Str) : itemsX (.val (.str z)) = if z.length ≤ LIM then .ok (signs z) else .stuck := rfl
theorem id_lv (ds : List D) : itemsD (.val (.lst ds)) = .ok ds := rfl
theorem id_lo (ds : List D) : itemsD (.own (.lst ds)) = .ok ds := rfl
theorem id_lb (ds : List D) : itemsD (.bor (.lst ds)) = .ok ds := rfl
theorem id_tv (ds : List D) : itemsD (.val (.tup ds)) = .ok ds := rfl
theorem id_tb (ds : List D) : itemsD (.bor (.tup ds)) = .ok ds := rfl
theorem id_s (z : Str) : itemsD (.val (.str z)) = if z.length ≤ LIM then .ok (signs z) else .stuck := rfl
def rngK : List R → Res R
  | [r] => (rng1 r).bind fun ds => .ok (.val (.lst ds))
  | [r, r'] => (rng2 r r').bind fun ds => .ok (.val (.lst ds))
  | _ => .stuck
theorem eRngV_k (ms : List (Env → Res R)) (ρ : Env) : eRngV ms ρ = (eArgs ms ρ).bind rngK := by
  unfold eRngV eRng Res.bind rngK
  cases h : eArgs ms ρ with
  | ok rs =>
    simp only
    match rs with
    | [] => rfl
    | [r] => simp only; unfold Res.bind; cases rng1 r <;> rfl
    | [r, r'] => simp only; unfold Res.bind; cases rng2 r r' <;> rfl
    | _ :: _ :: _ :: _ => rfl
  | exc c pl => rfl
  | stuck => rfl
theorem rng_1 (n : Int) : rngK [.val (.int n)] = if (decide (n ≤ 1000000) && decide (-1000000 ≤ n)) = true then .ok (.val (.lst (rngD 0 n.toNat))) else .stuck := by
  unfold rngK rng1
  simp only [R.d]
  by_cases h : (decide (n ≤ 1000000) && decide (-1000000 ≤ n)) = true
  · rw [if_pos h, if_pos h]; rfl
  · rw [if_neg h, if_neg h]; rfl
theorem rng_2 (i j : Int) : rngK [.val (.int i), .val (.int j)] = if (decide (i ≤ 1000000) && decide (-1000000 ≤ i) && decide (j ≤ 1000000) && decide (-1000000 ≤ j)) = true then .ok (.val (.lst (rngD i (j - i).toNat))) else .stuck := by
  unfold rngK rng2
  simp only [R.d]
  by_cases h : (decide (i ≤ 1000000) && decide (-1000000 ≤ i) && decide (j ≤ 1000000) && decide (-1000000 ≤ j)) = true
  · rw [if_pos h, if_pos h]; rfl
  · rw [if_neg h, if_neg h]; rfl
def lcK (x : Res (List D)) : Res R := match x with
  | .ok acc => .ok (.own (.lst acc))
  | .exc k pl => .exc k pl
  | .stuck => .stuck
def lcKd (x : Res (List D)) : Res R := match x with
  | .ok acc => .ok (.own (.lst acc))
  | _ => .stuck
theorem eLc_k (t : Tg) (src : Env → Res (List D)) (tt : Option (Env → Res R)) (elt : Env → Res R) (ρ : Env) : eLc t src tt elt ρ = (src ρ).bind fun ds => lcK (lcGo (fun d => bindD t d (wipeE ρ t.slots)) tt elt ds []) := by
  unfold eLc Res.bind lcK
  cases src ρ <;> rfl
theorem lcKd_ok (acc : List D) : lcKd (.ok acc) = .ok (.own (.lst acc)) := rfl
theorem lcK_x (k : Nat) (pl : List (Str × D)) : lcK (.exc k pl) = .exc k pl := rfl
theorem lcK_ok (acc : List D) : lcK (.ok acc) = .ok (.own (.lst acc)) := rfl
def tupK (o : Option (List D)) : Res R := match o with
  | some ds => if ds.length ≤ LIM then .ok (.val (.tup ds)) else .stuck
  | none => .stuck
def lstK (o : Option (List D)) : Res R := match o with
  | some ds => if ds.length ≤ LIM then .ok (.own (.lst ds)) else .stuck
  | none => .stuck
theorem eTup_k (ms : List (Env → Res R)) (ρ : Env) : eTup ms ρ = (eArgs ms ρ).bind fun rs => tupK (frozs rs) := rfl
theorem eLst_k (ms : List (Env → Res R)) (ρ : Env) : eLst ms ρ = (eArgs ms ρ).bind fun rs => lstK (frozs rs) := rfl
theorem tupK_s (ds : List D) : tupK (some ds) = if ds.length ≤ LIM then .ok (.val (.tup ds)) else .stuck := rfl
theorem lstK_s (ds : List D) : lstK (some ds) = if ds.length ≤ LIM then .ok (.own (.lst ds)) else .stuck := rfl
def froK (o : Option D) (p : Option (List D)) : Option (List D) := match o, p with
  | some d, some ds => some (d :: ds)
  | _, _ => none
theorem frozs_nil : frozs [] = some [] := rfl
theorem frozs_cons (r : R) (rs : List R) : frozs (r :: rs) = froK r.froz (frozs rs) := by
  rw [frozs]
  rfl
theorem froK_s (d : D) (ds : List D) : froK (some d) (some ds) = some (d :: ds) := rfl
def joinK (a : Str) (o : Option (List Str)) : Res R := match o with
  | some ys => if (ys.map (·.length)).sum + ys.length * a.length ≤ LIM then .ok (.val (.str (Str.join a ys))) else .stuck
  | none => .stuck
theorem joinK_s (a : Str) (ys : List Str) : joinK a (some ys) = if (ys.map (·.length)).sum + ys.length * a.length ≤ LIM then .ok (.val (.str (Str.join a ys))) else .stuck := rfl
theorem join_o (a : Str) (ds : List D) : mJoin (.val (.str a)) (.own (.lst ds)) = joinK a (stsL ds) := by cases h2 : stsL ds <;> simp [mJoin, joinK, h2]
def joinX (m : Env → Res R) (ρ : Env) (x : R) : Res R := match x.d with
  | .str a => (m ρ).bind fun y => mJoin x y
  | _ => .stuck
theorem eJoin_k (mo m : Env → Res R) (ρ : Env) : eJoin mo m ρ = (mo ρ).bind (joinX m ρ) := rfl
theorem joinX_s (m : Env → Res R) (ρ : Env) (a : Str) : joinX m ρ (.val (.str a)) = (m ρ).bind fun y => mJoin (.val (.str a)) y := rfl
theorem lim_small {n : Nat} (h : n ≤ 1000) : n ≤ LIM := Nat.le_trans h (by decide)
def whN (mc : Env → Res R) (mb : Env → Out) (n : Nat) (o : Out) : Out := match o with
  | .nx ρ2 => whGo mc mb n ρ2
  | .ct ρ2 => whGo mc mb n ρ2
  | .bk ρ2 => .nx ρ2
  | o => o
def whK (mc : Env → Res R) (mb : Env → Out) (n : Nat) (ρ : Env) (r : R) : Out := match asBl r with
  | some true => whN mc mb n (mb ρ)
  | some false => .nx ρ
  | none => .stuck
theorem whK_t (mc : Env → Res R) (mb : Env → Out) (n : Nat) (ρ : Env) : whK mc mb n ρ (.val (.bl true)) = whN mc mb n (mb ρ) := rfl
theorem whK_f (mc : Env → Res R) (mb : Env → Out) (n : Nat) (ρ : Env) : whK mc mb n ρ (.val (.bl false)) = .nx ρ := rfl
theorem whN_nx (mc : Env → Res R) (mb : Env → Out) (n : Nat) (ρ : Env) : whN mc mb n (.nx ρ) = whGo mc mb n ρ := rfl
theorem whN_ct (mc : Env → Res R) (mb : Env → Out) (n : Nat) (ρ : Env) : whN mc mb n (.ct ρ) = whGo mc mb n ρ := rfl
theorem whN_bk (mc : Env → Res R) (mb : Env → Out) (n : Nat) (ρ : Env) : whN mc mb n (.bk ρ) = .nx ρ := rfl
theorem whN_rt (mc : Env → Res R) (mb : Env → Out) (n : Nat) (r : R) (ρ : Env) : whN mc mb n (.rt r ρ) = .rt r ρ := rfl
theorem whN_ex (mc : Env → Res R) (mb : Env → Out) (n c : Nat) (pl : List (Str × D)) (ρ : Env) : whN mc mb n (.ex c pl ρ) = .ex c pl ρ := rfl
-- dicts
theorem dk_s (s : Str) : dKey false (.val (.str s)) = some (.str s) := rfl
theorem dk_i (i : Int) : dKey false (.val (.int i)) = some (.int i) := rfl
theorem dk_t0 : dKey true (.val (.tup [])) = some (.tup []) := rfl
theorem dk_t1 (a : Str) : dKey true (.val (.tup [.str a])) = some (.tup [.str a]) := rfl
theorem dk_t2 (a b : Str) : dKey true (.val (.tup [.str a, .str b])) = some (.tup [.str a, .str b]) := rfl
theorem dk_t3 (a b c : Str) : dKey true (.val (.tup [.str a, .str b, .str c])) = some (.tup [.str a, .str b, .str c]) := rfl
def dputC (j : Nat) (tk : Bool) (ks ds : List D) (ρ : Env) : Option D → Option D → Out
  | some kk, some dd => if ds.length < LIM then .nx (ρ.set j (some (.own (.dct tk (dctPutK ks kk) (dctPutV ks ds kk dd))))) else .stuck
  | _, _ => .stuck
def dputA (j : Nat) (mk mv : Env → Res R) (ρ : Env) : D → Out
  | .dct tk ks ds => oB (mv ρ) ρ fun rv => oB (mk ρ) ρ fun rk => dputC j tk ks ds ρ (dKey tk rk) rv.froz
  | _ => .stuck
theorem sDput_k (j : Nat) (mk mv : Env → Res R) (ρ : Env) : sDput j mk mv ρ = onO j ρ (dputA j mk mv ρ) := by
  unfold sDput onO
  split
  · next d e =>
    cases d <;> rfl
  · rfl
theorem dputA_d (j : Nat) (mk mv : Env → Res R) (ρ : Env) (tk : Bool) (ks ds : List D) : dputA j mk mv ρ (.dct tk ks ds) = oB (mv ρ) ρ fun rv => oB (mk ρ) ρ fun rk => dputC j tk ks ds ρ (dKey tk rk) rv.froz := rfl
theorem dputC_k (j : Nat) (tk : Bool) (ks ds : List D) (ρ : Env) (kk dd : D) : dputC j tk ks ds ρ (some kk) (some dd) = if ds.length < LIM then .nx (ρ.set j (some (.own (.dct tk (dctPutK ks kk) (dctPutV ks ds kk dd))))) else .stuck := rfl
def dinC (n : Bool) (ks ds : List D) : Option D → Res R
  | some k => .ok (.val (.bl (if n then !(dctGet ks ds k).isSome else (dctGet ks ds k).isSome)))
  | none => .stuck
theorem eDin_k (n : Bool) (a b : Env → Res R) (ρ : Env) : eDin n a b ρ = (a ρ).bind fun x => (b ρ).bind fun y => opAnyIn n x y := rfl
theorem din_d (n : Bool) (x y : R) (tk : Bool) (ks ds : List D) (h : y.d = .dct tk ks ds) : opAnyIn n x y = dinC n ks ds (dKey tk x) := by
  unfold opAnyIn opDin
  rw [h]
  simp only [isDct, if_true]
  cases dKey tk x <;> rfl
theorem din_v (n : Bool) (x : R) (tk : Bool) (ks ds : List D) : opAnyIn n x (.val (.dct tk ks ds)) = dinC n ks ds (dKey tk x) := din_d n x _ tk ks ds rfl
theorem din_o (n : Bool) (x : R) (tk : Bool) (ks ds : List D) : opAnyIn n x (.own (.dct tk ks ds)) = dinC n ks ds (dKey tk x) := din_d n x _ tk ks ds rfl
theorem din_b (n : Bool) (x : R) (tk : Bool) (ks ds : List D) : opAnyIn n x (.bor (.dct tk ks ds)) = dinC n ks ds (dKey tk x) := din_d n x _ tk ks ds rfl
theorem ain_s (x : R) (s : Str) : opAnyIn false x (.val (.str s)) = opCmp .In x (.val (.str s)) := rfl
theorem anin_s (x : R) (s : Str) : opAnyIn true x (.val (.str s)) = opCmp .NotIn x (.val (.str s)) := rfl
theorem dinC_t (ks ds : List D) (k : D) : dinC true ks ds (some k) = .ok (.val (.bl !(dctGet ks ds k).isSome)) := rfl
theorem dinC_f (ks ds : List D) (k : D) : dinC false ks ds (some k) = .ok (.val (.bl (dctGet ks ds k).isSome)) := rfl
def ixC (ks ds : List D) : Option D → Res R
  | some k => optR (dctGet ks ds k) .val
  | none => .stuck
theorem ixC_k (ks ds : List D) (k : D) : ixC ks ds (some k) = optR (dctGet ks ds k) .val := rfl
theorem ix_dv (tk : Bool) (ks ds : List D) (y : R) : opIx (.val (.dct tk ks ds)) y = ixC ks ds (dKey tk y) := by
  unfold opIx
  simp only [R.d]
  cases h : dKey tk y with
  | none => rfl
  | some k => cases h2 : dctGet ks ds k <;> simp [ixC, optR, h2]
theorem ix_do (tk : Bool) (ks ds : List D) (y : R) : opIx (.own (.dct tk ks ds)) y = ixC ks ds (dKey tk y) := by
  unfold opIx
  simp only [R.d]
  cases h : dKey tk y with
  | none => rfl
  | some k => cases h2 : dctGet ks ds k <;> simp [ixC, optR, h2]
theorem ix_db (tk : Bool) (ks ds : List D) (y : R) : opIx (.bor (.dct tk ks ds)) y = ixC ks ds (dKey tk y) := by
  unfold opIx
  simp only [R.d]
  cases h : dKey tk y with
  | none => rfl
  | some k => cases h2 : dctGet ks ds k <;> simp [ixC, optR, h2]
def getO (z : R) : Option D → R
  | some d => .val d
  | none => z
theorem getO_some (z : R) (d : D) : getO z (some d) = .val d := rfl
theorem getO_none (z : R) : getO z none = z := rfl
def getC (ks ds : List D) (z : R) : Option D → Res R
  | some k => .ok (getO z (dctGet ks ds k))
  | none => .stuck
theorem getC_k (ks ds : List D) (z : R) (k : D) : getC ks ds z (some k) = .ok (getO z (dctGet ks ds k)) := rfl
theorem mGet_d {x : R} {tk : Bool} {ks ds : List D} (h : x.d = .dct tk ks ds) (y z : R) : mGet2 x y z = getC ks ds z (dKey tk y) := by
  unfold mGet2
  rw [h]
  simp only
  cases dKey tk y with
  | none => rfl
  | some k => cases h2 : dctGet ks ds k <;> simp [getC, getO, h2]
def get1K (m : Env → Res R) (ρ : Env) (x : R) : Res R := if isDct x.d then (m ρ).bind fun y => mGet2 x y (.val .non) else .stuck
def get2K (m m' : Env → Res R) (ρ : Env) (x : R) : Res R := if isDct x.d then (m ρ).bind fun y => (m' ρ).bind fun z => mGet2 x y z else .stuck
theorem eGet1_k (mo m : Env → Res R) (ρ : Env) : eGet1 mo m ρ = (mo ρ).bind (get1K m ρ) := rfl
theorem eGet2_k (mo m m' : Env → Res R) (ρ : Env) : eGet2 mo m m' ρ = (mo ρ).bind (get2K m m' ρ) := rfl
theorem get1_v (m : Env → Res R) (ρ : Env) (tk : Bool) (ks ds : List D) : get1K m ρ (.val (.dct tk ks ds)) = (m ρ).bind fun y => getC ks ds (.val .non) (dKey tk y) := by
  simp only [get1K, R.d, isDct, if_true]; congr 1; funext y; exact mGet_d rfl _ _
theorem get1_o (m : Env → Res R) (ρ : Env) (tk : Bool) (ks ds : List D) : get1K m ρ (.own (.dct tk ks ds)) = (m ρ).bind fun y => getC ks ds (.val .non) (dKey tk y) := by
  simp only [get1K, R.d, isDct, if_true]; congr 1; funext y; exact mGet_d rfl _ _
theorem get1_b (m : Env → Res R) (ρ : Env) (tk : Bool) (ks ds : List D) : get1K m ρ (.bor (.dct tk ks ds)) = (m ρ).bind fun y => getC ks ds (.val .non) (dKey tk y) := by
  simp only [get1K, R.d, isDct, if_true]; congr 1; funext y; exact mGet_d rfl _ _
theorem get2_v (m m' : Env → Res R) (ρ : Env) (tk : Bool) (ks ds : List D) : get2K m m' ρ (.val (.dct tk ks ds)) = (m ρ).bind fun y => (m' ρ).bind fun z => getC ks ds z (dKey tk y) := by
  simp only [get2K, R.d, isDct, if_true]; congr 1; funext y; congr 1; funext z; exact mGet_d rfl _ _
theorem get2_o (m m' : Env → Res R) (ρ : Env) (tk : Bool) (ks ds : List D) : get2K m m' ρ (.own (.dct tk ks ds)) = (m ρ).bind fun y => (m' ρ).bind fun z => getC ks ds z (dKey tk y) := by
  simp only [get2K, R.d, isDct, if_true]; congr 1; funext y; congr 1; funext z; exact mGet_d rfl _ _
theorem get2_b (m m' : Env → Res R) (ρ : Env) (tk : Bool) (ks ds : List D) : get2K m m' ρ (.bor (.dct tk ks ds)) = (m ρ).bind fun y => (m' ρ).bind fun z => getC ks ds z (dKey tk y) := by
  simp only [get2K, R.d, isDct, if_true]; congr 1; funext y; congr 1; funext z; exact mGet_d rfl _ _

def lendO (i : Nat) (d : D) (t : Tg) (mb : Env → Out) (ρ : Env) : Option (List D) → Out
  | some ds => lendD i d (forGo t mb ds (ρ.set i (some (.bor d))))
  | none => .stuck
def lendV (t : Tg) (mb : Env → Out) (ρ : Env) : Option (List D) → Out
  | some ds => forGo t mb ds ρ
  | none => .stuck
def lenK (i : Nat) (w : Option Dk) (t : Tg) (mb : Env → Out) (ρ : Env) : Option (Option R) → Out
  | some (some (.own d)) => lendO i d t mb ρ (slItems w d)
  | some (some (.val d)) => lendV t mb ρ (slItems w d)
  | some (some (.bor d)) => lendV t mb ρ (slItems w d)
  | _ => .stuck
theorem sLendG_k (i : Nat) (w : Option Dk) (t : Tg) (mb : Env → Out) (ρ : Env) : sLendG i w t mb ρ = lenK i w t mb ρ ρ[i]? := by
  unfold sLendG lenK
  cases ρ[i]? with
  | none => rfl
  | some r =>
    cases r with
    | none => rfl
    | some r => cases r <;> (simp only [lendO, lendV] <;> (split <;> simp_all))
theorem lenK_o (i : Nat) (w : Option Dk) (t : Tg) (mb : Env → Out) (ρ : Env) (d : D) : lenK i w t mb ρ (some (some (.own d))) = lendO i d t mb ρ (slItems w d) := rfl
theorem lenK_v (i : Nat) (w : Option Dk) (t : Tg) (mb : Env → Out) (ρ : Env) (d : D) : lenK i w t mb ρ (some (some (.val d))) = lendV t mb ρ (slItems w d) := rfl
theorem lenK_b (i : Nat) (w : Option Dk) (t : Tg) (mb : Env → Out) (ρ : Env) (d : D) : lenK i w t mb ρ (some (some (.bor d))) = lendV t mb ρ (slItems w d) := rfl
theorem lendO_s (i : Nat) (d : D) (t : Tg) (mb : Env → Out) (ρ : Env) (ds : List D) : lendO i d t mb ρ (some ds) = lendD i d (forGo t mb ds (ρ.set i (some (.bor d)))) := rfl
theorem lendV_s (t : Tg) (mb : Env → Out) (ρ : Env) (ds : List D) : lendV t mb ρ (some ds) = forGo t mb ds ρ := rfl
theorem sl_0l (ds : List D) : slItems none (.lst ds) = some ds := rfl
theorem sl_0t (ds : List D) : slItems none (.tup ds) = some ds := rfl
theorem sl_kd (k : Dk) (ks ds : List D) : slItems (some k) (.dct false ks ds) = some (itemsOfD k ks ds) := rfl
def lendB (i : Nat) (d : D) (ρ : Env) : Option (Option R) → Out
  | some (some (.bor _)) => .nx (ρ.set i (some (.own d)))
  | _ => .stuck
theorem lendD_n (i : Nat) (d : D) (ρ : Env) : lendD i d (.nx ρ) = lendB i d ρ ρ[i]? := by
  simp only [lendD, lendB] <;> (generalize ρ[i]? = z; rcases z with _ | _ | r <;> first | rfl | (cases r <;> rfl))
theorem lendB_s (i : Nat) (d d' : D) (ρ : Env) : lendB i d ρ (some (some (.bor d'))) = .nx (ρ.set i (some (.own d))) := rfl
theorem lendD_r (i : Nat) (d : D) (r : R) (ρ : Env) : lendD i d (.rt r ρ) = .rt r (ρ.set i none) := rfl
def ditK (x : Bool) (k : Dk) (r : R) : Res (List D) := if x = false ∨ r.exact = true then dItems k r else .stuck
theorem eDit_k (x : Bool) (k : Dk) (m : Env → Res R) (ρ : Env) : eDit x k m ρ = (m ρ).bind (ditK x k) := by
  unfold eDit toRes
  cases m ρ <;> rfl
theorem dit_v (x : Bool) (k : Dk) (ks ds : List D) : ditK x k (.val (.dct false ks ds)) = .ok (itemsOfD k ks ds) := by
  unfold ditK; rw [if_pos (.inr rfl)]; rfl
theorem dit_o (x : Bool) (k : Dk) (ks ds : List D) : ditK x k (.own (.dct false ks ds)) = .ok (itemsOfD k ks ds) := by
  unfold ditK; rw [if_pos (.inr rfl)]; rfl
theorem dit_b (k : Dk) (ks ds : List D) : ditK false k (.bor (.dct false ks ds)) = .ok (itemsOfD k ks ds) := by
  unfold ditK; rw [if_pos (.inl rfl)]; rfl
theorem eLcD_k (t : Tg) (k : Dk) (m : Env → Res R) (tt : Option (Env → Res R)) (elt : Env → Res R) (ρ : Env) : eLcD t k m tt elt ρ = (eDit false k m ρ).bind fun ds => lcKd (lcGo (fun d => bindD t d (wipeE (borE ρ) t.slots)) tt elt ds []) := by
  unfold eLcD
  cases eDit false k m ρ <;> rfl
theorem eOp_fld (g : G) (c : Nat) (f : Str) (m : Env → Res R) (ρ : Env) : eOp g (.fld c f) [m] ρ = (m ρ).bind (opFld (g.ca c) f) := rfl
theorem fld_v (C : Addr) (f : Str) (ns : List Str) (ds : List D) : opFld C f (.val (.obj C ns ds)) = optR (fldGet f ns ds) .val := by
  unfold opFld; simp only [R.d, if_true]; cases fldGet f ns ds <;> rfl
theorem fld_o (C : Addr) (f : Str) (ns : List Str) (ds : List D) : opFld C f (.own (.obj C ns ds)) = optR (fldGet f ns ds) .val := by
  unfold opFld; simp only [R.d, if_true]; cases fldGet f ns ds <;> rfl
theorem fld_b (C : Addr) (f : Str) (ns : List Str) (ds : List D) : opFld C f (.bor (.obj C ns ds)) = optR (fldGet f ns ds) .val := by
  unfold opFld; simp only [R.d, if_true]; cases fldGet f ns ds <;> rfl
def methK (C : Addr) (m : Str) (run : List R → Res R) (ms : List (Env → Res R)) (ρ : Env) (x : R) : Res R := if rcv C m x.d = true then (eArgs ms ρ).bind fun rs => run (x.arg :: rs.map R.arg) else .stuck
theorem eOp_meth (g : G) (f c : Nat) (m : Str) (dd : List D) (mo : Env → Res R) (ms : List (Env → Res R)) (ρ : Env) : eOp g (.meth f c m dd) (mo :: ms) ρ = (mo ρ).bind (methK (g.ca c) m (fun rs => g.run f (rs ++ dd.map .val)) ms ρ) := rfl
theorem eOp_isC (g : G) (c : Nat) (x : Str) (m : Env → Res R) (ρ : Env) : eOp g (.isC c x) [m] ρ = (m ρ).bind fun r => if isObj (g.ca c) r.d = true then .ok (.val (.bl true)) else .stuck := rfl
def litK (k : Dk) (r : R) : Res R := match r.d with
  | .dct false ks ds => .ok (.own (.lst (itemsOfD k ks ds)))
  | _ => .stuck
theorem eOp_lit (g : G) (k : Dk) (m : Env → Res R) (ρ : Env) : eOp g (.lit k) [m] ρ = (m ρ).bind (litK k) := rfl
theorem lit_v (k : Dk) (ks ds : List D) : litK k (.val (.dct false ks ds)) = .ok (.own (.lst (itemsOfD k ks ds))) := rfl
theorem lit_o (k : Dk) (ks ds : List D) : litK k (.own (.dct false ks ds)) = .ok (.own (.lst (itemsOfD k ks ds))) := rfl
theorem lit_b (k : Dk) (ks ds : List D) : litK k (.bor (.dct false ks ds)) = .ok (.own (.lst (itemsOfD k ks ds))) := rfl
def twoK (f : Str → Str → Res R) (m : Env → Res R) (ρ : Env) (x : R) : Res R := match x.d with
  | .str a => (m ρ).bind fun y => match y.d with
    | .str b => f a b
    | _ => .stuck
  | _ => .stuck
theorem sOp_setf (g : G) (c i : Nat) (f : Str) (m : Env → Res R) (ρ : Env) : sOp g (.setf c i f) [m] ρ = sSetf (g.ca c) i f m ρ := rfl
theorem dk_nil (g : G) (ρ : Env) (rows : List (List D)) : denKs g [] ρ rows = .nx ρ rows := by rw [denKs]
def kS2 (m : Env → List (List D) → KO) : KO → KO
  | .nx ρ r => m ρ r
  | o => o
theorem dk_cons (g : G) (m : Ks) (ms : List Ks) (ρ : Env) (rows : List (List D)) : denKs g (m :: ms) ρ rows = kS2 (denKs g ms) (denK g m ρ rows) := by
  rw [denKs]; unfold kSeq kS2; cases denK g m ρ rows <;> rfl
theorem kS2_n (m : Env → List (List D) → KO) (ρ : Env) (rows : List (List D)) : kS2 m (.nx ρ rows) = m ρ rows := rfl
theorem kS2_x (m : Env → List (List D) → KO) (k : Nat) (pl : List (Str × D)) (ρ : Env) : kS2 m (.ex k pl ρ) = .ex k pl ρ := rfl
theorem dk_push (g : G) (ρ : Env) (rows : List (List D)) : denK g .push ρ rows = if rows.length < LIM then .nx ρ ([] :: rows) else .stuck := by rw [denK]; rfl
theorem dk_pop (g : G) (j : Nat) (ρ : Env) (ds : List D) (rows : List (List D)) : denK g (.pop j) ρ (ds :: rows) = .nx (ρ.set j (some (.val (.tup ds)))) rows := by rw [denK]; rfl
theorem kB_ok (r : R) (ρ : Env) (f : R → KO) : kB (.ok r) ρ f = f r := rfl
theorem kB_ex (k : Nat) (pl : List (Str × D)) (ρ : Env) (f : R → KO) : kB (.exc k pl) ρ f = .ex k pl ρ := rfl
def topK (ρ : Env) (ds : List D) (rows : List (List D)) (r : R) : KO := match r.froz with
  | some d => if ds.length < LIM then .nx ρ ((ds ++ [d]) :: rows) else .stuck
  | none => .stuck
theorem dk_top (g : G) (m : Xp) (ρ : Env) (ds : List D) (rows : List (List D)) : denK g (.top m) ρ (ds :: rows) = kB (den g m ρ) ρ (topK ρ ds rows) := by rw [denK]; rfl
theorem topK_v (ρ : Env) (ds : List D) (rows : List (List D)) (d : D) : topK ρ ds rows (.val d) = if ds.length < LIM then .nx ρ ((ds ++ [d]) :: rows) else .stuck := rfl
def ifK (ρ : Env) (rows : List (List D)) (a b : Env → List (List D) → KO) (r : R) : KO := match asBl r with
  | some true => a ρ rows
  | some false => b ρ rows
  | none => .stuck
theorem dk_if (g : G) (c : Xp) (a b : List Ks) (ρ : Env) (rows : List (List D)) : denK g (.ifx c a b) ρ rows = kB (den g c ρ) ρ (ifK ρ rows (denKs g a) (denKs g b)) := by rw [denK]; rfl
theorem ifK_t (ρ : Env) (rows : List (List D)) (a b : Env → List (List D) → KO) : ifK ρ rows a b (.val (.bl true)) = a ρ rows := rfl
theorem ifK_f (ρ : Env) (rows : List (List D)) (a b : Env → List (List D) → KO) : ifK ρ rows a b (.val (.bl false)) = b ρ rows := rfl
def limK (op : CmpOp) (k : Nat) (ρ : Env) (rows : List (List D)) (r : R) : KO := match r.d with
  | .int n => (match op with
    | .Gt => if decide (n < (rows.length : Int)) = true then .ex k [] ρ else .nx ρ rows
    | .Eq => if ((rows.length : Int) == n) = true then .ex k [] ρ else .nx ρ rows
    | _ => .stuck)
  | _ => .stuck
theorem dk_lim (g : G) (op : CmpOp) (m : Xp) (k : Nat) (ρ : Env) (rows : List (List D)) : denK g (.lim op m k) ρ rows = kB (den g m ρ) ρ (limK op k ρ rows) := by rw [denK]; rfl
theorem limK_g (k : Nat) (ρ : Env) (rows : List (List D)) (n : Int) : limK .Gt k ρ rows (.val (.int n)) = if decide (n < (rows.length : Int)) = true then .ex k [] ρ else .nx ρ rows := rfl
theorem limK_e (k : Nat) (ρ : Env) (rows : List (List D)) (n : Int) : limK .Eq k ρ rows (.val (.int n)) = if ((rows.length : Int) == n) = true then .ex k [] ρ else .nx ρ rows := rfl
def chnK (op' : CmpOp) (c : Env → Res R) (ρ : Env) (y z : R) : Res R := match asBl z with
  | some true => (c ρ).bind fun w => opCmp op' y w
  | some false => .ok (.val (.bl false))
  | none => .stuck
theorem eChain_k (op op' : CmpOp) (a b c : Env → Res R) (ρ : Env) : eChain op op' a b c ρ = (a ρ).bind fun x => (b ρ).bind fun y => (opCmp op x y).bind (chnK op' c ρ y) := rfl
theorem chnK_t (op' : CmpOp) (c : Env → Res R) (ρ : Env) (y : R) : chnK op' c ρ y (.val (.bl true)) = (c ρ).bind fun w => opCmp op' y w := rfl
theorem chnK_f (op' : CmpOp) (c : Env → Res R) (ρ : Env) (y : R) : chnK op' c ρ y (.val (.bl false)) = .ok (.val (.bl false)) := rfl
theorem eOp_part (g : G) (a b : Env → Res R) (ρ : Env) : eOp g .part [a, b] ρ = (a ρ).bind (twoK sPtn b ρ) := rfl
theorem eOp_splt (g : G) (a b : Env → Res R) (ρ : Env) : eOp g .splt [a, b] ρ = (a ρ).bind (twoK sSpl2 b ρ) := rfl
def two2 (f : Str → Str → Res R) (a : Str) (y : R) : Res R := match y.d with
  | .str b => f a b
  | _ => .stuck
theorem twoK_s (f : Str → Str → Res R) (m : Env → Res R) (ρ : Env) (a : Str) : twoK f m ρ (.val (.str a)) = (m ρ).bind (two2 f a) := rfl
theorem two2_s (f : Str → Str → Res R) (a b : Str) : two2 f a (.val (.str b)) = f a b := rfl
theorem dn_kin (g : G) (x : Str) (ks : List Str) (ds : List D) (a : Xp) (ρ : Env) : den g (.kin x ks ds a) ρ = (den g a ρ).bind (kinR ks ds) := by rw [den]; rfl
theorem dn_kix (g : G) (x : Str) (ks : List Str) (ds : List D) (a : Xp) (ρ : Env) : den g (.kix x ks ds a) ρ = (den g a ρ).bind (kixR ks ds) := by rw [den]; rfl
theorem kin_s (ks : List Str) (ds : List D) (z : Str) : kinR ks ds (.val (.str z)) = .ok (.val (.bl (dctGet (ks.map .str) ds (.str z)).isSome)) := rfl
theorem kix_s (ks : List Str) (ds : List D) (z : Str) : kixR ks ds (.val (.str z)) = optR (dctGet (ks.map .str) ds (.str z)) .val := by
  unfold kixR
  simp only [R.d]
  cases dctGet (ks.map .str) ds (.str z) <;> rfl
theorem add_t (a : D) (as bs : List D) : opAdd (.val (.tup (a :: as))) (.val (.tup bs)) = if as.length + 1 + bs.length ≤ LIM then .ok (.val (.tup (a :: (as ++ bs)))) else .stuck := by
  unfold opAdd
  simp only [R.d, R.exact, List.isEmpty_cons, List.length_cons, List.cons_append, Bool.not_false, Bool.true_and, Bool.and_self, decide_eq_true_eq]
theorem add_tb (a : D) (as bs : List D) : opAdd (.val (.tup (a :: as))) (.bor (.tup bs)) = if as.length + 1 + bs.length ≤ LIM then .ok (.val (.tup (a :: (as ++ bs)))) else .stuck := by
  unfold opAdd
  simp only [R.d, R.exact, List.isEmpty_cons, List.length_cons, List.cons_append, Bool.not_false, Bool.true_and, Bool.and_self, decide_eq_true_eq]
theorem eOp_maxd (g : G) (d : Int) (m : Env → Res R) (ρ : Env) : eOp g (.maxd d) [m] ρ = (eArgs [m] ρ).bind (bMxD d) := rfl
theorem mxd_o (d : Int) (ds : List D) : bMxD d [.own (.lst ds)] = optR (ints' ds) (fun ns => .val (.int (mxD d ns))) := by
  unfold bMxD
  simp only [R.d]
  cases ints' ds <;> rfl
theorem ofS_beq (a b : String) : (Str.ofString a == Str.ofString b) = (a == b) := by
  rw [Bool.eq_iff_iff, beq_iff_eq, beq_iff_eq]
  constructor
  · intro e
    rw [Str.ofString_eq_toList, Str.ofString_eq_toList] at e
    have e := congrArg (fun s : Str => s.cps.toList) e
    simp only [List.toList_toArray] at e
    exact String.toList_inj.mp ((List.map_inj_right fun x y h => Char.toNat_inj.mp h).mp e)
  · intro e
    rw [e]
theorem ds_lpop (g : G) (i j : Nat) (ρ : Env) : denS g (.lpop i j) ρ = sLpop i j ρ := by rw [denS]
def lpopB (i j : Nat) (ρ : Env) (ds : List D) : Option D → Out
  | some d => .nx ((ρ.set j (some (.own (.lst ds.dropLast)))).set i (some (.val d)))
  | none => .stuck
theorem sLpop_k (i j : Nat) (ρ : Env) : sLpop i j ρ = onL j ρ fun ds => lpopB i j ρ ds ds.getLast? := by
  unfold sLpop
  congr 1
theorem lpopB_s (i j : Nat) (ρ : Env) (ds : List D) (d : D) : lpopB i j ρ ds (some d) = .nx ((ρ.set j (some (.own (.lst ds.dropLast)))).set i (some (.val d))) := rfl
def tryAK (t : Nat → Nat → Option Bool) (ca : Nat → Addr) (hs : List (Nat × Option Nat × (Env → Out))) (mo : Env → Out) : Out → Out
  | .ex k pl ρ' => catchA t ca k pl ρ' hs
  | .nx ρ' => mo ρ'
  | o => o
theorem ds_tryA (g : G) (b : List Sm) (js : List (Nat × Option Nat)) (ss : List (List Sm)) (o : List Sm) (ρ : Env) : denS g (.tryA b js ss o) ρ = tryAK g.sub g.ca (zipA js (denL g ss)) (denB g o) (denB g b ρ) := by rw [denS]; unfold sTryA tryAK; cases denB g b ρ <;> rfl
theorem tA_nx (t : Nat → Nat → Option Bool) (ca : Nat → Addr) (hs : List (Nat × Option Nat × (Env → Out))) (mo : Env → Out) (ρ : Env) : tryAK t ca hs mo (.nx ρ) = mo ρ := rfl
theorem tA_rt (t : Nat → Nat → Option Bool) (ca : Nat → Addr) (hs : List (Nat × Option Nat × (Env → Out))) (mo : Env → Out) (r : R) (ρ : Env) : tryAK t ca hs mo (.rt r ρ) = .rt r ρ := rfl
theorem tA_ex (t : Nat → Nat → Option Bool) (ca : Nat → Addr) (hs : List (Nat × Option Nat × (Env → Out))) (mo : Env → Out) (k : Nat) (pl : List (Str × D)) (ρ : Env) : tryAK t ca hs mo (.ex k pl ρ) = catchA t ca k pl ρ hs := rfl
theorem zipA_cons (j : Nat) (o : Option Nat) (js : List (Nat × Option Nat)) (m : Env → Out) (ms : List (Env → Out)) : zipA ((j, o) :: js) (m :: ms) = (j, o, m) :: zipA js ms := rfl
theorem zipA_nil (ms : List (Env → Out)) : zipA [] ms = [] := by cases ms <;> rfl
def caA (t : Nat → Nat → Option Bool) (ca : Nat → Addr) (k : Nat) (pl : List (Str × D)) (ρ : Env) (oi : Option Nat) (ms : Env → Out) (r : List (Nat × Option Nat × (Env → Out))) (b : Option Bool) : Out := match b with
  | some true => (match oi with
    | some i => unO i (ms (ρ.set i (some (exoR k (ca k) pl))))
    | none => noX (ms ρ))
  | some false => catchA t ca k pl ρ r
  | none => .stuck
theorem catchA_nil (t : Nat → Nat → Option Bool) (ca : Nat → Addr) (k : Nat) (pl : List (Str × D)) (ρ : Env) : catchA t ca k pl ρ [] = .ex k pl ρ := by rw [catchA]
theorem catchA_cons (t : Nat → Nat → Option Bool) (ca : Nat → Addr) (k : Nat) (pl : List (Str × D)) (ρ : Env) (j : Nat) (oi : Option Nat) (ms : Env → Out) (r : List (Nat × Option Nat × (Env → Out))) : catchA t ca k pl ρ ((j, oi, ms) :: r) = caA t ca k pl ρ oi ms r (t k j) := by
  rw [catchA.eq_def]
  unfold caA noX
  (try simp only)
  all_goals (
    rcases t k j with _ | b
    · rfl
    · cases b
      · rfl
      · cases oi with
        | none => simp only; cases ms ρ <;> rfl
        | some i => rfl)
theorem caA_n (t : Nat → Nat → Option Bool) (ca : Nat → Addr) (k : Nat) (pl : List (Str × D)) (ρ : Env) (ms : Env → Out) (r : List (Nat × Option Nat × (Env → Out))) : caA t ca k pl ρ none ms r (some true) = noX (ms ρ) := rfl
theorem caA_s (t : Nat → Nat → Option Bool) (ca : Nat → Addr) (k : Nat) (pl : List (Str × D)) (ρ : Env) (i : Nat) (ms : Env → Out) (r : List (Nat × Option Nat × (Env → Out))) : caA t ca k pl ρ (some i) ms r (some true) = unO i (ms (ρ.set i (some (exoR k (ca k) pl)))) := rfl
theorem caA_f (t : Nat → Nat → Option Bool) (ca : Nat → Addr) (k : Nat) (pl : List (Str × D)) (ρ : Env) (oi : Option Nat) (ms : Env → Out) (r : List (Nat × Option Nat × (Env → Out))) : caA t ca k pl ρ oi ms r (some false) = catchA t ca k pl ρ r := rfl
theorem exoR_k (k : Nat) (C : Addr) (pl : List (Str × D)) : exoR k C pl = .val (.exo k C (pl.map (·.1)) (pl.map (·.2))) := rfl
theorem unO_nx (i : Nat) (ρ : Env) : unO i (.nx ρ) = .nx (ρ.set i none) := rfl
theorem unO_rt (i : Nat) (r : R) (ρ : Env) : unO i (.rt r ρ) = .rt r ρ := rfl
theorem eOp_xfld (g : G) (c : Nat) (f : Str) (m : Env → Res R) (ρ : Env) : eOp g (.xfld c f) [m] ρ = (m ρ).bind (opXf (g.ca c) f) := rfl
theorem opXf_k (k : Nat) (C : Addr) (f : Str) (ns : List Str) (ds : List D) : opXf C f (.val (.exo k C ns ds)) = optR (fldGet f ns ds) .val := by
  unfold opXf; simp only [R.d, if_true]; cases fldGet f ns ds <;> rfl
theorem eOp_xis (g : G) (j : Nat) (x : Str) (m : Env → Res R) (ρ : Env) : eOp g (.xis j x) [m] ρ = (m ρ).bind (opXi g.ca (fun k => g.kit k j)) := rfl
theorem opXi_k (ca : Nat → Addr) (t : Nat → Option Bool) (k : Nat) (ns : List Str) (ds : List D) : opXi ca t (.val (.exo k (ca k) ns ds)) = optR (t k) fun b => .val (.bl b) := by
  unfold opXi; simp only [R.d, if_true]; cases t k <;> rfl
def dispK (tk : Bool) (rs : List R) : Option (List D × List D) → Res R
  | some (ks, vs) => if rs.length ≤ 30 then .ok (.own (.dct tk ks vs)) else .stuck
  | none => .stuck
theorem eOp_disp (g : G) (tk : Bool) (ms : List (Env → Res R)) (ρ : Env) : eOp g (.disp tk) ms ρ = (eArgs ms ρ).bind fun rs => dispK tk rs (dispGo tk rs [] []) := by
  cases ms with
  | nil => rfl
  | cons m ms =>
    show (eArgs (m :: ms) ρ).bind (dispR tk) = _
    congr 1
theorem dispK_s (tk : Bool) (rs : List R) (ks vs : List D) : dispK tk rs (some (ks, vs)) = if rs.length ≤ 30 then .ok (.own (.dct tk ks vs)) else .stuck := rfl
def dispG2 (tk : Bool) (r : List R) (ks vs : List D) : Option D → Option D → Option (List D × List D)
  | some kk, some dd => dispGo tk r (dctPutK ks kk) (dctPutV ks vs kk dd)
  | _, _ => none
theorem dispGo_nil (tk : Bool) (ks vs : List D) : dispGo tk [] ks vs = some (ks, vs) := by rw [dispGo]
theorem dispGo_cons (tk : Bool) (k v : R) (r : List R) (ks vs : List D) : dispGo tk (k :: v :: r) ks vs = dispG2 tk r ks vs (dKey tk k) v.froz := by
  rw [dispGo]
  unfold dispG2
  rfl
theorem dispG2_s (tk : Bool) (r : List R) (ks vs : List D) (kk dd : D) : dispG2 tk r ks vs (some kk) (some dd) = dispGo tk r (dctPutK ks kk) (dctPutV ks vs kk dd) := rfl
end Mp

namespace Mp
open PySem L2
local macro_rules | `(tactic| simp? [$as,*]) => `(tactic| simp only [add_t, add_tb, dn_kin, dn_kix, kin_s, kix_s, Int.cast_ofNat_Int, Int.natCast_one, Int.natCast_zero, eOp_part, eOp_splt, twoK_s, two2_s, eChain_k, chnK_t, chnK_f, runC_rn, sLendG_k, lenK_o, lenK_v, lenK_b, lendO_s, lendV_s, sl_0l, sl_0t, sl_kd, lendD_n, lendB_s, lendD_r, ds_ford, ds_op, ds_stk, dn_op, dn_lcd, eDit_k, dit_v, dit_o, dit_b, eLcD_k, eOp_fld, fld_v, fld_o, fld_b, eOp_meth, eOp_isC, eOp_lit, lit_v, lit_o, lit_b, sOp_setf, dk_nil, dk_cons, kS2_n, kS2_x, dk_push, dk_pop, kB_ok, kB_ex, dk_top, topK_v, dk_if, ifK_t, ifK_f, dk_lim, limK_g, limK_e, gOf_glo, gOf_sub, gOf_ca, dn_get1, dn_dct0, dn_din, ds_dput, dk_s, dk_i, dk_t0, dk_t1, dk_t2, dk_t3, sDput_k, dputA_d, dputC_k, eDin_k, din_v, din_o, din_b, ain_s, anin_s, dinC_t, dinC_f, ix_dv, ix_do, ix_db, ixC_k, getO_some, getO_none, getC_k, eGet1_k, eGet2_k, get1_v, get1_o, get1_b, get2_v, get2_o, get2_b, runD, runO, st0, run_rn, cr_nx, cr_rt, cr_ex, crN_s, crX_s, pick_nil, pick_cons, pickK_s, cfin_ok, cfin_ex, denB_nil, denB_cons, dens, dn_var, dn_cst, dn_glo, dn_tup, dn_lst, dn_and, dn_or, dn_not, dn_neg, dn_bin, dn_cmp, dn_chn, dn_ite, dn_ix, dn_sl, dn_blt, dn_isi, dn_join, dn_get2, dn_call, dn_rng, dn_lc, ds_pass, ds_brk, ds_cnt, ds_drop, ds_ret, ds_retN, ds_retV, ds_set, ds_unp, ds_ite, ds_fore, ds_whl, ds_app, ds_ext, ds_clr, ds_frz, ds_lend, ds_callG, ds_raise, ds_tryM, ds_dpop, sDpop_k, dpopA_d, dpopB_s, dpopC_t, ds_lpop, sLpop_k, lpopB_s, ds_tryA, tA_nx, tA_rt, tA_ex, zipA_cons, zipA_nil, catchA_nil, catchA_cons, caA_n, caA_s, caA_f, exoR_k, unO_nx, unO_rt, eOp_xfld, opXf_k, eOp_xis, opXi_k, gOf_kit, eOp_disp, dispK_s, dispGo_nil, dispGo_cons, dispG2_s, ds_raiseF, gOf_lv, raiseL_s, xiOut_k, xiOut_x, xiQ_s, ds_tryE, tE_nx, tE_rt, tE_ex, denL, List.zip_cons_cons, List.zip_nil_left, List.zip_nil_right, sTry_k, tK_nx, tK_rt, tK_bk, tK_ct, tK_ex, catch_nil, catch_cons, caK_t, caK_f, noX_nx, noX_rt, noX_bk, noX_ct, oSeq_k, oK_nx, oK_rt, oK_bk, oK_ct, oK_ex, oK_st, oB_ok, oB_exc, Res.bind_ok, Res.bind_exc, Res.bind_stuck, sSet, sIf_k, oIf_t, oIf_f, sRet, sRetV, sRetN, sDrop, sFrz, sApp_k, appK_v, appK_o, sExt_k, extK_v, extK_o, sClr, onL, onO, oBs_k, sCallG_k, gK2_s, gK3_ok, gK3_ex, gK4_n, gK4_t, gK4_b, gK5_s, argM_nil, argM_cons, consO_s, arg1_v, arg1_o, arg1_io, arg1_le, ioA_s, leA_s, lentR_o, lentR_v, lentR_b, backM_nil, backM_io, backM_v, backM_le, List.append_nil, sUnp_k, unpK_v, setAll, vals, sFor_k, forK_ok, whK_t, whK_f, whN_nx, whN_ct, whN_bk, whN_rt, whN_ex, eVar, eArgs_nil, eArgs_cons, eTup_k, eLst_k, tupK_s, lstK_s, frozs_nil, frozs_cons, froK_s, froz_v, froz_o, eAnd_k, eOr_k, eNot_k, eIte_k, andK_t, andK_f, orK_t, orK_f, iteK_t, iteK_f, notK_b, eNeg, neg_i, eBin, bin_add, bin_sub, bin_mul, bin_div, bin_mod, bin_pow, add_i, add_s, add_oo, add_ov, add_vo, add_vv, sub_i, mul_r, mul_l, mul_s, mul_o, div_p, mod_p, pow_p, eCmp, c_eq, c_ne, c_lt, c_le, c_gt, c_ge, c_is, c_in, c_nin, eq_ii, eq_ss, eq_bb, ne_ii, ne_ss, ne_bb, lt_ii, le_ii, gt_ii, ge_ii, in_ss, nin_ss, eIx, optR_some, ix_lv, ix_lo, ix_lb, ix_tv, ix_tb, ix_s, eSl_k, sl_s, sl_lv, sl_lo, sl_lb, sl_tv, part_none, part_some, pK_i, eBlt_k, len_s, len_lv, len_lo, len_lb, len_tv, len_tb, str_p, int_i, int_b, list_lv, list_lo, list_lb, list_tv, tuple_lv, tuple_lo, tuple_lb, tuple_tv, all_o, any_o, sum_o, min_i, max_i, eIsi_k, isi_bb, isi_ii, isi_bi, isi_ss, isi_st, isi_tt, isi_ts, isi_it, isi_ti, isi_si, isi_ll, isi_lb, isi_lo, eCall_k, arg_v, arg_o, arg_b, eJoin_k, joinX_s, join_o, joinK_s, eGlo, setR_f, setR_fo, setR_t, eSeqX_k, eSeq_k, it_lv, it_lo, it_tv, it_s, id_lv, id_lo, id_lb, id_tv, id_tb, id_s, eRngV_k, rng_1, rng_2, eLc_k, lcK_ok, lcKd_ok, lcK_x, ofD, Bt.fn, Ty.T, List.map_cons, List.map_nil, List.head?_cons, List.head?_nil, List.length_cons, List.length_nil, List.cons_append, List.nil_append, List.replicate_succ, List.replicate_zero, List.getElem?_cons_zero, List.getElem?_cons_succ, List.set_cons_zero, List.set_cons_succ, Nat.reduceSub, Nat.reduceAdd, Nat.zero_add, if_true, Bool.false_eq_true, if_false, Bool.and_true, Bool.true_and, Nat.zero_le, decide_true, Bool.or_true, Bool.true_or, decide_false, Int.reduceLT, Int.reduceLE, Int.reduceMul, Int.reduceAdd, Int.reduceSub, Int.reduceNeg, Int.reduceToNat, Int.reduceMod, Int.reduceDiv, Nat.reduceLeDiff, Nat.reduceLT, Bool.not_true, Bool.not_false, Bool.and_self, beq_self_eq_true, Int.reducePow, Nat.reducePow, Int.reduceBEq, eOp_maxd, mxd_o, ofS_beq, String.reduceBEq, $as,*])
local macro_rules | `(tactic| simp?) => `(tactic| simp only [add_t, add_tb, dn_kin, dn_kix, kin_s, kix_s, Int.cast_ofNat_Int, Int.natCast_one, Int.natCast_zero, eOp_part, eOp_splt, twoK_s, two2_s, eChain_k, chnK_t, chnK_f, runC_rn, sLendG_k, lenK_o, lenK_v, lenK_b, lendO_s, lendV_s, sl_0l, sl_0t, sl_kd, lendD_n, lendB_s, lendD_r, ds_ford, ds_op, ds_stk, dn_op, dn_lcd, eDit_k, dit_v, dit_o, dit_b, eLcD_k, eOp_fld, fld_v, fld_o, fld_b, eOp_meth, eOp_isC, eOp_lit, lit_v, lit_o, lit_b, sOp_setf, dk_nil, dk_cons, kS2_n, kS2_x, dk_push, dk_pop, kB_ok, kB_ex, dk_top, topK_v, dk_if, ifK_t, ifK_f, dk_lim, limK_g, limK_e, gOf_glo, gOf_sub, gOf_ca, dn_get1, dn_dct0, dn_din, ds_dput, dk_s, dk_i, dk_t0, dk_t1, dk_t2, dk_t3, sDput_k, dputA_d, dputC_k, eDin_k, din_v, din_o, din_b, ain_s, anin_s, dinC_t, dinC_f, ix_dv, ix_do, ix_db, ixC_k, getO_some, getO_none, getC_k, eGet1_k, eGet2_k, get1_v, get1_o, get1_b, get2_v, get2_o, get2_b, runD, runO, st0, run_rn, cr_nx, cr_rt, cr_ex, crN_s, crX_s, pick_nil, pick_cons, pickK_s, cfin_ok, cfin_ex, denB_nil, denB_cons, dens, dn_var, dn_cst, dn_glo, dn_tup, dn_lst, dn_and, dn_or, dn_not, dn_neg, dn_bin, dn_cmp, dn_chn, dn_ite, dn_ix, dn_sl, dn_blt, dn_isi, dn_join, dn_get2, dn_call, dn_rng, dn_lc, ds_pass, ds_brk, ds_cnt, ds_drop, ds_ret, ds_retN, ds_retV, ds_set, ds_unp, ds_ite, ds_fore, ds_whl, ds_app, ds_ext, ds_clr, ds_frz, ds_lend, ds_callG, ds_raise, ds_tryM, ds_dpop, sDpop_k, dpopA_d, dpopB_s, dpopC_t, ds_lpop, sLpop_k, lpopB_s, ds_tryA, tA_nx, tA_rt, tA_ex, zipA_cons, zipA_nil, catchA_nil, catchA_cons, caA_n, caA_s, caA_f, exoR_k, unO_nx, unO_rt, eOp_xfld, opXf_k, eOp_xis, opXi_k, gOf_kit, eOp_disp, dispK_s, dispGo_nil, dispGo_cons, dispG2_s, ds_raiseF, gOf_lv, raiseL_s, xiOut_k, xiOut_x, xiQ_s, ds_tryE, tE_nx, tE_rt, tE_ex, denL, List.zip_cons_cons, List.zip_nil_left, List.zip_nil_right, sTry_k, tK_nx, tK_rt, tK_bk, tK_ct, tK_ex, catch_nil, catch_cons, caK_t, caK_f, noX_nx, noX_rt, noX_bk, noX_ct, oSeq_k, oK_nx, oK_rt, oK_bk, oK_ct, oK_ex, oK_st, oB_ok, oB_exc, Res.bind_ok, Res.bind_exc, Res.bind_stuck, sSet, sIf_k, oIf_t, oIf_f, sRet, sRetV, sRetN, sDrop, sFrz, sApp_k, appK_v, appK_o, sExt_k, extK_v, extK_o, sClr, onL, onO, oBs_k, sCallG_k, gK2_s, gK3_ok, gK3_ex, gK4_n, gK4_t, gK4_b, gK5_s, argM_nil, argM_cons, consO_s, arg1_v, arg1_o, arg1_io, arg1_le, ioA_s, leA_s, lentR_o, lentR_v, lentR_b, backM_nil, backM_io, backM_v, backM_le, List.append_nil, sUnp_k, unpK_v, setAll, vals, sFor_k, forK_ok, whK_t, whK_f, whN_nx, whN_ct, whN_bk, whN_rt, whN_ex, eVar, eArgs_nil, eArgs_cons, eTup_k, eLst_k, tupK_s, lstK_s, frozs_nil, frozs_cons, froK_s, froz_v, froz_o, eAnd_k, eOr_k, eNot_k, eIte_k, andK_t, andK_f, orK_t, orK_f, iteK_t, iteK_f, notK_b, eNeg, neg_i, eBin, bin_add, bin_sub, bin_mul, bin_div, bin_mod, bin_pow, add_i, add_s, add_oo, add_ov, add_vo, add_vv, sub_i, mul_r, mul_l, mul_s, mul_o, div_p, mod_p, pow_p, eCmp, c_eq, c_ne, c_lt, c_le, c_gt, c_ge, c_is, c_in, c_nin, eq_ii, eq_ss, eq_bb, ne_ii, ne_ss, ne_bb, lt_ii, le_ii, gt_ii, ge_ii, in_ss, nin_ss, eIx, optR_some, ix_lv, ix_lo, ix_lb, ix_tv, ix_tb, ix_s, eSl_k, sl_s, sl_lv, sl_lo, sl_lb, sl_tv, part_none, part_some, pK_i, eBlt_k, len_s, len_lv, len_lo, len_lb, len_tv, len_tb, str_p, int_i, int_b, list_lv, list_lo, list_lb, list_tv, tuple_lv, tuple_lo, tuple_lb, tuple_tv, all_o, any_o, sum_o, min_i, max_i, eIsi_k, isi_bb, isi_ii, isi_bi, isi_ss, isi_st, isi_tt, isi_ts, isi_it, isi_ti, isi_si, isi_ll, isi_lb, isi_lo, eCall_k, arg_v, arg_o, arg_b, eJoin_k, joinX_s, join_o, joinK_s, eGlo, setR_f, setR_fo, setR_t, eSeqX_k, eSeq_k, it_lv, it_lo, it_tv, it_s, id_lv, id_lo, id_lb, id_tv, id_tb, id_s, eRngV_k, rng_1, rng_2, eLc_k, lcK_ok, lcKd_ok, lcK_x, ofD, Bt.fn, Ty.T, List.map_cons, List.map_nil, List.head?_cons, List.head?_nil, List.length_cons, List.length_nil, List.cons_append, List.nil_append, List.replicate_succ, List.replicate_zero, List.getElem?_cons_zero, List.getElem?_cons_succ, List.set_cons_zero, List.set_cons_succ, Nat.reduceSub, Nat.reduceAdd, Nat.zero_add, if_true, Bool.false_eq_true, if_false, Bool.and_true, Bool.true_and, Nat.zero_le, decide_true, Bool.or_true, Bool.true_or, decide_false, Int.reduceLT, Int.reduceLE, Int.reduceMul, Int.reduceAdd, Int.reduceSub, Int.reduceNeg, Int.reduceToNat, Int.reduceMod, Int.reduceDiv, Nat.reduceLeDiff, Nat.reduceLT, Bool.not_true, Bool.not_false, Bool.and_self, beq_self_eq_true, Int.reducePow, Nat.reducePow, Int.reduceBEq, eOp_maxd, mxd_o, ofS_beq, String.reduceBEq])

theorem at_lit {z : Str} {n : Nat} (hz : z.length = n) {i : Int} (h0 : 0 ≤ i) (h1 : i < n) : ∃ c, atI z.cps.toList i = some c := by
  rw [len_cps] at hz
  rw [atI_in h0 (by omega), List.getElem?_eq_getElem (by omega)]
  exact ⟨_, rfl⟩
theorem rngD_mem {lo : Int} {n : Nat} {d : D} (h : d ∈ rngD lo n) : ∃ i : Nat, i < n ∧ d = .int (lo + (i : Nat)) := by
  obtain ⟨i, h1, h2⟩ := List.mem_map.mp h
  exact ⟨i, List.mem_range.mp h1, h2.symm⟩
theorem rngD_len (lo : Int) (n : Nat) : (rngD lo n).length = n := by simp [rngD]
def d_cell1 : Df := ⟨2, ["_law_script", "_law_k", "_law_number"],
  [.ite (.cmp .Lt (.var 1) (.blt .len [.var 0]))
    [.ret (.bin .Add (.bin .Mult (.ix (.var 0) (.var 1)) (.cst (.int 48271))) (.bin .Mult (.cst (.int 7919)) (.var 1)))]
    [],
  .set false 2 (.bin .Add (.bin .Mult (.cst (.int 7919)) (.var 1)) (.cst (.int 11))),
  .ite (.cmp .Gt (.blt .len [.var 0]) (.cst (.int 0)))
    [.set false 2 (.bin .Add (.bin .Mult (.bin .Mod (.ix (.var 0) (.bin .Mod (.var 1) (.blt .len [.var 0]))) (.cst (.int 1000003))) (.cst (.int 48271))) (.bin .Mult (.bin .Mult (.cst (.int 7919)) (.var 1)) (.var 1)))]
    [],
  .ret (.bin .Mod (.var 2) (.cst (.int 2147483647)))], []⟩
def cell1 (s : List Int) (k : Int) : Int := if k < s.length then (s.getD k.toNat 0) * 48271 + 7919 * k else
  if 0 < (s.length : Int) then ((s.getD (k % s.length).toNat 0) % 1000003 * 48271 + 7919 * k * k) % 2147483647 else (7919 * k + 11) % 2147483647
theorem cell1_eq (g : G) (s : List Int) (k : Int) (h0 : 0 ≤ k) (h1 : k ≤ 1000) : runD g d_cell1 [.bor (.lst (s.map D.int)), .val (.int k)] = .ok (.val (.int (cell1 s k))) [] := by
  unfold cell1
  by_cases h : k < s.length
  · have e := atS h0 h
    have hd := decide_eq_true h
    rw [if_pos h]
    simp? [d_cell1, List.length_map, hd, e]
  · have hd := decide_eq_false h
    rw [if_neg h]
    by_cases h2 : 0 < (s.length : Int)
    · have hd2 := decide_eq_true h2
      have e := atS (s := s) (k := k % s.length) (Int.emod_nonneg _ (by omega)) (Int.emod_lt_of_pos _ h2)
      rw [if_pos h2]
      simp? [d_cell1, List.length_map, hd, hd2, e, h2, show (-18446744073709551616 : Int) < k by omega, show k < 18446744073709551616 by omega]
    · have hd2 := decide_eq_false h2
      rw [if_neg h2]
      simp? [d_cell1, List.length_map, hd, hd2]
theorem len1 (c : Nat) : Str.length ⟨#[c]⟩ = 1 := rfl
end Mp

namespace Mp
open PySem L2

inductive Kd where
  | num (i : Int) | nam (q t : Str) | pr (a b : Kd)
  deriving Inhabited
def Kd.d : Kd → D
  | .num i => .tup [.str "num", .int i]
  | .nam q t => .tup [.str "name", .str q, .str t]
  | .pr a b => .tup [.str "pair", a.d, b.d]
def Kd.lv : Kd → Nat
  | .num _ => 1
  | .nam _ _ => 1
  | .pr a b => a.lv + b.lv
def Kd.dp : Kd → Nat
  | .num _ => 1
  | .nam _ _ => 1
  | .pr a b => max a.dp b.dp + 1
def Kd.ls : Kd → List Kd
  | .pr a b => a.ls ++ b.ls
  | k => [k]
theorem atI0 {α : Type} (a : α) (l : List α) : atI (a :: l) 0 = some a := atI_nat (j := 0) rfl
theorem atI1 {α : Type} (a b : α) (l : List α) : atI (a :: b :: l) 1 = some b := atI_nat (j := 1) rfl
theorem atI2 {α : Type} (a b c : α) (l : List α) : atI (a :: b :: c :: l) 2 = some c := atI_nat (j := 2) rfl
theorem atI3 {α : Type} (a b c d : α) (l : List α) : atI (a :: b :: c :: d :: l) 3 = some d := atI_nat (j := 3) rfl
section
variable {T : List (Nat × Df)} {M : Mn} {i j : Nat}
end
abbrev Nm := Str × Str
def Nm.d (p : Nm) : D := .tup [.str p.1, .str p.2]
section
variable {T : List (Nat × Df)} {M : Mn} {i j : Nat}
end
mutual
theorem deq_refl : ∀ d : D, noD d = true → deq d d = true
  | .non, _ => rfl
  | .bl b, _ => by simp [deq]
  | .int i, _ => by simp [deq]
  | .str x, _ => by simp [deq]
  | .tup ds, h => by simp only [deq]; exact deqs_refl ds (by simpa [noD] using h)
  | .lst ds, h => by simp only [deq]; exact deqs_refl ds (by simpa [noD] using h)
  | .dct _ _ _, h => by simp [noD] at h
theorem deqs_refl : ∀ ds : List D, noDs ds = true → deqs ds ds = true
  | [], _ => rfl
  | d :: ds, h => by
    simp only [noDs, Bool.and_eq_true] at h
    simp only [deqs, deq_refl d h.1, deqs_refl ds h.2, Bool.and_self]
end
end Mp

namespace Mp
open PySem L2

theorem forGo_num {j : Nat} {body : Env → Out} (I : Nat → Env → Prop) : ∀ (n a : Nat) {lo : Int} {ρ : Env}, I a ρ →
    (∀ i ρ, i < a + n → I i ρ → ∃ ρ2, (body (ρ.set j (some (.val (.int (lo + (i : Nat)))))) = .nx ρ2 ∨ body (ρ.set j (some (.val (.int (lo + (i : Nat)))))) = .ct ρ2) ∧ I (i + 1) ρ2) → ∃ ρ', forGo (.one j) body ((List.range' a n).map fun i => D.int (lo + (i : Nat))) ρ = .nx ρ' ∧ I (a + n) ρ'
  | 0, a, lo, ρ, h, _ => ⟨ρ, rfl, h⟩
  | n + 1, a, lo, ρ, h, k => by
    obtain ⟨ρ2, h2, h3⟩ := k a ρ (by omega) h
    obtain ⟨ρ', h4, h5⟩ := forGo_num I n (a + 1) (lo := lo) h3 fun i ρ hi => k i ρ (by omega)
    refine ⟨ρ', ?_, by rw [show a + (n + 1) = a + 1 + n by omega]; exact h5⟩
    rw [List.range'_succ, List.map_cons, forGo]
    simp only [bindD]
    rcases h2 with h2 | h2 <;> (simp only [h2]; exact h4)
theorem forGo_rng {j : Nat} {body : Env → Out} (I : Nat → Env → Prop) (lo : Int) (n : Nat) {ρ : Env} (h : I 0 ρ)
    (k : ∀ i ρ, i < n → I i ρ → ∃ ρ2, (body (ρ.set j (some (.val (.int (lo + (i : Nat)))))) = .nx ρ2 ∨ body (ρ.set j (some (.val (.int (lo + (i : Nat)))))) = .ct ρ2) ∧ I (i + 1) ρ2) : ∃ ρ', forGo (.one j) body (rngD lo n) ρ = .nx ρ' ∧ I n ρ' := by
  have := forGo_num (j := j) (body := body) I n 0 (lo := lo) h (fun i ρ hi => k i ρ (by omega))
  rw [Nat.zero_add] at this
  rw [rngD, List.range_eq_range']
  exact this
def caL (l : List (Nat × Addr)) (i : Nat) : Addr := (l.lookup i).getD 0
end Mp


namespace Lw
open PySem L2 Mp
local macro_rules | `(tactic| simp? [$as,*]) => `(tactic| simp only [add_t, add_tb, dn_kin, dn_kix, kin_s, kix_s, Int.cast_ofNat_Int, Int.natCast_one, Int.natCast_zero, eOp_part, eOp_splt, twoK_s, two2_s, eChain_k, chnK_t, chnK_f, runC_rn, sLendG_k, lenK_o, lenK_v, lenK_b, lendO_s, lendV_s, sl_0l, sl_0t, sl_kd, lendD_n, lendB_s, lendD_r, ds_ford, ds_op, ds_stk, dn_op, dn_lcd, eDit_k, dit_v, dit_o, dit_b, eLcD_k, eOp_fld, fld_v, fld_o, fld_b, eOp_meth, eOp_isC, eOp_lit, lit_v, lit_o, lit_b, sOp_setf, dk_nil, dk_cons, kS2_n, kS2_x, dk_push, dk_pop, kB_ok, kB_ex, dk_top, topK_v, dk_if, ifK_t, ifK_f, dk_lim, limK_g, limK_e, gOf_glo, gOf_sub, gOf_ca, dn_get1, dn_dct0, dn_din, ds_dput, dk_s, dk_i, dk_t0, dk_t1, dk_t2, dk_t3, sDput_k, dputA_d, dputC_k, eDin_k, din_v, din_o, din_b, ain_s, anin_s, dinC_t, dinC_f, ix_dv, ix_do, ix_db, ixC_k, getO_some, getO_none, getC_k, eGet1_k, eGet2_k, get1_v, get1_o, get1_b, get2_v, get2_o, get2_b, runD, runO, st0, run_rn, cr_nx, cr_rt, cr_ex, crN_s, crX_s, pick_nil, pick_cons, pickK_s, cfin_ok, cfin_ex, denB_nil, denB_cons, dens, dn_var, dn_cst, dn_glo, dn_tup, dn_lst, dn_and, dn_or, dn_not, dn_neg, dn_bin, dn_cmp, dn_chn, dn_ite, dn_ix, dn_sl, dn_blt, dn_isi, dn_join, dn_get2, dn_call, dn_rng, dn_lc, ds_pass, ds_brk, ds_cnt, ds_drop, ds_ret, ds_retN, ds_retV, ds_set, ds_unp, ds_ite, ds_fore, ds_whl, ds_app, ds_ext, ds_clr, ds_frz, ds_lend, ds_callG, ds_raise, ds_tryM, ds_dpop, sDpop_k, dpopA_d, dpopB_s, dpopC_t, ds_lpop, sLpop_k, lpopB_s, ds_tryA, tA_nx, tA_rt, tA_ex, zipA_cons, zipA_nil, catchA_nil, catchA_cons, caA_n, caA_s, caA_f, exoR_k, unO_nx, unO_rt, eOp_xfld, opXf_k, eOp_xis, opXi_k, gOf_kit, eOp_disp, dispK_s, dispGo_nil, dispGo_cons, dispG2_s, ds_raiseF, gOf_lv, raiseL_s, xiOut_k, xiOut_x, xiQ_s, ds_tryE, tE_nx, tE_rt, tE_ex, denL, List.zip_cons_cons, List.zip_nil_left, List.zip_nil_right, sTry_k, tK_nx, tK_rt, tK_bk, tK_ct, tK_ex, catch_nil, catch_cons, caK_t, caK_f, noX_nx, noX_rt, noX_bk, noX_ct, oSeq_k, oK_nx, oK_rt, oK_bk, oK_ct, oK_ex, oK_st, oB_ok, oB_exc, Res.bind_ok, Res.bind_exc, Res.bind_stuck, sSet, sIf_k, oIf_t, oIf_f, sRet, sRetV, sRetN, sDrop, sFrz, sApp_k, appK_v, appK_o, sExt_k, extK_v, extK_o, sClr, onL, onO, oBs_k, sCallG_k, gK2_s, gK3_ok, gK3_ex, gK4_n, gK4_t, gK4_b, gK5_s, argM_nil, argM_cons, consO_s, arg1_v, arg1_o, arg1_io, arg1_le, ioA_s, leA_s, lentR_o, lentR_v, lentR_b, backM_nil, backM_io, backM_v, backM_le, List.append_nil, sUnp_k, unpK_v, setAll, vals, sFor_k, forK_ok, whK_t, whK_f, whN_nx, whN_ct, whN_bk, whN_rt, whN_ex, eVar, eArgs_nil, eArgs_cons, eTup_k, eLst_k, tupK_s, lstK_s, frozs_nil, frozs_cons, froK_s, froz_v, froz_o, eAnd_k, eOr_k, eNot_k, eIte_k, andK_t, andK_f, orK_t, orK_f, iteK_t, iteK_f, notK_b, eNeg, neg_i, eBin, bin_add, bin_sub, bin_mul, bin_div, bin_mod, bin_pow, add_i, add_s, add_oo, add_ov, add_vo, add_vv, sub_i, mul_r, mul_l, mul_s, mul_o, div_p, mod_p, pow_p, eCmp, c_eq, c_ne, c_lt, c_le, c_gt, c_ge, c_is, c_in, c_nin, eq_ii, eq_ss, eq_bb, ne_ii, ne_ss, ne_bb, lt_ii, le_ii, gt_ii, ge_ii, in_ss, nin_ss, eIx, optR_some, ix_lv, ix_lo, ix_lb, ix_tv, ix_tb, ix_s, eSl_k, sl_s, sl_lv, sl_lo, sl_lb, sl_tv, part_none, part_some, pK_i, eBlt_k, len_s, len_lv, len_lo, len_lb, len_tv, len_tb, str_p, int_i, int_b, list_lv, list_lo, list_lb, list_tv, tuple_lv, tuple_lo, tuple_lb, tuple_tv, all_o, any_o, sum_o, min_i, max_i, eIsi_k, isi_bb, isi_ii, isi_bi, isi_ss, isi_st, isi_tt, isi_ts, isi_it, isi_ti, isi_si, isi_ll, isi_lb, isi_lo, eCall_k, arg_v, arg_o, arg_b, eJoin_k, joinX_s, join_o, joinK_s, eGlo, setR_f, setR_fo, setR_t, eSeqX_k, eSeq_k, it_lv, it_lo, it_tv, it_s, id_lv, id_lo, id_lb, id_tv, id_tb, id_s, eRngV_k, rng_1, rng_2, eLc_k, lcK_ok, lcKd_ok, lcK_x, ofD, Bt.fn, Ty.T, List.map_cons, List.map_nil, List.head?_cons, List.head?_nil, List.length_cons, List.length_nil, List.cons_append, List.nil_append, List.replicate_succ, List.replicate_zero, List.getElem?_cons_zero, List.getElem?_cons_succ, List.set_cons_zero, List.set_cons_succ, Nat.reduceSub, Nat.reduceAdd, Nat.zero_add, if_true, Bool.false_eq_true, if_false, Bool.and_true, Bool.true_and, Nat.zero_le, decide_true, Bool.or_true, Bool.true_or, decide_false, Int.reduceLT, Int.reduceLE, Int.reduceMul, Int.reduceAdd, Int.reduceSub, Int.reduceNeg, Int.reduceToNat, Int.reduceMod, Int.reduceDiv, Nat.reduceLeDiff, Nat.reduceLT, Bool.not_true, Bool.not_false, Bool.and_self, beq_self_eq_true, Int.reducePow, Nat.reducePow, Int.reduceBEq, eOp_maxd, mxd_o, ofS_beq, String.reduceBEq, $as,*])
local macro_rules | `(tactic| simp?) => `(tactic| simp only [add_t, add_tb, dn_kin, dn_kix, kin_s, kix_s, Int.cast_ofNat_Int, Int.natCast_one, Int.natCast_zero, eOp_part, eOp_splt, twoK_s, two2_s, eChain_k, chnK_t, chnK_f, runC_rn, sLendG_k, lenK_o, lenK_v, lenK_b, lendO_s, lendV_s, sl_0l, sl_0t, sl_kd, lendD_n, lendB_s, lendD_r, ds_ford, ds_op, ds_stk, dn_op, dn_lcd, eDit_k, dit_v, dit_o, dit_b, eLcD_k, eOp_fld, fld_v, fld_o, fld_b, eOp_meth, eOp_isC, eOp_lit, lit_v, lit_o, lit_b, sOp_setf, dk_nil, dk_cons, kS2_n, kS2_x, dk_push, dk_pop, kB_ok, kB_ex, dk_top, topK_v, dk_if, ifK_t, ifK_f, dk_lim, limK_g, limK_e, gOf_glo, gOf_sub, gOf_ca, dn_get1, dn_dct0, dn_din, ds_dput, dk_s, dk_i, dk_t0, dk_t1, dk_t2, dk_t3, sDput_k, dputA_d, dputC_k, eDin_k, din_v, din_o, din_b, ain_s, anin_s, dinC_t, dinC_f, ix_dv, ix_do, ix_db, ixC_k, getO_some, getO_none, getC_k, eGet1_k, eGet2_k, get1_v, get1_o, get1_b, get2_v, get2_o, get2_b, runD, runO, st0, run_rn, cr_nx, cr_rt, cr_ex, crN_s, crX_s, pick_nil, pick_cons, pickK_s, cfin_ok, cfin_ex, denB_nil, denB_cons, dens, dn_var, dn_cst, dn_glo, dn_tup, dn_lst, dn_and, dn_or, dn_not, dn_neg, dn_bin, dn_cmp, dn_chn, dn_ite, dn_ix, dn_sl, dn_blt, dn_isi, dn_join, dn_get2, dn_call, dn_rng, dn_lc, ds_pass, ds_brk, ds_cnt, ds_drop, ds_ret, ds_retN, ds_retV, ds_set, ds_unp, ds_ite, ds_fore, ds_whl, ds_app, ds_ext, ds_clr, ds_frz, ds_lend, ds_callG, ds_raise, ds_tryM, ds_dpop, sDpop_k, dpopA_d, dpopB_s, dpopC_t, ds_lpop, sLpop_k, lpopB_s, ds_tryA, tA_nx, tA_rt, tA_ex, zipA_cons, zipA_nil, catchA_nil, catchA_cons, caA_n, caA_s, caA_f, exoR_k, unO_nx, unO_rt, eOp_xfld, opXf_k, eOp_xis, opXi_k, gOf_kit, eOp_disp, dispK_s, dispGo_nil, dispGo_cons, dispG2_s, ds_raiseF, gOf_lv, raiseL_s, xiOut_k, xiOut_x, xiQ_s, ds_tryE, tE_nx, tE_rt, tE_ex, denL, List.zip_cons_cons, List.zip_nil_left, List.zip_nil_right, sTry_k, tK_nx, tK_rt, tK_bk, tK_ct, tK_ex, catch_nil, catch_cons, caK_t, caK_f, noX_nx, noX_rt, noX_bk, noX_ct, oSeq_k, oK_nx, oK_rt, oK_bk, oK_ct, oK_ex, oK_st, oB_ok, oB_exc, Res.bind_ok, Res.bind_exc, Res.bind_stuck, sSet, sIf_k, oIf_t, oIf_f, sRet, sRetV, sRetN, sDrop, sFrz, sApp_k, appK_v, appK_o, sExt_k, extK_v, extK_o, sClr, onL, onO, oBs_k, sCallG_k, gK2_s, gK3_ok, gK3_ex, gK4_n, gK4_t, gK4_b, gK5_s, argM_nil, argM_cons, consO_s, arg1_v, arg1_o, arg1_io, arg1_le, ioA_s, leA_s, lentR_o, lentR_v, lentR_b, backM_nil, backM_io, backM_v, backM_le, List.append_nil, sUnp_k, unpK_v, setAll, vals, sFor_k, forK_ok, whK_t, whK_f, whN_nx, whN_ct, whN_bk, whN_rt, whN_ex, eVar, eArgs_nil, eArgs_cons, eTup_k, eLst_k, tupK_s, lstK_s, frozs_nil, frozs_cons, froK_s, froz_v, froz_o, eAnd_k, eOr_k, eNot_k, eIte_k, andK_t, andK_f, orK_t, orK_f, iteK_t, iteK_f, notK_b, eNeg, neg_i, eBin, bin_add, bin_sub, bin_mul, bin_div, bin_mod, bin_pow, add_i, add_s, add_oo, add_ov, add_vo, add_vv, sub_i, mul_r, mul_l, mul_s, mul_o, div_p, mod_p, pow_p, eCmp, c_eq, c_ne, c_lt, c_le, c_gt, c_ge, c_is, c_in, c_nin, eq_ii, eq_ss, eq_bb, ne_ii, ne_ss, ne_bb, lt_ii, le_ii, gt_ii, ge_ii, in_ss, nin_ss, eIx, optR_some, ix_lv, ix_lo, ix_lb, ix_tv, ix_tb, ix_s, eSl_k, sl_s, sl_lv, sl_lo, sl_lb, sl_tv, part_none, part_some, pK_i, eBlt_k, len_s, len_lv, len_lo, len_lb, len_tv, len_tb, str_p, int_i, int_b, list_lv, list_lo, list_lb, list_tv, tuple_lv, tuple_lo, tuple_lb, tuple_tv, all_o, any_o, sum_o, min_i, max_i, eIsi_k, isi_bb, isi_ii, isi_bi, isi_ss, isi_st, isi_tt, isi_ts, isi_it, isi_ti, isi_si, isi_ll, isi_lb, isi_lo, eCall_k, arg_v, arg_o, arg_b, eJoin_k, joinX_s, join_o, joinK_s, eGlo, setR_f, setR_fo, setR_t, eSeqX_k, eSeq_k, it_lv, it_lo, it_tv, it_s, id_lv, id_lo, id_lb, id_tv, id_tb, id_s, eRngV_k, rng_1, rng_2, eLc_k, lcK_ok, lcKd_ok, lcK_x, ofD, Bt.fn, Ty.T, List.map_cons, List.map_nil, List.head?_cons, List.head?_nil, List.length_cons, List.length_nil, List.cons_append, List.nil_append, List.replicate_succ, List.replicate_zero, List.getElem?_cons_zero, List.getElem?_cons_succ, List.set_cons_zero, List.set_cons_succ, Nat.reduceSub, Nat.reduceAdd, Nat.zero_add, if_true, Bool.false_eq_true, if_false, Bool.and_true, Bool.true_and, Nat.zero_le, decide_true, Bool.or_true, Bool.true_or, decide_false, Int.reduceLT, Int.reduceLE, Int.reduceMul, Int.reduceAdd, Int.reduceSub, Int.reduceNeg, Int.reduceToNat, Int.reduceMod, Int.reduceDiv, Nat.reduceLeDiff, Nat.reduceLT, Bool.not_true, Bool.not_false, Bool.and_self, beq_self_eq_true, Int.reducePow, Nat.reducePow, Int.reduceBEq, eOp_maxd, mxd_o, ofS_beq, String.reduceBEq])
/-! ### the text in words -/
def top (i : Nat) : Stmt := PySem.Challenge.pw_sealhouse_k10_refusals.main.body.getD i (.Pass ⟨0, 0, 0, 0⟩)
def inn (i j : Nat) : Stmt := match top i with | .ClassDef _ _ _ b _ _ _ _ _ _ _ => b.getD j (.Pass ⟨0, 0, 0, 0⟩) | _ => .Pass ⟨0, 0, 0, 0⟩
def d__law_cell : Df := ⟨2, ["_law_script", "_law_k", "_law_number"],
  [.ite (.cmp .Lt (.var 1) (.blt .len [.var 0]))
    [.ret (.bin .Add (.bin .Mult (.ix (.var 0) (.var 1)) (.cst (.int 48271))) (.bin .Mult (.cst (.int 7919)) (.var 1)))]
    [],
  .set false 2 (.bin .Add (.bin .Mult (.cst (.int 7919)) (.var 1)) (.cst (.int 11))),
  .ite (.cmp .Gt (.blt .len [.var 0]) (.cst (.int 0)))
    [.set false 2 (.bin .Add (.bin .Mult (.bin .Mod (.ix (.var 0) (.bin .Mod (.var 1) (.blt .len [.var 0]))) (.cst (.int 1000003))) (.cst (.int 48271))) (.bin .Mult (.bin .Mult (.cst (.int 7919)) (.var 1)) (.var 1)))]
    [],
  .ret (.bin .Mod (.var 2) (.cst (.int 2147483647)))], []⟩
def d__law_word : Df := ⟨1, ["_law_cell_here", "_law_word_here", "_law_k"],
  [.set false 1 (.cst (.str "")),
  .fore (.one 2) (.rng [.bin .Mod (.var 0) (.cst (.int 13))])
    [.set false 1 (.bin .Add (.var 1) (.ix (.cst (.str "abcdefghijklmnopqrstuvwxyz")) (.bin .Mod (.bin .Add (.bin .FloorDiv (.var 0) (.cst (.int 13))) (.bin .Mult (.cst (.int 3)) (.var 2))) (.cst (.int 26)))))],
  .retV 1], []⟩
def d__law_raise_more : Df := ⟨2, ["_law_k", "_law_fields"],
  [.ite (.cmp .Eq (.var 0) (.cst (.int 8)))
    [.raise 9]
    [],
  .ite (.cmp .Eq (.var 0) (.cst (.int 9)))
    [.raise 10]
    [],
  .ite (.cmp .Eq (.var 0) (.cst (.int 10)))
    [.raise 11]
    [],
  .ite (.cmp .Eq (.var 0) (.cst (.int 11)))
    [.raise 12]
    [],
  .ite (.cmp .Eq (.var 0) (.cst (.int 12)))
    [.raise 13]
    [],
  .ite (.cmp .Eq (.var 0) (.cst (.int 13)))
    [.raise 14]
    [],
  .ite (.cmp .Eq (.var 0) (.cst (.int 14)))
    [.raiseF 15 [.ix (.var 1) (.cst (.int 0)), .ix (.var 1) (.cst (.int 1)), .ix (.var 1) (.cst (.int 2)), .ix (.var 1) (.cst (.int 3))]]
    [],
  .raise 0], []⟩
def d__law_raise : Df := ⟨2, ["_law_k", "_law_fields"],
  [.ite (.cmp .Eq (.var 0) (.cst (.int 0)))
    [.raise 1]
    [],
  .ite (.cmp .Eq (.var 0) (.cst (.int 1)))
    [.raise 2]
    [],
  .ite (.cmp .Eq (.var 0) (.cst (.int 2)))
    [.raise 3]
    [],
  .ite (.cmp .Eq (.var 0) (.cst (.int 3)))
    [.raise 4]
    [],
  .ite (.cmp .Eq (.var 0) (.cst (.int 4)))
    [.raise 5]
    [],
  .ite (.cmp .Eq (.var 0) (.cst (.int 5)))
    [.raise 6]
    [],
  .ite (.cmp .Eq (.var 0) (.cst (.int 6)))
    [.raise 7]
    [],
  .ite (.cmp .Eq (.var 0) (.cst (.int 7)))
    [.raise 8]
    [],
  .drop (.call 1002 [.var 0, .var 1] [])], []⟩
def d__law_classes : Df := ⟨1, ["_law_e", "_law_found"],
  [.set false 1 (.lst [.op (.xis 1 "NoTree") [.var 0], .op (.xis 2 "NoForm") [.var 0], .op (.xis 3 "NoKind") [.var 0], .op (.xis 4 "NoName") [.var 0]]),
  .set false 1 (.bin .Add (.var 1) (.lst [.op (.xis 5 "Twice") [.var 0], .op (.xis 6 "TooBig") [.var 0], .op (.xis 7 "Clash") [.var 0], .op (.xis 8 "WrongKind") [.var 0]])),
  .set false 1 (.bin .Add (.var 1) (.lst [.op (.xis 9 "NoCount") [.var 0], .op (.xis 10 "BadOrder") [.var 0], .op (.xis 11 "TooHeavy") [.var 0]])),
  .set false 1 (.bin .Add (.var 1) (.lst [.op (.xis 12 "NotPlain") [.var 0], .op (.xis 13 "NoMark") [.var 0], .op (.xis 14 "TooWide") [.var 0]])),
  .ret (.bin .Add (.var 1) (.lst [.op (.xis 15 "NoFit") [.var 0]]))], []⟩
def d_law : Df := ⟨1, ["_law_script", "_law_k", "_law_due", "_law_found", "_law_fields", "_law_caught", "_law_e", "_law_j"],
  [.set false 1 (.bin .Mod (.call 1000 [.var 0, .cst (.int 0)] []) (.cst (.int 16))),
  .set false 2 (.tup [.cst (.str "num"), .bin .Add (.cst (.int 1)) (.bin .Mod (.call 1000 [.var 0, .cst (.int 3)] []) (.bin .Pow (.cst (.int 10)) (.cst (.int 18))))]),
  .set false 3 (.cst .non),
  .ite (.cmp .Eq (.bin .Mod (.call 1000 [.var 0, .cst (.int 4)] []) (.cst (.int 2))) (.cst (.int 1)))
    [.set false 3 (.tup [.cst (.str "pair"), .var 2, .tup [.cst (.str "name"), .call 1001 [.bin .FloorDiv (.call 1000 [.var 0, .cst (.int 4)] []) (.cst (.int 2))] [], .cst (.str "t")]])]
    [],
  .set false 4 (.lst [.call 1001 [.call 1000 [.var 0, .cst (.int 1)] []] [], .call 1001 [.call 1000 [.var 0, .cst (.int 2)] []] [], .var 2, .var 3]),
  .set false 5 (.cst .non),
  .tryA
    [.drop (.call 1003 [.var 1, .var 4] [])]
    [(0, some 6)]
    [[.set false 5 (.var 6)]]
    [],
  .ite (.or (.cmp .Is (.var 5) (.cst .non)) (.not (.op (.xis 99 "ValueError") [.var 5])))
    [.ret (.cst (.bl false))]
    [],
  .ite (.cmp .NotEq (.call 1004 [.var 5] []) (.lc (.cmp .Eq (.var 7) (.var 1)) (.one 7) (.rng [.cst (.int 15)]) []))
    [.ret (.cst (.bl false))]
    [],
  .ite (.cmp .Eq (.var 1) (.cst (.int 14)))
    [.ret (.cmp .Eq (.lst [.op (.xfld 15 "part") [.var 5], .op (.xfld 15 "name") [.var 5], .op (.xfld 15 "due") [.var 5], .op (.xfld 15 "found") [.var 5]]) (.var 4))]
    [],
  .ret (.cst (.bl true))], []⟩
def T : List (Nat × Df) := [(1000, d__law_cell), (1001, d__law_word), (1002, d__law_raise_more), (1003, d__law_raise), (1004, d__law_classes), (1005, d_law)]
def rows : List Row := [⟨1000, "_law_cell", "_law_cell", ["_law_cell"], ["_law_script", "_law_k"], top 18, [], [], []⟩, ⟨1001, "_law_word", "_law_word", ["_law_word"], ["_law_cell_here"], top 19, [], [], []⟩, ⟨1002, "_law_raise_more", "_law_raise_more", ["_law_raise_more"], ["_law_k", "_law_fields"], top 20, [], [], []⟩, ⟨1003, "_law_raise", "_law_raise", ["_law_raise"], ["_law_k", "_law_fields"], top 21, [], [], []⟩, ⟨1004, "_law_classes", "_law_classes", ["_law_classes"], ["_law_e"], top 22, [], [], []⟩, ⟨1005, "law", "law", ["law"], ["_law_script"], top 23, [], [], []⟩]
def tb : Tb := ⟨[("_law_cell", (1000, 2, [])), ("_law_word", (1001, 1, [])), ("_law_raise_more", (1002, 2, [])), ("_law_raise", (1003, 2, [])), ("_law_classes", (1004, 1, [])), ("law", (1005, 1, []))], [], ["ValueError", "isinstance", "len", "range"], [("Refused", 0), ("NoCount", 9), ("BadOrder", 10), ("TooHeavy", 11), ("NotPlain", 12), ("NoMark", 13), ("TooWide", 14), ("NoTree", 1), ("NoForm", 2), ("NoKind", 3), ("NoName", 4), ("Twice", 5), ("TooBig", 6), ("Clash", 7), ("WrongKind", 8)], [], [], [], [], [], [], [("NoFit", 15)], [(15, "part"), (15, "name"), (15, "due"), (15, "found")], [("Refused", 0), ("NoCount", 9), ("BadOrder", 10), ("TooHeavy", 11), ("NotPlain", 12), ("NoMark", 13), ("TooWide", 14), ("NoTree", 1), ("NoForm", 2), ("NoKind", 3), ("NoName", 4), ("Twice", 5), ("TooBig", 6), ("Clash", 7), ("WrongKind", 8), ("NoFit", 15)]⟩
def glo : List (Str × R) := []
def subs : List ((Nat × Nat) × Bool) := [((0, 0), true), ((9, 0), true), ((10, 0), true), ((11, 0), true), ((12, 0), true), ((13, 0), true), ((14, 0), true), ((15, 0), true), ((1, 0), true), ((2, 0), true), ((3, 0), true), ((4, 0), true), ((5, 0), true), ((6, 0), true), ((7, 0), true), ((8, 0), true)]
def kits : List ((Nat × Nat) × Bool) := (([((0, 1), false), ((0, 2), false), ((0, 3), false), ((0, 4), false), ((0, 5), false), ((0, 6), false), ((0, 7), false), ((0, 8), false), ((0, 9), false), ((0, 10), false), ((0, 11), false), ((0, 12), false), ((0, 13), false), ((0, 14), false), ((0, 15), false), ((9, 1), false), ((9, 2), false), ((9, 3), false), ((9, 4), false), ((9, 5), false)] : List ((Nat × Nat) × Bool)) ++ ([((9, 6), false), ((9, 7), false), ((9, 8), false), ((9, 9), true), ((9, 10), false), ((9, 11), false), ((9, 12), false), ((9, 13), false), ((9, 14), false), ((9, 15), false), ((10, 1), false), ((10, 2), false), ((10, 3), false), ((10, 4), false), ((10, 5), false), ((10, 6), false), ((10, 7), false), ((10, 8), false), ((10, 9), false), ((10, 10), true)] : List ((Nat × Nat) × Bool)) ++ ([((10, 11), false), ((10, 12), false), ((10, 13), false), ((10, 14), false), ((10, 15), false), ((11, 1), false), ((11, 2), false), ((11, 3), false), ((11, 4), false), ((11, 5), false), ((11, 6), false), ((11, 7), false), ((11, 8), false), ((11, 9), false), ((11, 10), false), ((11, 11), true), ((11, 12), false), ((11, 13), false), ((11, 14), false), ((11, 15), false)] : List ((Nat × Nat) × Bool)) ++ ([((12, 1), false), ((12, 2), false), ((12, 3), false), ((12, 4), false), ((12, 5), false), ((12, 6), false), ((12, 7), false), ((12, 8), false), ((12, 9), false), ((12, 10), false), ((12, 11), false), ((12, 12), true), ((12, 13), false), ((12, 14), false), ((12, 15), false), ((13, 1), false), ((13, 2), false), ((13, 3), false), ((13, 4), false), ((13, 5), false)] : List ((Nat × Nat) × Bool)) ++ ([((13, 6), false), ((13, 7), false), ((13, 8), false), ((13, 9), false), ((13, 10), false), ((13, 11), false), ((13, 12), false), ((13, 13), true), ((13, 14), false), ((13, 15), false), ((14, 1), false), ((14, 2), false), ((14, 3), false), ((14, 4), false), ((14, 5), false), ((14, 6), false), ((14, 7), false), ((14, 8), false), ((14, 9), false), ((14, 10), false)] : List ((Nat × Nat) × Bool)) ++ ([((14, 11), false), ((14, 12), false), ((14, 13), false), ((14, 14), true), ((14, 15), false), ((15, 1), false), ((15, 2), false), ((15, 3), false), ((15, 4), false), ((15, 5), false), ((15, 6), false), ((15, 7), false), ((15, 8), false), ((15, 9), false), ((15, 10), false), ((15, 11), false), ((15, 12), false), ((15, 13), false), ((15, 14), false), ((15, 15), true)] : List ((Nat × Nat) × Bool)) ++ ([((1, 1), true), ((1, 2), false), ((1, 3), false), ((1, 4), false), ((1, 5), false), ((1, 6), false), ((1, 7), false), ((1, 8), false), ((1, 9), false), ((1, 10), false), ((1, 11), false), ((1, 12), false), ((1, 13), false), ((1, 14), false), ((1, 15), false), ((2, 1), false), ((2, 2), true), ((2, 3), false), ((2, 4), false), ((2, 5), false)] : List ((Nat × Nat) × Bool)) ++ ([((2, 6), false), ((2, 7), false), ((2, 8), false), ((2, 9), false), ((2, 10), false), ((2, 11), false), ((2, 12), false), ((2, 13), false), ((2, 14), false), ((2, 15), false), ((3, 1), false), ((3, 2), false), ((3, 3), true), ((3, 4), false), ((3, 5), false), ((3, 6), false), ((3, 7), false), ((3, 8), false), ((3, 9), false), ((3, 10), false)] : List ((Nat × Nat) × Bool)) ++ ([((3, 11), false), ((3, 12), false), ((3, 13), false), ((3, 14), false), ((3, 15), false), ((4, 1), false), ((4, 2), false), ((4, 3), false), ((4, 4), true), ((4, 5), false), ((4, 6), false), ((4, 7), false), ((4, 8), false), ((4, 9), false), ((4, 10), false), ((4, 11), false), ((4, 12), false), ((4, 13), false), ((4, 14), false), ((4, 15), false)] : List ((Nat × Nat) × Bool)) ++ ([((5, 1), false), ((5, 2), false), ((5, 3), false), ((5, 4), false), ((5, 5), true), ((5, 6), false), ((5, 7), false), ((5, 8), false), ((5, 9), false), ((5, 10), false), ((5, 11), false), ((5, 12), false), ((5, 13), false), ((5, 14), false), ((5, 15), false), ((6, 1), false), ((6, 2), false), ((6, 3), false), ((6, 4), false), ((6, 5), false)] : List ((Nat × Nat) × Bool)) ++ ([((6, 6), true), ((6, 7), false), ((6, 8), false), ((6, 9), false), ((6, 10), false), ((6, 11), false), ((6, 12), false), ((6, 13), false), ((6, 14), false), ((6, 15), false), ((7, 1), false), ((7, 2), false), ((7, 3), false), ((7, 4), false), ((7, 5), false), ((7, 6), false), ((7, 7), true), ((7, 8), false), ((7, 9), false), ((7, 10), false)] : List ((Nat × Nat) × Bool)) ++ ([((7, 11), false), ((7, 12), false), ((7, 13), false), ((7, 14), false), ((7, 15), false), ((8, 1), false), ((8, 2), false), ((8, 3), false), ((8, 4), false), ((8, 5), false), ((8, 6), false), ((8, 7), false), ((8, 8), true), ((8, 9), false), ((8, 10), false), ((8, 11), false), ((8, 12), false), ((8, 13), false), ((8, 14), false), ((8, 15), false)] : List ((Nat × Nat) × Bool)) ++ ([((0, 99), true), ((9, 99), true), ((10, 99), true), ((11, 99), true), ((12, 99), true), ((13, 99), true), ((14, 99), true), ((15, 99), true), ((1, 99), true), ((2, 99), true), ((3, 99), true), ((4, 99), true), ((5, 99), true), ((6, 99), true), ((7, 99), true), ((8, 99), true)] : List ((Nat × Nat) × Bool)))
def M (ca : Nat → Addr) : Mn := ⟨glo, subT subs, ca, subT kits⟩
theorem tabOk : tabB T rows tb = true := by decide +kernel
theorem fsO : fsOk T rows tb = true := by decide +kernel


section
variable {ca : Nat → Addr}
theorem cell_eq (n : Nat) (s : List Int) (k : Int) (h0 : 0 ≤ k) (h1 : k ≤ 1000) : rn T (M ca) (n + 1) 1000 [.bor (.lst (s.map D.int)), .val (.int k)] = .ok (.val (.int (cell1 s k))) := by
  rw [rn_at (F := d__law_cell) rfl]
  exact congrArg CR.fin (cell1_eq _ s k h0 h1)
def wordB10 : List Sm := match d__law_word.body.getD 1 .pass with
  | .fore _ _ b => b
  | _ => []
theorem word_eq10 (n : Nat) (x : Int) : ∃ w : Str, rn T (M ca) (n + 1) 1001 [.val (.int x)] = .ok (.val (.str w)) := by
  rw [rn_at (F := d__law_word) rfl]
  have hA : Str.length "abcdefghijklmnopqrstuvwxyz" ≤ LIM := by decide +kernel
  have p1 : decide (x % 13 ≤ 1000000) = true := decide_eq_true (by omega)
  have p2 : decide (-1000000 ≤ x % 13) = true := decide_eq_true (by omega)
  simp? [d__law_word, p1, p2]
  generalize hF : forGo _ _ _ _ = F
  obtain ⟨ρ', e, w, b, hρ, hw⟩ := forGo_rng (j := 2) (body := denB (gOf T (M ca) n) wordB10) (fun i ρ => ∃ (w : Str) (b : Option R), ρ = [some (.val (.int x)), some (.val (.str w)), b] ∧ w.length = i) 0 (x % 13).toNat (ρ := [some (.val (.int x)), some (.val (.str "")), none]) ⟨"", none, rfl, rfl⟩
    (fun i ρ hi ⟨w, b, hρ, hw⟩ => by
      subst hρ
      obtain ⟨c, hc⟩ := at_lit (z := "abcdefghijklmnopqrstuvwxyz") (n := 26) (by decide +kernel) (i := (x / 13 + 3 * (0 + (i : Int))) % 26) (by omega) (by omega)
      have l1 : w.length + Str.length ⟨#[c]⟩ ≤ LIM := lim_small (by rw [len1]; omega)
      exact ⟨[some (.val (.int x)), some (.val (.str (w ++ ⟨#[c]⟩))), some (.val (.int (0 + (i : Int))))], .inl (by simp? [wordB10, d__law_word, List.getD_cons_succ, List.getD_cons_zero, hA, hc, l1]), _, _, rfl, by rw [len_app, len1, hw]⟩)
  have e := hF.symm.trans e
  subst e hρ
  exact ⟨w, by simp?⟩
def cd (k : Nat) : Nat := if k = 15 then 0 else k + 1
def plk (k : Nat) (a b : Str) (d e : D) : List (Str × D) := if k = 14 then [("found", e), ("due", d), ("name", .str b), ("part", .str a)] else []
theorem k16 {k : Nat} (h : k < 16) : k = 0 ∨ k = 1 ∨ k = 2 ∨ k = 3 ∨ k = 4 ∨ k = 5 ∨ k = 6 ∨ k = 7 ∨ k = 8 ∨ k = 9 ∨ k = 10 ∨ k = 11 ∨ k = 12 ∨ k = 13 ∨ k = 14 ∨ k = 15 := by omega
theorem raise_eq (n k : Nat) (hk : k < 16) (a b : Str) (d e : D) : rn T (M ca) (n + 4) 1003 [.val (.int (k : Int)), .val (.lst [.str a, .str b, d, e])] = .exc (cd k) (plk k a b d e) := by
  rw [rn_at (F := d__law_raise) rfl]
  have e2 : 7 < k → rn T (M ca) (n + 3) 1002 [.val (.int (k : Int)), .val (.lst [.str a, .str b, d, e])] = .exc (cd k) (plk k a b d e) := fun h7 => by
    rw [rn_at (F := d__law_raise_more) rfl]
    rcases k16 hk with rfl | rfl | rfl | rfl | rfl | rfl | rfl | rfl | rfl | rfl | rfl | rfl | rfl | rfl | rfl | rfl <;> first | omega | (simp? [d__law_raise_more, atI0, atI1, atI2, atI3]; rfl)
  rcases k16 hk with rfl | rfl | rfl | rfl | rfl | rfl | rfl | rfl | rfl | rfl | rfl | rfl | rfl | rfl | rfl | rfl <;> first | (have e2 := e2 (by omega); simp? [d__law_raise] ; simp only [Int.cast_ofNat_Int] at e2; simp only [e2, oB_exc, oK_ex, cr_ex, pick_nil, crX_s, cfin_ex]; done) | (simp? [d__law_raise]; rfl)
theorem kits_ok : ∀ c < 16, ∀ j < 16, 1 ≤ j → subT kits c j = some (decide (c = j)) := by decide +kernel
theorem kit99 : ∀ c < 16, subT kits c 99 = some true := by decide +kernel
def cls (c : Nat) : List D := (List.range 15).map fun j => .bl (decide (c = j + 1))
theorem classes_eq (n c : Nat) (hc : c < 16) (ns : List Str) (ds : List D) : rn T (M ca) (n + 1) 1004 [.val (.exo c (ca c) ns ds)] = .ok (.own (.lst (cls c))) := by
  rw [rn_at (F := d__law_classes) rfl]
  have z : ∀ j, 1 ≤ j → j < 16 → (M ca).kit c j = some (decide (c = j)) := fun j h1 h2 => kits_ok c hc j h2 h1
  have cM : (M ca).ca = ca := rfl
  have i := fun (j : Nat) => opXi_k ca (fun k => (M ca).kit k j) c ns ds
  have l4 : (4 : Nat) ≤ LIM := by decide
  have l1 : (1 : Nat) ≤ LIM := by decide
  have l3 : (3 : Nat) ≤ LIM := by decide
  have l8 : (8 : Nat) ≤ LIM := by decide
  have l11 : (11 : Nat) ≤ LIM := by decide
  have l14 : (14 : Nat) ≤ LIM := by decide
  have l15 : (15 : Nat) ≤ LIM := by decide
  simp? [d__law_classes, cM, i, z 1 (by omega) (by omega), z 2 (by omega) (by omega), z 3 (by omega) (by omega), z 4 (by omega) (by omega), z 5 (by omega) (by omega), z 6 (by omega) (by omega), z 7 (by omega) (by omega), z 8 (by omega) (by omega), z 9 (by omega) (by omega), z 10 (by omega) (by omega), z 11 (by omega) (by omega), z 12 (by omega) (by omega), z 13 (by omega) (by omega), z 14 (by omega) (by omega), z 15 (by omega) (by omega), l1, l3, l4, l8, l11, l14, l15]
  rfl
theorem law_true (ca : Nat → Addr) (ns : List Int) (hn : ns.length ≤ 63) : rn T (M ca) 40 1005 [.bor (.lst (ns.map D.int))] = .ok (.val (.bl true)) := by
  rw [rn_at (F := d_law) rfl]
  have c := fun (k : Int) h0 h1 => cell_eq (ca := ca) 38 ns k h0 h1
  have c0 := c 0 (by omega) (by omega)
  have c1 := c 1 (by omega) (by omega)
  have c2 := c 2 (by omega) (by omega)
  have c3 := c 3 (by omega) (by omega)
  have c4 := c 4 (by omega) (by omega)
  obtain ⟨w1, e1⟩ := word_eq10 (ca := ca) 38 (cell1 ns 1)
  obtain ⟨w2, e2⟩ := word_eq10 (ca := ca) 38 (cell1 ns 2)
  obtain ⟨w3, e3⟩ := word_eq10 (ca := ca) 38 (cell1 ns 4 / 2)
  obtain ⟨k, hk, hk2⟩ : ∃ k : Nat, cell1 ns 0 % 16 = (k : Int) ∧ k < 16 := ⟨(cell1 ns 0 % 16).toNat, by omega, by omega⟩
  have l2 : (2 : Nat) ≤ LIM := by decide
  have l3 : (3 : Nat) ≤ LIM := by decide
  have l4 : (4 : Nat) ≤ LIM := by decide
  -- what is found
  obtain ⟨fo, ef, nf, df⟩ : ∃ fo : D, (∀ ρ : Mp.Env, ρ = [some (.bor (.lst (ns.map D.int))), some (.val (.int (k : Int))), some (.val (.tup [.str "num", .int (1 + cell1 ns 3 % 1000000000000000000)])), some (.val .non), none, none, none, none] →
      denS (gOf T (M ca) 39) (d_law.body.getD 3 .pass) ρ = .nx (ρ.set 3 (some (.val fo)))) ∧ noD fo = true ∧ dep fo ≤ 10 := by
    by_cases h : cell1 ns 4 % 2 = 1
    · have q : (cell1 ns 4 % 2 == 1) = true := by rw [h]; rfl
      exact ⟨.tup [.str "pair", .tup [.str "num", .int (1 + cell1 ns 3 % 1000000000000000000)], .tup [.str "name", .str w3, .str "t"]], fun ρ hρ => by subst hρ; simp? [d_law, List.getD_cons_succ, List.getD_cons_zero, c4, e3, q, l3], rfl, by simp [dep, deps]⟩
    · have q : (cell1 ns 4 % 2 == 1) = false := beq_eq_false_iff_ne.mpr h
      exact ⟨.non, fun ρ hρ => by subst hρ; simp? [d_law, List.getD_cons_succ, List.getD_cons_zero, c4, q], rfl, by decide⟩
  have ef := ef _ rfl
  simp only [d_law, List.getD_cons_succ, List.getD_cons_zero] at ef
  have r := raise_eq (ca := ca) 35 k hk2 w1 w2 (.tup [.str "num", .int (1 + cell1 ns 3 % 1000000000000000000)]) fo
  have s1 : (M ca).sub (cd k) 0 = some true := by
    show subT subs (cd k) 0 = some true
    rcases k16 hk2 with rfl | rfl | rfl | rfl | rfl | rfl | rfl | rfl | rfl | rfl | rfl | rfl | rfl | rfl | rfl | rfl <;> decide +kernel
  have hc : cd k < 16 := by unfold cd; split <;> omega
  have k1 : (M ca).kit (cd k) 99 = some true := kit99 _ hc
  have cM : (M ca).ca = ca := rfl
  have i99 := opXi_k ca (fun j => (M ca).kit j 99) (cd k) ((plk k w1 w2 (.tup [.str "num", .int (1 + cell1 ns 3 % 1000000000000000000)]) fo).map (·.1)) ((plk k w1 w2 (.tup [.str "num", .int (1 + cell1 ns 3 % 1000000000000000000)]) fo).map (·.2))
  have ce := classes_eq (ca := ca) 38 (cd k) hc ((plk k w1 w2 (.tup [.str "num", .int (1 + cell1 ns 3 % 1000000000000000000)]) fo).map (·.1)) ((plk k w1 w2 (.tup [.str "num", .int (1 + cell1 ns 3 % 1000000000000000000)]) fo).map (·.2))
  generalize hd : (D.tup [.str "num", .int (1 + cell1 ns 3 % 1000000000000000000)]) = due at *
  have nd : noD due = true ∧ dep due ≤ 10 := by subst hd; exact ⟨rfl, by simp [dep, deps]⟩
  have isn : cpIs (.val (.exo (cd k) (ca (cd k)) ((plk k w1 w2 due fo).map (·.1)) ((plk k w1 w2 due fo).map (·.2)))) (.val .non) = .ok (.val (.bl false)) := rfl
  have hm : lcGo (fun d => bindD (.one 7) d (wipeE [some (.bor (.lst (ns.map D.int))), some (.val (.int (k : Int))), some (.val due), some (.val fo), some (.val (.lst [.str w1, .str w2, due, fo])), some (.val (.exo (cd k) (ca (cd k)) ((plk k w1 w2 due fo).map (·.1)) ((plk k w1 w2 due fo).map (·.2)))), none, none] (Tg.one 7).slots)) none (den (gOf T (M ca) 39) (.cmp .Eq (.var 7) (.var 1))) (rngD 0 15) [] = .ok (cls (cd k)) := by
    have := lcGo_map (b := fun d => bindD (.one 7) d (wipeE [some (.bor (.lst (ns.map D.int))), some (.val (.int (k : Int))), some (.val due), some (.val fo), some (.val (.lst [.str w1, .str w2, due, fo])), some (.val (.exo (cd k) (ca (cd k)) ((plk k w1 w2 due fo).map (·.1)) ((plk k w1 w2 due fo).map (·.2)))), none, none] (Tg.one 7).slots)) (elt := den (gOf T (M ca) 39) (.cmp .Eq (.var 7) (.var 1))) (f := fun d => match d with | .int j => .bl (j == (k : Int)) | _ => .non) (ds := rngD 0 15) (acc := []) (fun d hd => by
      obtain ⟨j, hj, rfl⟩ := rngD_mem hd
      exact ⟨_, .val (.bl ((0 + (j : Int)) == (k : Int))), rfl, by simp? [wipeE, Tg.slots], rfl⟩) (by rw [rngD_len]; decide)
    rw [this]
    unfold cls rngD
    simp only [List.nil_append, List.map_map]
    congr 1
    refine List.map_congr_left fun j hj => ?_
    have hj := List.mem_range.mp hj
    simp only [Function.comp]
    congr 1
    unfold cd
    rw [Bool.eq_iff_iff, beq_iff_eq, decide_eq_true_eq]
    split <;> omega
  have clsN : noDs (cls (cd k)) = true ∧ deps (cls (cd k)) = 0 := by
    unfold cls
    generalize List.range 15 = l
    induction l with
    | nil => exact ⟨rfl, rfl⟩
    | cons a l ih => obtain ⟨h1, h2⟩ := ih; simp [noDs, deps, noD, dep, h1, h2]
  have ne1 : cpNe (.own (.lst (cls (cd k)))) (.own (.lst (cls (cd k)))) = .ok (.val (.bl false)) := by
    show (if eqOk (.lst (cls (cd k))) (.lst (cls (cd k))) = true then b2r (!deq (.lst (cls (cd k))) (.lst (cls (cd k)))) else _) = _
    rw [if_pos (by simp [eqOk, noD, dep, clsN.1, clsN.2]), deq_refl _ (by simp only [noD]; exact clsN.1)]
    rfl
  have h15 : decide ((15 : Int) ≤ 1000000) = true := by decide
  by_cases h14 : k = 14
  · subst h14
    have eqf : cpEq (.own (.lst [.str w1, .str w2, due, fo])) (.val (.lst [.str w1, .str w2, due, fo])) = .ok (.val (.bl true)) := by
      have nn : noD (.lst [.str w1, .str w2, due, fo]) = true := by simp [noD, noDs, nd.1, nf]
      show (if eqOk (.lst [.str w1, .str w2, due, fo]) (.lst [.str w1, .str w2, due, fo]) = true then b2r (deq (.lst [.str w1, .str w2, due, fo]) (.lst [.str w1, .str w2, due, fo])) else _) = _
      rw [if_pos (by simp only [eqOk, nn, dep, deps]; simp; omega), deq_refl _ nn]
      rfl
    have pl : plk 14 w1 w2 due fo = ([("found", fo), ("due", due), ("name", .str w2), ("part", .str w1)] : List (Str × D)) := by unfold plk; rw [if_pos rfl]
    have c15 : cd 14 = 15 := rfl
    rw [pl] at r i99 ce isn hm
    simp only [c15] at r i99 ce isn hm s1 k1 ne1
    have f1 := opXf_k 15 (ca 15) "part" ["found", "due", "name", "part"] [fo, due, .str w2, .str w1]
    have f2 := opXf_k 15 (ca 15) "name" ["found", "due", "name", "part"] [fo, due, .str w2, .str w1]
    have f3 := opXf_k 15 (ca 15) "due" ["found", "due", "name", "part"] [fo, due, .str w2, .str w1]
    have f4 := opXf_k 15 (ca 15) "found" ["found", "due", "name", "part"] [fo, due, .str w2, .str w1]
    have g1 : fldGet "part" ["found", "due", "name", "part"] [fo, due, .str w2, .str w1] = some (.str w1) := by simp only [fldGet]; rfl
    have g2 : fldGet "name" ["found", "due", "name", "part"] [fo, due, .str w2, .str w1] = some (.str w2) := by simp only [fldGet]; rfl
    have g3 : fldGet "due" ["found", "due", "name", "part"] [fo, due, .str w2, .str w1] = some due := by simp only [fldGet]; rfl
    have g4 : fldGet "found" ["found", "due", "name", "part"] [fo, due, .str w2, .str w1] = some fo := by simp only [fldGet]; rfl
    simp only [List.map_cons, List.map_nil] at i99 ce isn hm
    simp only [Int.cast_ofNat_Int] at ef r hm hk
    simp? [d_law, c0, c1, c2, c3, e1, e2, hk, hd, l2, l4, ef, r, s1, cM, i99, k1, isn, ce, hm, ne1, c15, f1, f2, f3, f4, g1, g2, g3, g4, eqf]
  · have q14 : ((k : Int) == 14) = false := beq_eq_false_iff_ne.mpr (by omega)
    have pl : plk k w1 w2 due fo = [] := by unfold plk; rw [if_neg h14]
    rw [pl] at r i99 ce isn hm
    simp only [List.map_nil] at i99 ce isn hm
    simp? [d_law, c0, c1, c2, c3, e1, e2, hk, hd, l2, l4, ef, r, s1, cM, i99, k1, isn, ce, hm, ne1, q14]
end

/-! ### the text at the top -/
theorem xit15 : XiT (inn 16 0) "Refused" "a face does not fit" := ⟨_, _, _, _, _, _, _, _, _, _, _, _, _, _, _, _, _, _, _, _, _, _, _, rfl, fun env => ⟨_, rfl⟩⟩
theorem xsc15 : scopeB xiN xiN (defScope (inn 16 0)) = true := by decide +kernel
theorem xgl15 : gloOk (defScope (inn 16 0)) "Refused" = true := by decide +kernel
theorem step_0 {K : PySem.W.Frag} {h : Heap} {mg : Str → Option Value} {GOAL : Prop} (X : K.In h) (G : h.Ns mainGlobals mg)
    {f0 : Addr} {od0 an0 : Option Addr} {sl0 : Array (Option Value)} {oc0 kV0 dc0 pm0 cd0 ct0 : Value} (a0 : PySem.W.nsIn K mainGlobals "_law_cell" = some (some (.ref f0))) (l0 : K.lookup f0 = some ⟨oc0, od0, .func (PySem.W.fnOf "_law_cell" "_law_cell" (defArgs (top 18)) (defBody (top 18)) (defScope (top 18)) .none kV0 dc0 pm0 an0 cd0 ct0), sl0⟩) (c0 : PySem.W.codeIn K cd0 "_law_cell" = true) (k0 : PySem.W.keepIn K (.ref f0) = true)
    (next : (∀ ca : Nat → Addr, TxOk K mg ca ⟨1000, "_law_cell", "_law_cell", ["_law_cell"], ["_law_script", "_law_k"], top 18, [], [], []⟩) → GOAL) : GOAL := by
  have t0 := txt_mk (x := "_law_cell") (qual := "_law_cell") (st := top 18) (ps := ["_law_script", "_law_k"]) l0 c0 k0 fun _ _ _ _ _ _ us hl => match us, hl with | [_, _], _ => rfl
  exact next fun ca => ⟨f0, _, t0, (mg_cons (PySem.W.mg_of X G a0) mg_nil), mt_nil, ini_nil⟩
theorem step_1 {K : PySem.W.Frag} {h : Heap} {mg : Str → Option Value} {GOAL : Prop} (X : K.In h) (G : h.Ns mainGlobals mg)
    {f1 : Addr} {od1 an1 : Option Addr} {sl1 : Array (Option Value)} {oc1 kV1 dc1 pm1 cd1 ct1 : Value} (a1 : PySem.W.nsIn K mainGlobals "_law_word" = some (some (.ref f1))) (l1 : K.lookup f1 = some ⟨oc1, od1, .func (PySem.W.fnOf "_law_word" "_law_word" (defArgs (top 19)) (defBody (top 19)) (defScope (top 19)) .none kV1 dc1 pm1 an1 cd1 ct1), sl1⟩) (c1 : PySem.W.codeIn K cd1 "_law_word" = true) (k1 : PySem.W.keepIn K (.ref f1) = true)
    (next : (∀ ca : Nat → Addr, TxOk K mg ca ⟨1001, "_law_word", "_law_word", ["_law_word"], ["_law_cell_here"], top 19, [], [], []⟩) → GOAL) : GOAL := by
  have t1 := txt_mk (x := "_law_word") (qual := "_law_word") (st := top 19) (ps := ["_law_cell_here"]) l1 c1 k1 fun _ _ _ _ _ _ us hl => match us, hl with | [_], _ => rfl
  exact next fun ca => ⟨f1, _, t1, (mg_cons (PySem.W.mg_of X G a1) mg_nil), mt_nil, ini_nil⟩
theorem step_2 {K : PySem.W.Frag} {h : Heap} {mg : Str → Option Value} {GOAL : Prop} (X : K.In h) (G : h.Ns mainGlobals mg)
    {f2 : Addr} {od2 an2 : Option Addr} {sl2 : Array (Option Value)} {oc2 kV2 dc2 pm2 cd2 ct2 : Value} (a2 : PySem.W.nsIn K mainGlobals "_law_raise_more" = some (some (.ref f2))) (l2 : K.lookup f2 = some ⟨oc2, od2, .func (PySem.W.fnOf "_law_raise_more" "_law_raise_more" (defArgs (top 20)) (defBody (top 20)) (defScope (top 20)) .none kV2 dc2 pm2 an2 cd2 ct2), sl2⟩) (c2 : PySem.W.codeIn K cd2 "_law_raise_more" = true) (k2 : PySem.W.keepIn K (.ref f2) = true)
    (next : (∀ ca : Nat → Addr, TxOk K mg ca ⟨1002, "_law_raise_more", "_law_raise_more", ["_law_raise_more"], ["_law_k", "_law_fields"], top 20, [], [], []⟩) → GOAL) : GOAL := by
  have t2 := txt_mk (x := "_law_raise_more") (qual := "_law_raise_more") (st := top 20) (ps := ["_law_k", "_law_fields"]) l2 c2 k2 fun _ _ _ _ _ _ us hl => match us, hl with | [_, _], _ => rfl
  exact next fun ca => ⟨f2, _, t2, (mg_cons (PySem.W.mg_of X G a2) mg_nil), mt_nil, ini_nil⟩
theorem step_3 {K : PySem.W.Frag} {h : Heap} {mg : Str → Option Value} {GOAL : Prop} (X : K.In h) (G : h.Ns mainGlobals mg)
    {f3 : Addr} {od3 an3 : Option Addr} {sl3 : Array (Option Value)} {oc3 kV3 dc3 pm3 cd3 ct3 : Value} (a3 : PySem.W.nsIn K mainGlobals "_law_raise" = some (some (.ref f3))) (l3 : K.lookup f3 = some ⟨oc3, od3, .func (PySem.W.fnOf "_law_raise" "_law_raise" (defArgs (top 21)) (defBody (top 21)) (defScope (top 21)) .none kV3 dc3 pm3 an3 cd3 ct3), sl3⟩) (c3 : PySem.W.codeIn K cd3 "_law_raise" = true) (k3 : PySem.W.keepIn K (.ref f3) = true)
    (next : (∀ ca : Nat → Addr, TxOk K mg ca ⟨1003, "_law_raise", "_law_raise", ["_law_raise"], ["_law_k", "_law_fields"], top 21, [], [], []⟩) → GOAL) : GOAL := by
  have t3 := txt_mk (x := "_law_raise") (qual := "_law_raise") (st := top 21) (ps := ["_law_k", "_law_fields"]) l3 c3 k3 fun _ _ _ _ _ _ us hl => match us, hl with | [_, _], _ => rfl
  exact next fun ca => ⟨f3, _, t3, (mg_cons (PySem.W.mg_of X G a3) mg_nil), mt_nil, ini_nil⟩
theorem step_4 {K : PySem.W.Frag} {h : Heap} {mg : Str → Option Value} {GOAL : Prop} (X : K.In h) (G : h.Ns mainGlobals mg)
    {f4 : Addr} {od4 an4 : Option Addr} {sl4 : Array (Option Value)} {oc4 kV4 dc4 pm4 cd4 ct4 : Value} (a4 : PySem.W.nsIn K mainGlobals "_law_classes" = some (some (.ref f4))) (l4 : K.lookup f4 = some ⟨oc4, od4, .func (PySem.W.fnOf "_law_classes" "_law_classes" (defArgs (top 22)) (defBody (top 22)) (defScope (top 22)) .none kV4 dc4 pm4 an4 cd4 ct4), sl4⟩) (c4 : PySem.W.codeIn K cd4 "_law_classes" = true) (k4 : PySem.W.keepIn K (.ref f4) = true)
    (next : (∀ ca : Nat → Addr, TxOk K mg ca ⟨1004, "_law_classes", "_law_classes", ["_law_classes"], ["_law_e"], top 22, [], [], []⟩) → GOAL) : GOAL := by
  have t4 := txt_mk (x := "_law_classes") (qual := "_law_classes") (st := top 22) (ps := ["_law_e"]) l4 c4 k4 fun _ _ _ _ _ _ us hl => match us, hl with | [_], _ => rfl
  exact next fun ca => ⟨f4, _, t4, (mg_cons (PySem.W.mg_of X G a4) mg_nil), mt_nil, ini_nil⟩
theorem all_mk {l : PySem.W.OpenLaw} {w : World} {K : PySem.W.Frag} {h : Heap} {mg : Str → Option Value} {fa : Addr} (X : K.In h) (G : h.Ns mainGlobals mg) (hfa : mg "law" = some (.ref fa))
    {x0 : Addr} (xa0 : PySem.W.nsIn K mainGlobals "Refused" = some (some (.ref x0))) (xk0 : PySem.W.keepIn K (.ref x0) = true) (xb0 : PySem.W.subIn K (.ref x0) (.type "BaseException") = some true) (xt0 : PySem.W.typeIn K (.ref x0) = some (.type "type")) (xe0 : PySem.W.excIn K x0 [.type "ValueError", .type "Exception", .type "BaseException", .type "object"] "ValueError.__new__" = true)
    {x9 : Addr} (xa9 : PySem.W.nsIn K mainGlobals "NoCount" = some (some (.ref x9))) (xk9 : PySem.W.keepIn K (.ref x9) = true) (xb9 : PySem.W.subIn K (.ref x9) (.type "BaseException") = some true) (xt9 : PySem.W.typeIn K (.ref x9) = some (.type "type")) (xe9 : PySem.W.excIn K x9 [.type "ValueError", .type "Exception", .type "BaseException", .type "object"] "ValueError.__new__" = true)
    {x10 : Addr} (xa10 : PySem.W.nsIn K mainGlobals "BadOrder" = some (some (.ref x10))) (xk10 : PySem.W.keepIn K (.ref x10) = true) (xb10 : PySem.W.subIn K (.ref x10) (.type "BaseException") = some true) (xt10 : PySem.W.typeIn K (.ref x10) = some (.type "type")) (xe10 : PySem.W.excIn K x10 [.type "ValueError", .type "Exception", .type "BaseException", .type "object"] "ValueError.__new__" = true)
    {x11 : Addr} (xa11 : PySem.W.nsIn K mainGlobals "TooHeavy" = some (some (.ref x11))) (xk11 : PySem.W.keepIn K (.ref x11) = true) (xb11 : PySem.W.subIn K (.ref x11) (.type "BaseException") = some true) (xt11 : PySem.W.typeIn K (.ref x11) = some (.type "type")) (xe11 : PySem.W.excIn K x11 [.type "ValueError", .type "Exception", .type "BaseException", .type "object"] "ValueError.__new__" = true)
    {x12 : Addr} (xa12 : PySem.W.nsIn K mainGlobals "NotPlain" = some (some (.ref x12))) (xk12 : PySem.W.keepIn K (.ref x12) = true) (xb12 : PySem.W.subIn K (.ref x12) (.type "BaseException") = some true) (xt12 : PySem.W.typeIn K (.ref x12) = some (.type "type")) (xe12 : PySem.W.excIn K x12 [.type "ValueError", .type "Exception", .type "BaseException", .type "object"] "ValueError.__new__" = true)
    {x13 : Addr} (xa13 : PySem.W.nsIn K mainGlobals "NoMark" = some (some (.ref x13))) (xk13 : PySem.W.keepIn K (.ref x13) = true) (xb13 : PySem.W.subIn K (.ref x13) (.type "BaseException") = some true) (xt13 : PySem.W.typeIn K (.ref x13) = some (.type "type")) (xe13 : PySem.W.excIn K x13 [.type "ValueError", .type "Exception", .type "BaseException", .type "object"] "ValueError.__new__" = true)
    {x14 : Addr} (xa14 : PySem.W.nsIn K mainGlobals "TooWide" = some (some (.ref x14))) (xk14 : PySem.W.keepIn K (.ref x14) = true) (xb14 : PySem.W.subIn K (.ref x14) (.type "BaseException") = some true) (xt14 : PySem.W.typeIn K (.ref x14) = some (.type "type")) (xe14 : PySem.W.excIn K x14 [.type "ValueError", .type "Exception", .type "BaseException", .type "object"] "ValueError.__new__" = true)
    {x1 : Addr} (xa1 : PySem.W.nsIn K mainGlobals "NoTree" = some (some (.ref x1))) (xk1 : PySem.W.keepIn K (.ref x1) = true) (xb1 : PySem.W.subIn K (.ref x1) (.type "BaseException") = some true) (xt1 : PySem.W.typeIn K (.ref x1) = some (.type "type")) (xe1 : PySem.W.excIn K x1 [.type "ValueError", .type "Exception", .type "BaseException", .type "object"] "ValueError.__new__" = true)
    {x2 : Addr} (xa2 : PySem.W.nsIn K mainGlobals "NoForm" = some (some (.ref x2))) (xk2 : PySem.W.keepIn K (.ref x2) = true) (xb2 : PySem.W.subIn K (.ref x2) (.type "BaseException") = some true) (xt2 : PySem.W.typeIn K (.ref x2) = some (.type "type")) (xe2 : PySem.W.excIn K x2 [.type "ValueError", .type "Exception", .type "BaseException", .type "object"] "ValueError.__new__" = true)
    {x3 : Addr} (xa3 : PySem.W.nsIn K mainGlobals "NoKind" = some (some (.ref x3))) (xk3 : PySem.W.keepIn K (.ref x3) = true) (xb3 : PySem.W.subIn K (.ref x3) (.type "BaseException") = some true) (xt3 : PySem.W.typeIn K (.ref x3) = some (.type "type")) (xe3 : PySem.W.excIn K x3 [.type "ValueError", .type "Exception", .type "BaseException", .type "object"] "ValueError.__new__" = true)
    {x4 : Addr} (xa4 : PySem.W.nsIn K mainGlobals "NoName" = some (some (.ref x4))) (xk4 : PySem.W.keepIn K (.ref x4) = true) (xb4 : PySem.W.subIn K (.ref x4) (.type "BaseException") = some true) (xt4 : PySem.W.typeIn K (.ref x4) = some (.type "type")) (xe4 : PySem.W.excIn K x4 [.type "ValueError", .type "Exception", .type "BaseException", .type "object"] "ValueError.__new__" = true)
    {x5 : Addr} (xa5 : PySem.W.nsIn K mainGlobals "Twice" = some (some (.ref x5))) (xk5 : PySem.W.keepIn K (.ref x5) = true) (xb5 : PySem.W.subIn K (.ref x5) (.type "BaseException") = some true) (xt5 : PySem.W.typeIn K (.ref x5) = some (.type "type")) (xe5 : PySem.W.excIn K x5 [.type "ValueError", .type "Exception", .type "BaseException", .type "object"] "ValueError.__new__" = true)
    {x6 : Addr} (xa6 : PySem.W.nsIn K mainGlobals "TooBig" = some (some (.ref x6))) (xk6 : PySem.W.keepIn K (.ref x6) = true) (xb6 : PySem.W.subIn K (.ref x6) (.type "BaseException") = some true) (xt6 : PySem.W.typeIn K (.ref x6) = some (.type "type")) (xe6 : PySem.W.excIn K x6 [.type "ValueError", .type "Exception", .type "BaseException", .type "object"] "ValueError.__new__" = true)
    {x7 : Addr} (xa7 : PySem.W.nsIn K mainGlobals "Clash" = some (some (.ref x7))) (xk7 : PySem.W.keepIn K (.ref x7) = true) (xb7 : PySem.W.subIn K (.ref x7) (.type "BaseException") = some true) (xt7 : PySem.W.typeIn K (.ref x7) = some (.type "type")) (xe7 : PySem.W.excIn K x7 [.type "ValueError", .type "Exception", .type "BaseException", .type "object"] "ValueError.__new__" = true)
    {x8 : Addr} (xa8 : PySem.W.nsIn K mainGlobals "WrongKind" = some (some (.ref x8))) (xk8 : PySem.W.keepIn K (.ref x8) = true) (xb8 : PySem.W.subIn K (.ref x8) (.type "BaseException") = some true) (xt8 : PySem.W.typeIn K (.ref x8) = some (.type "type")) (xe8 : PySem.W.excIn K x8 [.type "ValueError", .type "Exception", .type "BaseException", .type "object"] "ValueError.__new__" = true)
    {x15 : Addr} (xa15 : PySem.W.nsIn K mainGlobals "NoFit" = some (some (.ref x15))) (xk15 : PySem.W.keepIn K (.ref x15) = true) (xb15 : PySem.W.subIn K (.ref x15) (.type "BaseException") = some true) (xt15 : PySem.W.typeIn K (.ref x15) = some (.type "type"))
    {xdd15 : Option Addr} {xcl15 : ClassData} {xsl15 : Array (Option Value)} (xl15 : K.lookup x15 = some ⟨.type "type", xdd15, .cls xcl15, xsl15⟩) (xo15 : oexB x15 xcl15 xsl15 = true) (xs15 : PySem.W.findIn K (.ref x15) "__setattr__" = some (some (.builtin "object.__setattr__")))
    (xn15_0 : PySem.W.findIn K (.ref x15) "part" = some none) (xn15_1 : PySem.W.findIn K (.ref x15) "name" = some none) (xn15_2 : PySem.W.findIn K (.ref x15) "due" = some none) (xn15_3 : PySem.W.findIn K (.ref x15) "found" = some none)
    {xf15 : Addr} (xi15 : PySem.W.findIn K (.ref x15) "__init__" = some (some (.ref xf15))) (xj15 : PySem.W.typeIn K (.ref xf15) = some (.type "function")) {xB15 : Addr} (xu15 : PySem.W.nsIn K mainGlobals "Refused" = some (some (.ref xB15))) (xr15 : PySem.W.readsIn K xB15 (.type "type") = true) (xg15 : PySem.W.specialIn K (.ref xB15) "__getattribute__" = some (some (.builtin "type.__getattribute__"))) (xv15 : PySem.W.findCls K (.ref xB15) (.type "type") "__init__" = some (.val (.builtin "ValueError.__init__")))
    {xod15 xan15 : Option Addr} {xfs15 : Array (Option Value)} {xoc15 xkV15 xdc15 xpm15 xcd15 xct15 : Value} (xlf15 : K.lookup xf15 = some ⟨xoc15, xod15, .func (PySem.W.fnOf "__init__" "NoFit.__init__" (defArgs (inn 16 0)) (defBody (inn 16 0)) (defScope (inn 16 0)) .none xkV15 xdc15 xpm15 xan15 xcd15 xct15), xfs15⟩) (xcf15 : PySem.W.codeIn K xcd15 "NoFit.__init__" = true) (xkf15 : PySem.W.keepIn K (.ref xf15) = true)
    {xcd0 : ClassData} (xq0 : PySem.W.clsIn K x0 = some xcd0)
    (xm0_0 : PySem.W.subIn K (.ref x0) (.ref x0) = some true)
    (xm9_0 : PySem.W.subIn K (.ref x9) (.ref x0) = some true)
    (xm10_0 : PySem.W.subIn K (.ref x10) (.ref x0) = some true)
    (xm11_0 : PySem.W.subIn K (.ref x11) (.ref x0) = some true)
    (xm12_0 : PySem.W.subIn K (.ref x12) (.ref x0) = some true)
    (xm13_0 : PySem.W.subIn K (.ref x13) (.ref x0) = some true)
    (xm14_0 : PySem.W.subIn K (.ref x14) (.ref x0) = some true)
    (xm15_0 : PySem.W.subIn K (.ref x15) (.ref x0) = some true)
    (xm1_0 : PySem.W.subIn K (.ref x1) (.ref x0) = some true)
    (xm2_0 : PySem.W.subIn K (.ref x2) (.ref x0) = some true)
    (xm3_0 : PySem.W.subIn K (.ref x3) (.ref x0) = some true)
    (xm4_0 : PySem.W.subIn K (.ref x4) (.ref x0) = some true)
    (xm5_0 : PySem.W.subIn K (.ref x5) (.ref x0) = some true)
    (xm6_0 : PySem.W.subIn K (.ref x6) (.ref x0) = some true)
    (xm7_0 : PySem.W.subIn K (.ref x7) (.ref x0) = some true)
    (xm8_0 : PySem.W.subIn K (.ref x8) (.ref x0) = some true)
    {xcd1 : ClassData} (xq1 : PySem.W.clsIn K x1 = some xcd1)
    (xm0_1 : PySem.W.subIn K (.ref x0) (.ref x1) = some false)
    (kqn0_1 : (x0 == x1) = false)
    {xcd2 : ClassData} (xq2 : PySem.W.clsIn K x2 = some xcd2)
    (xm0_2 : PySem.W.subIn K (.ref x0) (.ref x2) = some false)
    (kqn0_2 : (x0 == x2) = false)
    {xcd3 : ClassData} (xq3 : PySem.W.clsIn K x3 = some xcd3)
    (xm0_3 : PySem.W.subIn K (.ref x0) (.ref x3) = some false)
    (kqn0_3 : (x0 == x3) = false)
    {xcd4 : ClassData} (xq4 : PySem.W.clsIn K x4 = some xcd4)
    (xm0_4 : PySem.W.subIn K (.ref x0) (.ref x4) = some false)
    (kqn0_4 : (x0 == x4) = false)
    {xcd5 : ClassData} (xq5 : PySem.W.clsIn K x5 = some xcd5)
    (xm0_5 : PySem.W.subIn K (.ref x0) (.ref x5) = some false)
    (kqn0_5 : (x0 == x5) = false)
    {xcd6 : ClassData} (xq6 : PySem.W.clsIn K x6 = some xcd6)
    (xm0_6 : PySem.W.subIn K (.ref x0) (.ref x6) = some false)
    (kqn0_6 : (x0 == x6) = false)
    {xcd7 : ClassData} (xq7 : PySem.W.clsIn K x7 = some xcd7)
    (xm0_7 : PySem.W.subIn K (.ref x0) (.ref x7) = some false)
    (kqn0_7 : (x0 == x7) = false)
    {xcd8 : ClassData} (xq8 : PySem.W.clsIn K x8 = some xcd8)
    (xm0_8 : PySem.W.subIn K (.ref x0) (.ref x8) = some false)
    (kqn0_8 : (x0 == x8) = false)
    {xcd9 : ClassData} (xq9 : PySem.W.clsIn K x9 = some xcd9)
    (xm0_9 : PySem.W.subIn K (.ref x0) (.ref x9) = some false)
    (kqn0_9 : (x0 == x9) = false)
    {xcd10 : ClassData} (xq10 : PySem.W.clsIn K x10 = some xcd10)
    (xm0_10 : PySem.W.subIn K (.ref x0) (.ref x10) = some false)
    (kqn0_10 : (x0 == x10) = false)
    {xcd11 : ClassData} (xq11 : PySem.W.clsIn K x11 = some xcd11)
    (xm0_11 : PySem.W.subIn K (.ref x0) (.ref x11) = some false)
    (kqn0_11 : (x0 == x11) = false)
    {xcd12 : ClassData} (xq12 : PySem.W.clsIn K x12 = some xcd12)
    (xm0_12 : PySem.W.subIn K (.ref x0) (.ref x12) = some false)
    (kqn0_12 : (x0 == x12) = false)
    {xcd13 : ClassData} (xq13 : PySem.W.clsIn K x13 = some xcd13)
    (xm0_13 : PySem.W.subIn K (.ref x0) (.ref x13) = some false)
    (kqn0_13 : (x0 == x13) = false)
    {xcd14 : ClassData} (xq14 : PySem.W.clsIn K x14 = some xcd14)
    (xm0_14 : PySem.W.subIn K (.ref x0) (.ref x14) = some false)
    (kqn0_14 : (x0 == x14) = false)
    {xcd15 : ClassData} (xq15 : PySem.W.clsIn K x15 = some xcd15)
    (xm0_15 : PySem.W.subIn K (.ref x0) (.ref x15) = some false)
    (kqn0_15 : (x0 == x15) = false)
    (xm9_1 : PySem.W.subIn K (.ref x9) (.ref x1) = some false)
    (kqn9_1 : (x9 == x1) = false)
    (xm9_2 : PySem.W.subIn K (.ref x9) (.ref x2) = some false)
    (kqn9_2 : (x9 == x2) = false)
    (xm9_3 : PySem.W.subIn K (.ref x9) (.ref x3) = some false)
    (kqn9_3 : (x9 == x3) = false)
    (xm9_4 : PySem.W.subIn K (.ref x9) (.ref x4) = some false)
    (kqn9_4 : (x9 == x4) = false)
    (xm9_5 : PySem.W.subIn K (.ref x9) (.ref x5) = some false)
    (kqn9_5 : (x9 == x5) = false)
    (xm9_6 : PySem.W.subIn K (.ref x9) (.ref x6) = some false)
    (kqn9_6 : (x9 == x6) = false)
    (xm9_7 : PySem.W.subIn K (.ref x9) (.ref x7) = some false)
    (kqn9_7 : (x9 == x7) = false)
    (xm9_8 : PySem.W.subIn K (.ref x9) (.ref x8) = some false)
    (kqn9_8 : (x9 == x8) = false)
    (xm9_9 : PySem.W.subIn K (.ref x9) (.ref x9) = some true)
    (xm9_10 : PySem.W.subIn K (.ref x9) (.ref x10) = some false)
    (kqn9_10 : (x9 == x10) = false)
    (xm9_11 : PySem.W.subIn K (.ref x9) (.ref x11) = some false)
    (kqn9_11 : (x9 == x11) = false)
    (xm9_12 : PySem.W.subIn K (.ref x9) (.ref x12) = some false)
    (kqn9_12 : (x9 == x12) = false)
    (xm9_13 : PySem.W.subIn K (.ref x9) (.ref x13) = some false)
    (kqn9_13 : (x9 == x13) = false)
    (xm9_14 : PySem.W.subIn K (.ref x9) (.ref x14) = some false)
    (kqn9_14 : (x9 == x14) = false)
    (xm9_15 : PySem.W.subIn K (.ref x9) (.ref x15) = some false)
    (kqn9_15 : (x9 == x15) = false)
    (xm10_1 : PySem.W.subIn K (.ref x10) (.ref x1) = some false)
    (kqn10_1 : (x10 == x1) = false)
    (xm10_2 : PySem.W.subIn K (.ref x10) (.ref x2) = some false)
    (kqn10_2 : (x10 == x2) = false)
    (xm10_3 : PySem.W.subIn K (.ref x10) (.ref x3) = some false)
    (kqn10_3 : (x10 == x3) = false)
    (xm10_4 : PySem.W.subIn K (.ref x10) (.ref x4) = some false)
    (kqn10_4 : (x10 == x4) = false)
    (xm10_5 : PySem.W.subIn K (.ref x10) (.ref x5) = some false)
    (kqn10_5 : (x10 == x5) = false)
    (xm10_6 : PySem.W.subIn K (.ref x10) (.ref x6) = some false)
    (kqn10_6 : (x10 == x6) = false)
    (xm10_7 : PySem.W.subIn K (.ref x10) (.ref x7) = some false)
    (kqn10_7 : (x10 == x7) = false)
    (xm10_8 : PySem.W.subIn K (.ref x10) (.ref x8) = some false)
    (kqn10_8 : (x10 == x8) = false)
    (xm10_9 : PySem.W.subIn K (.ref x10) (.ref x9) = some false)
    (kqn10_9 : (x10 == x9) = false)
    (xm10_10 : PySem.W.subIn K (.ref x10) (.ref x10) = some true)
    (xm10_11 : PySem.W.subIn K (.ref x10) (.ref x11) = some false)
    (kqn10_11 : (x10 == x11) = false)
    (xm10_12 : PySem.W.subIn K (.ref x10) (.ref x12) = some false)
    (kqn10_12 : (x10 == x12) = false)
    (xm10_13 : PySem.W.subIn K (.ref x10) (.ref x13) = some false)
    (kqn10_13 : (x10 == x13) = false)
    (xm10_14 : PySem.W.subIn K (.ref x10) (.ref x14) = some false)
    (kqn10_14 : (x10 == x14) = false)
    (xm10_15 : PySem.W.subIn K (.ref x10) (.ref x15) = some false)
    (kqn10_15 : (x10 == x15) = false)
    (xm11_1 : PySem.W.subIn K (.ref x11) (.ref x1) = some false)
    (kqn11_1 : (x11 == x1) = false)
    (xm11_2 : PySem.W.subIn K (.ref x11) (.ref x2) = some false)
    (kqn11_2 : (x11 == x2) = false)
    (xm11_3 : PySem.W.subIn K (.ref x11) (.ref x3) = some false)
    (kqn11_3 : (x11 == x3) = false)
    (xm11_4 : PySem.W.subIn K (.ref x11) (.ref x4) = some false)
    (kqn11_4 : (x11 == x4) = false)
    (xm11_5 : PySem.W.subIn K (.ref x11) (.ref x5) = some false)
    (kqn11_5 : (x11 == x5) = false)
    (xm11_6 : PySem.W.subIn K (.ref x11) (.ref x6) = some false)
    (kqn11_6 : (x11 == x6) = false)
    (xm11_7 : PySem.W.subIn K (.ref x11) (.ref x7) = some false)
    (kqn11_7 : (x11 == x7) = false)
    (xm11_8 : PySem.W.subIn K (.ref x11) (.ref x8) = some false)
    (kqn11_8 : (x11 == x8) = false)
    (xm11_9 : PySem.W.subIn K (.ref x11) (.ref x9) = some false)
    (kqn11_9 : (x11 == x9) = false)
    (xm11_10 : PySem.W.subIn K (.ref x11) (.ref x10) = some false)
    (kqn11_10 : (x11 == x10) = false)
    (xm11_11 : PySem.W.subIn K (.ref x11) (.ref x11) = some true)
    (xm11_12 : PySem.W.subIn K (.ref x11) (.ref x12) = some false)
    (kqn11_12 : (x11 == x12) = false)
    (xm11_13 : PySem.W.subIn K (.ref x11) (.ref x13) = some false)
    (kqn11_13 : (x11 == x13) = false)
    (xm11_14 : PySem.W.subIn K (.ref x11) (.ref x14) = some false)
    (kqn11_14 : (x11 == x14) = false)
    (xm11_15 : PySem.W.subIn K (.ref x11) (.ref x15) = some false)
    (kqn11_15 : (x11 == x15) = false)
    (xm12_1 : PySem.W.subIn K (.ref x12) (.ref x1) = some false)
    (kqn12_1 : (x12 == x1) = false)
    (xm12_2 : PySem.W.subIn K (.ref x12) (.ref x2) = some false)
    (kqn12_2 : (x12 == x2) = false)
    (xm12_3 : PySem.W.subIn K (.ref x12) (.ref x3) = some false)
    (kqn12_3 : (x12 == x3) = false)
    (xm12_4 : PySem.W.subIn K (.ref x12) (.ref x4) = some false)
    (kqn12_4 : (x12 == x4) = false)
    (xm12_5 : PySem.W.subIn K (.ref x12) (.ref x5) = some false)
    (kqn12_5 : (x12 == x5) = false)
    (xm12_6 : PySem.W.subIn K (.ref x12) (.ref x6) = some false)
    (kqn12_6 : (x12 == x6) = false)
    (xm12_7 : PySem.W.subIn K (.ref x12) (.ref x7) = some false)
    (kqn12_7 : (x12 == x7) = false)
    (xm12_8 : PySem.W.subIn K (.ref x12) (.ref x8) = some false)
    (kqn12_8 : (x12 == x8) = false)
    (xm12_9 : PySem.W.subIn K (.ref x12) (.ref x9) = some false)
    (kqn12_9 : (x12 == x9) = false)
    (xm12_10 : PySem.W.subIn K (.ref x12) (.ref x10) = some false)
    (kqn12_10 : (x12 == x10) = false)
    (xm12_11 : PySem.W.subIn K (.ref x12) (.ref x11) = some false)
    (kqn12_11 : (x12 == x11) = false)
    (xm12_12 : PySem.W.subIn K (.ref x12) (.ref x12) = some true)
    (xm12_13 : PySem.W.subIn K (.ref x12) (.ref x13) = some false)
    (kqn12_13 : (x12 == x13) = false)
    (xm12_14 : PySem.W.subIn K (.ref x12) (.ref x14) = some false)
    (kqn12_14 : (x12 == x14) = false)
    (xm12_15 : PySem.W.subIn K (.ref x12) (.ref x15) = some false)
    (kqn12_15 : (x12 == x15) = false)
    (xm13_1 : PySem.W.subIn K (.ref x13) (.ref x1) = some false)
    (kqn13_1 : (x13 == x1) = false)
    (xm13_2 : PySem.W.subIn K (.ref x13) (.ref x2) = some false)
    (kqn13_2 : (x13 == x2) = false)
    (xm13_3 : PySem.W.subIn K (.ref x13) (.ref x3) = some false)
    (kqn13_3 : (x13 == x3) = false)
    (xm13_4 : PySem.W.subIn K (.ref x13) (.ref x4) = some false)
    (kqn13_4 : (x13 == x4) = false)
    (xm13_5 : PySem.W.subIn K (.ref x13) (.ref x5) = some false)
    (kqn13_5 : (x13 == x5) = false)
    (xm13_6 : PySem.W.subIn K (.ref x13) (.ref x6) = some false)
    (kqn13_6 : (x13 == x6) = false)
    (xm13_7 : PySem.W.subIn K (.ref x13) (.ref x7) = some false)
    (kqn13_7 : (x13 == x7) = false)
    (xm13_8 : PySem.W.subIn K (.ref x13) (.ref x8) = some false)
    (kqn13_8 : (x13 == x8) = false)
    (xm13_9 : PySem.W.subIn K (.ref x13) (.ref x9) = some false)
    (kqn13_9 : (x13 == x9) = false)
    (xm13_10 : PySem.W.subIn K (.ref x13) (.ref x10) = some false)
    (kqn13_10 : (x13 == x10) = false)
    (xm13_11 : PySem.W.subIn K (.ref x13) (.ref x11) = some false)
    (kqn13_11 : (x13 == x11) = false)
    (xm13_12 : PySem.W.subIn K (.ref x13) (.ref x12) = some false)
    (kqn13_12 : (x13 == x12) = false)
    (xm13_13 : PySem.W.subIn K (.ref x13) (.ref x13) = some true)
    (xm13_14 : PySem.W.subIn K (.ref x13) (.ref x14) = some false)
    (kqn13_14 : (x13 == x14) = false)
    (xm13_15 : PySem.W.subIn K (.ref x13) (.ref x15) = some false)
    (kqn13_15 : (x13 == x15) = false)
    (xm14_1 : PySem.W.subIn K (.ref x14) (.ref x1) = some false)
    (kqn14_1 : (x14 == x1) = false)
    (xm14_2 : PySem.W.subIn K (.ref x14) (.ref x2) = some false)
    (kqn14_2 : (x14 == x2) = false)
    (xm14_3 : PySem.W.subIn K (.ref x14) (.ref x3) = some false)
    (kqn14_3 : (x14 == x3) = false)
    (xm14_4 : PySem.W.subIn K (.ref x14) (.ref x4) = some false)
    (kqn14_4 : (x14 == x4) = false)
    (xm14_5 : PySem.W.subIn K (.ref x14) (.ref x5) = some false)
    (kqn14_5 : (x14 == x5) = false)
    (xm14_6 : PySem.W.subIn K (.ref x14) (.ref x6) = some false)
    (kqn14_6 : (x14 == x6) = false)
    (xm14_7 : PySem.W.subIn K (.ref x14) (.ref x7) = some false)
    (kqn14_7 : (x14 == x7) = false)
    (xm14_8 : PySem.W.subIn K (.ref x14) (.ref x8) = some false)
    (kqn14_8 : (x14 == x8) = false)
    (xm14_9 : PySem.W.subIn K (.ref x14) (.ref x9) = some false)
    (kqn14_9 : (x14 == x9) = false)
    (xm14_10 : PySem.W.subIn K (.ref x14) (.ref x10) = some false)
    (kqn14_10 : (x14 == x10) = false)
    (xm14_11 : PySem.W.subIn K (.ref x14) (.ref x11) = some false)
    (kqn14_11 : (x14 == x11) = false)
    (xm14_12 : PySem.W.subIn K (.ref x14) (.ref x12) = some false)
    (kqn14_12 : (x14 == x12) = false)
    (xm14_13 : PySem.W.subIn K (.ref x14) (.ref x13) = some false)
    (kqn14_13 : (x14 == x13) = false)
    (xm14_14 : PySem.W.subIn K (.ref x14) (.ref x14) = some true)
    (xm14_15 : PySem.W.subIn K (.ref x14) (.ref x15) = some false)
    (kqn14_15 : (x14 == x15) = false)
    (xm15_1 : PySem.W.subIn K (.ref x15) (.ref x1) = some false)
    (kqn15_1 : (x15 == x1) = false)
    (xm15_2 : PySem.W.subIn K (.ref x15) (.ref x2) = some false)
    (kqn15_2 : (x15 == x2) = false)
    (xm15_3 : PySem.W.subIn K (.ref x15) (.ref x3) = some false)
    (kqn15_3 : (x15 == x3) = false)
    (xm15_4 : PySem.W.subIn K (.ref x15) (.ref x4) = some false)
    (kqn15_4 : (x15 == x4) = false)
    (xm15_5 : PySem.W.subIn K (.ref x15) (.ref x5) = some false)
    (kqn15_5 : (x15 == x5) = false)
    (xm15_6 : PySem.W.subIn K (.ref x15) (.ref x6) = some false)
    (kqn15_6 : (x15 == x6) = false)
    (xm15_7 : PySem.W.subIn K (.ref x15) (.ref x7) = some false)
    (kqn15_7 : (x15 == x7) = false)
    (xm15_8 : PySem.W.subIn K (.ref x15) (.ref x8) = some false)
    (kqn15_8 : (x15 == x8) = false)
    (xm15_9 : PySem.W.subIn K (.ref x15) (.ref x9) = some false)
    (kqn15_9 : (x15 == x9) = false)
    (xm15_10 : PySem.W.subIn K (.ref x15) (.ref x10) = some false)
    (kqn15_10 : (x15 == x10) = false)
    (xm15_11 : PySem.W.subIn K (.ref x15) (.ref x11) = some false)
    (kqn15_11 : (x15 == x11) = false)
    (xm15_12 : PySem.W.subIn K (.ref x15) (.ref x12) = some false)
    (kqn15_12 : (x15 == x12) = false)
    (xm15_13 : PySem.W.subIn K (.ref x15) (.ref x13) = some false)
    (kqn15_13 : (x15 == x13) = false)
    (xm15_14 : PySem.W.subIn K (.ref x15) (.ref x14) = some false)
    (kqn15_14 : (x15 == x14) = false)
    (xm15_15 : PySem.W.subIn K (.ref x15) (.ref x15) = some true)
    (xm1_1 : PySem.W.subIn K (.ref x1) (.ref x1) = some true)
    (xm1_2 : PySem.W.subIn K (.ref x1) (.ref x2) = some false)
    (kqn1_2 : (x1 == x2) = false)
    (xm1_3 : PySem.W.subIn K (.ref x1) (.ref x3) = some false)
    (kqn1_3 : (x1 == x3) = false)
    (xm1_4 : PySem.W.subIn K (.ref x1) (.ref x4) = some false)
    (kqn1_4 : (x1 == x4) = false)
    (xm1_5 : PySem.W.subIn K (.ref x1) (.ref x5) = some false)
    (kqn1_5 : (x1 == x5) = false)
    (xm1_6 : PySem.W.subIn K (.ref x1) (.ref x6) = some false)
    (kqn1_6 : (x1 == x6) = false)
    (xm1_7 : PySem.W.subIn K (.ref x1) (.ref x7) = some false)
    (kqn1_7 : (x1 == x7) = false)
    (xm1_8 : PySem.W.subIn K (.ref x1) (.ref x8) = some false)
    (kqn1_8 : (x1 == x8) = false)
    (xm1_9 : PySem.W.subIn K (.ref x1) (.ref x9) = some false)
    (kqn1_9 : (x1 == x9) = false)
    (xm1_10 : PySem.W.subIn K (.ref x1) (.ref x10) = some false)
    (kqn1_10 : (x1 == x10) = false)
    (xm1_11 : PySem.W.subIn K (.ref x1) (.ref x11) = some false)
    (kqn1_11 : (x1 == x11) = false)
    (xm1_12 : PySem.W.subIn K (.ref x1) (.ref x12) = some false)
    (kqn1_12 : (x1 == x12) = false)
    (xm1_13 : PySem.W.subIn K (.ref x1) (.ref x13) = some false)
    (kqn1_13 : (x1 == x13) = false)
    (xm1_14 : PySem.W.subIn K (.ref x1) (.ref x14) = some false)
    (kqn1_14 : (x1 == x14) = false)
    (xm1_15 : PySem.W.subIn K (.ref x1) (.ref x15) = some false)
    (kqn1_15 : (x1 == x15) = false)
    (xm2_1 : PySem.W.subIn K (.ref x2) (.ref x1) = some false)
    (kqn2_1 : (x2 == x1) = false)
    (xm2_2 : PySem.W.subIn K (.ref x2) (.ref x2) = some true)
    (xm2_3 : PySem.W.subIn K (.ref x2) (.ref x3) = some false)
    (kqn2_3 : (x2 == x3) = false)
    (xm2_4 : PySem.W.subIn K (.ref x2) (.ref x4) = some false)
    (kqn2_4 : (x2 == x4) = false)
    (xm2_5 : PySem.W.subIn K (.ref x2) (.ref x5) = some false)
    (kqn2_5 : (x2 == x5) = false)
    (xm2_6 : PySem.W.subIn K (.ref x2) (.ref x6) = some false)
    (kqn2_6 : (x2 == x6) = false)
    (xm2_7 : PySem.W.subIn K (.ref x2) (.ref x7) = some false)
    (kqn2_7 : (x2 == x7) = false)
    (xm2_8 : PySem.W.subIn K (.ref x2) (.ref x8) = some false)
    (kqn2_8 : (x2 == x8) = false)
    (xm2_9 : PySem.W.subIn K (.ref x2) (.ref x9) = some false)
    (kqn2_9 : (x2 == x9) = false)
    (xm2_10 : PySem.W.subIn K (.ref x2) (.ref x10) = some false)
    (kqn2_10 : (x2 == x10) = false)
    (xm2_11 : PySem.W.subIn K (.ref x2) (.ref x11) = some false)
    (kqn2_11 : (x2 == x11) = false)
    (xm2_12 : PySem.W.subIn K (.ref x2) (.ref x12) = some false)
    (kqn2_12 : (x2 == x12) = false)
    (xm2_13 : PySem.W.subIn K (.ref x2) (.ref x13) = some false)
    (kqn2_13 : (x2 == x13) = false)
    (xm2_14 : PySem.W.subIn K (.ref x2) (.ref x14) = some false)
    (kqn2_14 : (x2 == x14) = false)
    (xm2_15 : PySem.W.subIn K (.ref x2) (.ref x15) = some false)
    (kqn2_15 : (x2 == x15) = false)
    (xm3_1 : PySem.W.subIn K (.ref x3) (.ref x1) = some false)
    (kqn3_1 : (x3 == x1) = false)
    (xm3_2 : PySem.W.subIn K (.ref x3) (.ref x2) = some false)
    (kqn3_2 : (x3 == x2) = false)
    (xm3_3 : PySem.W.subIn K (.ref x3) (.ref x3) = some true)
    (xm3_4 : PySem.W.subIn K (.ref x3) (.ref x4) = some false)
    (kqn3_4 : (x3 == x4) = false)
    (xm3_5 : PySem.W.subIn K (.ref x3) (.ref x5) = some false)
    (kqn3_5 : (x3 == x5) = false)
    (xm3_6 : PySem.W.subIn K (.ref x3) (.ref x6) = some false)
    (kqn3_6 : (x3 == x6) = false)
    (xm3_7 : PySem.W.subIn K (.ref x3) (.ref x7) = some false)
    (kqn3_7 : (x3 == x7) = false)
    (xm3_8 : PySem.W.subIn K (.ref x3) (.ref x8) = some false)
    (kqn3_8 : (x3 == x8) = false)
    (xm3_9 : PySem.W.subIn K (.ref x3) (.ref x9) = some false)
    (kqn3_9 : (x3 == x9) = false)
    (xm3_10 : PySem.W.subIn K (.ref x3) (.ref x10) = some false)
    (kqn3_10 : (x3 == x10) = false)
    (xm3_11 : PySem.W.subIn K (.ref x3) (.ref x11) = some false)
    (kqn3_11 : (x3 == x11) = false)
    (xm3_12 : PySem.W.subIn K (.ref x3) (.ref x12) = some false)
    (kqn3_12 : (x3 == x12) = false)
    (xm3_13 : PySem.W.subIn K (.ref x3) (.ref x13) = some false)
    (kqn3_13 : (x3 == x13) = false)
    (xm3_14 : PySem.W.subIn K (.ref x3) (.ref x14) = some false)
    (kqn3_14 : (x3 == x14) = false)
    (xm3_15 : PySem.W.subIn K (.ref x3) (.ref x15) = some false)
    (kqn3_15 : (x3 == x15) = false)
    (xm4_1 : PySem.W.subIn K (.ref x4) (.ref x1) = some false)
    (kqn4_1 : (x4 == x1) = false)
    (xm4_2 : PySem.W.subIn K (.ref x4) (.ref x2) = some false)
    (kqn4_2 : (x4 == x2) = false)
    (xm4_3 : PySem.W.subIn K (.ref x4) (.ref x3) = some false)
    (kqn4_3 : (x4 == x3) = false)
    (xm4_4 : PySem.W.subIn K (.ref x4) (.ref x4) = some true)
    (xm4_5 : PySem.W.subIn K (.ref x4) (.ref x5) = some false)
    (kqn4_5 : (x4 == x5) = false)
    (xm4_6 : PySem.W.subIn K (.ref x4) (.ref x6) = some false)
    (kqn4_6 : (x4 == x6) = false)
    (xm4_7 : PySem.W.subIn K (.ref x4) (.ref x7) = some false)
    (kqn4_7 : (x4 == x7) = false)
    (xm4_8 : PySem.W.subIn K (.ref x4) (.ref x8) = some false)
    (kqn4_8 : (x4 == x8) = false)
    (xm4_9 : PySem.W.subIn K (.ref x4) (.ref x9) = some false)
    (kqn4_9 : (x4 == x9) = false)
    (xm4_10 : PySem.W.subIn K (.ref x4) (.ref x10) = some false)
    (kqn4_10 : (x4 == x10) = false)
    (xm4_11 : PySem.W.subIn K (.ref x4) (.ref x11) = some false)
    (kqn4_11 : (x4 == x11) = false)
    (xm4_12 : PySem.W.subIn K (.ref x4) (.ref x12) = some false)
    (kqn4_12 : (x4 == x12) = false)
    (xm4_13 : PySem.W.subIn K (.ref x4) (.ref x13) = some false)
    (kqn4_13 : (x4 == x13) = false)
    (xm4_14 : PySem.W.subIn K (.ref x4) (.ref x14) = some false)
    (kqn4_14 : (x4 == x14) = false)
    (xm4_15 : PySem.W.subIn K (.ref x4) (.ref x15) = some false)
    (kqn4_15 : (x4 == x15) = false)
    (xm5_1 : PySem.W.subIn K (.ref x5) (.ref x1) = some false)
    (kqn5_1 : (x5 == x1) = false)
    (xm5_2 : PySem.W.subIn K (.ref x5) (.ref x2) = some false)
    (kqn5_2 : (x5 == x2) = false)
    (xm5_3 : PySem.W.subIn K (.ref x5) (.ref x3) = some false)
    (kqn5_3 : (x5 == x3) = false)
    (xm5_4 : PySem.W.subIn K (.ref x5) (.ref x4) = some false)
    (kqn5_4 : (x5 == x4) = false)
    (xm5_5 : PySem.W.subIn K (.ref x5) (.ref x5) = some true)
    (xm5_6 : PySem.W.subIn K (.ref x5) (.ref x6) = some false)
    (kqn5_6 : (x5 == x6) = false)
    (xm5_7 : PySem.W.subIn K (.ref x5) (.ref x7) = some false)
    (kqn5_7 : (x5 == x7) = false)
    (xm5_8 : PySem.W.subIn K (.ref x5) (.ref x8) = some false)
    (kqn5_8 : (x5 == x8) = false)
    (xm5_9 : PySem.W.subIn K (.ref x5) (.ref x9) = some false)
    (kqn5_9 : (x5 == x9) = false)
    (xm5_10 : PySem.W.subIn K (.ref x5) (.ref x10) = some false)
    (kqn5_10 : (x5 == x10) = false)
    (xm5_11 : PySem.W.subIn K (.ref x5) (.ref x11) = some false)
    (kqn5_11 : (x5 == x11) = false)
    (xm5_12 : PySem.W.subIn K (.ref x5) (.ref x12) = some false)
    (kqn5_12 : (x5 == x12) = false)
    (xm5_13 : PySem.W.subIn K (.ref x5) (.ref x13) = some false)
    (kqn5_13 : (x5 == x13) = false)
    (xm5_14 : PySem.W.subIn K (.ref x5) (.ref x14) = some false)
    (kqn5_14 : (x5 == x14) = false)
    (xm5_15 : PySem.W.subIn K (.ref x5) (.ref x15) = some false)
    (kqn5_15 : (x5 == x15) = false)
    (xm6_1 : PySem.W.subIn K (.ref x6) (.ref x1) = some false)
    (kqn6_1 : (x6 == x1) = false)
    (xm6_2 : PySem.W.subIn K (.ref x6) (.ref x2) = some false)
    (kqn6_2 : (x6 == x2) = false)
    (xm6_3 : PySem.W.subIn K (.ref x6) (.ref x3) = some false)
    (kqn6_3 : (x6 == x3) = false)
    (xm6_4 : PySem.W.subIn K (.ref x6) (.ref x4) = some false)
    (kqn6_4 : (x6 == x4) = false)
    (xm6_5 : PySem.W.subIn K (.ref x6) (.ref x5) = some false)
    (kqn6_5 : (x6 == x5) = false)
    (xm6_6 : PySem.W.subIn K (.ref x6) (.ref x6) = some true)
    (xm6_7 : PySem.W.subIn K (.ref x6) (.ref x7) = some false)
    (kqn6_7 : (x6 == x7) = false)
    (xm6_8 : PySem.W.subIn K (.ref x6) (.ref x8) = some false)
    (kqn6_8 : (x6 == x8) = false)
    (xm6_9 : PySem.W.subIn K (.ref x6) (.ref x9) = some false)
    (kqn6_9 : (x6 == x9) = false)
    (xm6_10 : PySem.W.subIn K (.ref x6) (.ref x10) = some false)
    (kqn6_10 : (x6 == x10) = false)
    (xm6_11 : PySem.W.subIn K (.ref x6) (.ref x11) = some false)
    (kqn6_11 : (x6 == x11) = false)
    (xm6_12 : PySem.W.subIn K (.ref x6) (.ref x12) = some false)
    (kqn6_12 : (x6 == x12) = false)
    (xm6_13 : PySem.W.subIn K (.ref x6) (.ref x13) = some false)
    (kqn6_13 : (x6 == x13) = false)
    (xm6_14 : PySem.W.subIn K (.ref x6) (.ref x14) = some false)
    (kqn6_14 : (x6 == x14) = false)
    (xm6_15 : PySem.W.subIn K (.ref x6) (.ref x15) = some false)
    (kqn6_15 : (x6 == x15) = false)
    (xm7_1 : PySem.W.subIn K (.ref x7) (.ref x1) = some false)
    (kqn7_1 : (x7 == x1) = false)
    (xm7_2 : PySem.W.subIn K (.ref x7) (.ref x2) = some false)
    (kqn7_2 : (x7 == x2) = false)
    (xm7_3 : PySem.W.subIn K (.ref x7) (.ref x3) = some false)
    (kqn7_3 : (x7 == x3) = false)
    (xm7_4 : PySem.W.subIn K (.ref x7) (.ref x4) = some false)
    (kqn7_4 : (x7 == x4) = false)
    (xm7_5 : PySem.W.subIn K (.ref x7) (.ref x5) = some false)
    (kqn7_5 : (x7 == x5) = false)
    (xm7_6 : PySem.W.subIn K (.ref x7) (.ref x6) = some false)
    (kqn7_6 : (x7 == x6) = false)
    (xm7_7 : PySem.W.subIn K (.ref x7) (.ref x7) = some true)
    (xm7_8 : PySem.W.subIn K (.ref x7) (.ref x8) = some false)
    (kqn7_8 : (x7 == x8) = false)
    (xm7_9 : PySem.W.subIn K (.ref x7) (.ref x9) = some false)
    (kqn7_9 : (x7 == x9) = false)
    (xm7_10 : PySem.W.subIn K (.ref x7) (.ref x10) = some false)
    (kqn7_10 : (x7 == x10) = false)
    (xm7_11 : PySem.W.subIn K (.ref x7) (.ref x11) = some false)
    (kqn7_11 : (x7 == x11) = false)
    (xm7_12 : PySem.W.subIn K (.ref x7) (.ref x12) = some false)
    (kqn7_12 : (x7 == x12) = false)
    (xm7_13 : PySem.W.subIn K (.ref x7) (.ref x13) = some false)
    (kqn7_13 : (x7 == x13) = false)
    (xm7_14 : PySem.W.subIn K (.ref x7) (.ref x14) = some false)
    (kqn7_14 : (x7 == x14) = false)
    (xm7_15 : PySem.W.subIn K (.ref x7) (.ref x15) = some false)
    (kqn7_15 : (x7 == x15) = false)
    (xm8_1 : PySem.W.subIn K (.ref x8) (.ref x1) = some false)
    (kqn8_1 : (x8 == x1) = false)
    (xm8_2 : PySem.W.subIn K (.ref x8) (.ref x2) = some false)
    (kqn8_2 : (x8 == x2) = false)
    (xm8_3 : PySem.W.subIn K (.ref x8) (.ref x3) = some false)
    (kqn8_3 : (x8 == x3) = false)
    (xm8_4 : PySem.W.subIn K (.ref x8) (.ref x4) = some false)
    (kqn8_4 : (x8 == x4) = false)
    (xm8_5 : PySem.W.subIn K (.ref x8) (.ref x5) = some false)
    (kqn8_5 : (x8 == x5) = false)
    (xm8_6 : PySem.W.subIn K (.ref x8) (.ref x6) = some false)
    (kqn8_6 : (x8 == x6) = false)
    (xm8_7 : PySem.W.subIn K (.ref x8) (.ref x7) = some false)
    (kqn8_7 : (x8 == x7) = false)
    (xm8_8 : PySem.W.subIn K (.ref x8) (.ref x8) = some true)
    (xm8_9 : PySem.W.subIn K (.ref x8) (.ref x9) = some false)
    (kqn8_9 : (x8 == x9) = false)
    (xm8_10 : PySem.W.subIn K (.ref x8) (.ref x10) = some false)
    (kqn8_10 : (x8 == x10) = false)
    (xm8_11 : PySem.W.subIn K (.ref x8) (.ref x11) = some false)
    (kqn8_11 : (x8 == x11) = false)
    (xm8_12 : PySem.W.subIn K (.ref x8) (.ref x12) = some false)
    (kqn8_12 : (x8 == x12) = false)
    (xm8_13 : PySem.W.subIn K (.ref x8) (.ref x13) = some false)
    (kqn8_13 : (x8 == x13) = false)
    (xm8_14 : PySem.W.subIn K (.ref x8) (.ref x14) = some false)
    (kqn8_14 : (x8 == x14) = false)
    (xm8_15 : PySem.W.subIn K (.ref x8) (.ref x15) = some false)
    (kqn8_15 : (x8 == x15) = false)
    (zve0 : PySem.W.subIn K (.ref x0) (.type "ValueError") = some true)
    (zve9 : PySem.W.subIn K (.ref x9) (.type "ValueError") = some true)
    (zve10 : PySem.W.subIn K (.ref x10) (.type "ValueError") = some true)
    (zve11 : PySem.W.subIn K (.ref x11) (.type "ValueError") = some true)
    (zve12 : PySem.W.subIn K (.ref x12) (.type "ValueError") = some true)
    (zve13 : PySem.W.subIn K (.ref x13) (.type "ValueError") = some true)
    (zve14 : PySem.W.subIn K (.ref x14) (.type "ValueError") = some true)
    (zve15 : PySem.W.subIn K (.ref x15) (.type "ValueError") = some true)
    (zve1 : PySem.W.subIn K (.ref x1) (.type "ValueError") = some true)
    (zve2 : PySem.W.subIn K (.ref x2) (.type "ValueError") = some true)
    (zve3 : PySem.W.subIn K (.ref x3) (.type "ValueError") = some true)
    (zve4 : PySem.W.subIn K (.ref x4) (.type "ValueError") = some true)
    (zve5 : PySem.W.subIn K (.ref x5) (.type "ValueError") = some true)
    (zve6 : PySem.W.subIn K (.ref x6) (.type "ValueError") = some true)
    (zve7 : PySem.W.subIn K (.ref x7) (.type "ValueError") = some true)
    (zve8 : PySem.W.subIn K (.ref x8) (.type "ValueError") = some true)
    (yee : PySem.W.specialIn K (.builtin "object.__class__") "__get__" = some (some (.builtin "getset_descriptor.__get__"))) (yef : PySem.W.takesIn K (.builtin "object.__class__") = some true)
    (ya0 : PySem.W.findIn K (.ref x0) "__getattribute__" = some (some (.builtin "BaseException.__getattribute__"))) (yb0 : PySem.W.findIn K (.ref x0) "__getattr__" = some none) (yc0 : PySem.W.hasDictIn K x0 = true) (yd0 : PySem.W.findIn K (.ref x0) "__class__" = some (some (.builtin "object.__class__"))) (yg0 : PySem.W.mroIn K x0 (.type "object") = some true)
    (ya1 : PySem.W.findIn K (.ref x1) "__getattribute__" = some (some (.builtin "BaseException.__getattribute__"))) (yb1 : PySem.W.findIn K (.ref x1) "__getattr__" = some none) (yc1 : PySem.W.hasDictIn K x1 = true) (yd1 : PySem.W.findIn K (.ref x1) "__class__" = some (some (.builtin "object.__class__"))) (yg1 : PySem.W.mroIn K x1 (.type "object") = some true)
    (ya2 : PySem.W.findIn K (.ref x2) "__getattribute__" = some (some (.builtin "BaseException.__getattribute__"))) (yb2 : PySem.W.findIn K (.ref x2) "__getattr__" = some none) (yc2 : PySem.W.hasDictIn K x2 = true) (yd2 : PySem.W.findIn K (.ref x2) "__class__" = some (some (.builtin "object.__class__"))) (yg2 : PySem.W.mroIn K x2 (.type "object") = some true)
    (ya3 : PySem.W.findIn K (.ref x3) "__getattribute__" = some (some (.builtin "BaseException.__getattribute__"))) (yb3 : PySem.W.findIn K (.ref x3) "__getattr__" = some none) (yc3 : PySem.W.hasDictIn K x3 = true) (yd3 : PySem.W.findIn K (.ref x3) "__class__" = some (some (.builtin "object.__class__"))) (yg3 : PySem.W.mroIn K x3 (.type "object") = some true)
    (ya4 : PySem.W.findIn K (.ref x4) "__getattribute__" = some (some (.builtin "BaseException.__getattribute__"))) (yb4 : PySem.W.findIn K (.ref x4) "__getattr__" = some none) (yc4 : PySem.W.hasDictIn K x4 = true) (yd4 : PySem.W.findIn K (.ref x4) "__class__" = some (some (.builtin "object.__class__"))) (yg4 : PySem.W.mroIn K x4 (.type "object") = some true)
    (ya5 : PySem.W.findIn K (.ref x5) "__getattribute__" = some (some (.builtin "BaseException.__getattribute__"))) (yb5 : PySem.W.findIn K (.ref x5) "__getattr__" = some none) (yc5 : PySem.W.hasDictIn K x5 = true) (yd5 : PySem.W.findIn K (.ref x5) "__class__" = some (some (.builtin "object.__class__"))) (yg5 : PySem.W.mroIn K x5 (.type "object") = some true)
    (ya6 : PySem.W.findIn K (.ref x6) "__getattribute__" = some (some (.builtin "BaseException.__getattribute__"))) (yb6 : PySem.W.findIn K (.ref x6) "__getattr__" = some none) (yc6 : PySem.W.hasDictIn K x6 = true) (yd6 : PySem.W.findIn K (.ref x6) "__class__" = some (some (.builtin "object.__class__"))) (yg6 : PySem.W.mroIn K x6 (.type "object") = some true)
    (ya7 : PySem.W.findIn K (.ref x7) "__getattribute__" = some (some (.builtin "BaseException.__getattribute__"))) (yb7 : PySem.W.findIn K (.ref x7) "__getattr__" = some none) (yc7 : PySem.W.hasDictIn K x7 = true) (yd7 : PySem.W.findIn K (.ref x7) "__class__" = some (some (.builtin "object.__class__"))) (yg7 : PySem.W.mroIn K x7 (.type "object") = some true)
    (ya8 : PySem.W.findIn K (.ref x8) "__getattribute__" = some (some (.builtin "BaseException.__getattribute__"))) (yb8 : PySem.W.findIn K (.ref x8) "__getattr__" = some none) (yc8 : PySem.W.hasDictIn K x8 = true) (yd8 : PySem.W.findIn K (.ref x8) "__class__" = some (some (.builtin "object.__class__"))) (yg8 : PySem.W.mroIn K x8 (.type "object") = some true)
    (ya9 : PySem.W.findIn K (.ref x9) "__getattribute__" = some (some (.builtin "BaseException.__getattribute__"))) (yb9 : PySem.W.findIn K (.ref x9) "__getattr__" = some none) (yc9 : PySem.W.hasDictIn K x9 = true) (yd9 : PySem.W.findIn K (.ref x9) "__class__" = some (some (.builtin "object.__class__"))) (yg9 : PySem.W.mroIn K x9 (.type "object") = some true)
    (ya10 : PySem.W.findIn K (.ref x10) "__getattribute__" = some (some (.builtin "BaseException.__getattribute__"))) (yb10 : PySem.W.findIn K (.ref x10) "__getattr__" = some none) (yc10 : PySem.W.hasDictIn K x10 = true) (yd10 : PySem.W.findIn K (.ref x10) "__class__" = some (some (.builtin "object.__class__"))) (yg10 : PySem.W.mroIn K x10 (.type "object") = some true)
    (ya11 : PySem.W.findIn K (.ref x11) "__getattribute__" = some (some (.builtin "BaseException.__getattribute__"))) (yb11 : PySem.W.findIn K (.ref x11) "__getattr__" = some none) (yc11 : PySem.W.hasDictIn K x11 = true) (yd11 : PySem.W.findIn K (.ref x11) "__class__" = some (some (.builtin "object.__class__"))) (yg11 : PySem.W.mroIn K x11 (.type "object") = some true)
    (ya12 : PySem.W.findIn K (.ref x12) "__getattribute__" = some (some (.builtin "BaseException.__getattribute__"))) (yb12 : PySem.W.findIn K (.ref x12) "__getattr__" = some none) (yc12 : PySem.W.hasDictIn K x12 = true) (yd12 : PySem.W.findIn K (.ref x12) "__class__" = some (some (.builtin "object.__class__"))) (yg12 : PySem.W.mroIn K x12 (.type "object") = some true)
    (ya13 : PySem.W.findIn K (.ref x13) "__getattribute__" = some (some (.builtin "BaseException.__getattribute__"))) (yb13 : PySem.W.findIn K (.ref x13) "__getattr__" = some none) (yc13 : PySem.W.hasDictIn K x13 = true) (yd13 : PySem.W.findIn K (.ref x13) "__class__" = some (some (.builtin "object.__class__"))) (yg13 : PySem.W.mroIn K x13 (.type "object") = some true)
    (ya14 : PySem.W.findIn K (.ref x14) "__getattribute__" = some (some (.builtin "BaseException.__getattribute__"))) (yb14 : PySem.W.findIn K (.ref x14) "__getattr__" = some none) (yc14 : PySem.W.hasDictIn K x14 = true) (yd14 : PySem.W.findIn K (.ref x14) "__class__" = some (some (.builtin "object.__class__"))) (yg14 : PySem.W.mroIn K x14 (.type "object") = some true)
    (ya15 : PySem.W.findIn K (.ref x15) "__getattribute__" = some (some (.builtin "BaseException.__getattribute__"))) (yb15 : PySem.W.findIn K (.ref x15) "__getattr__" = some none) (yc15 : PySem.W.hasDictIn K x15 = true) (yd15 : PySem.W.findIn K (.ref x15) "__class__" = some (some (.builtin "object.__class__"))) (yg15 : PySem.W.mroIn K x15 (.type "object") = some true)
    (r0 : ∀ ca : Nat → Addr, TxOk K mg ca ⟨1000, "_law_cell", "_law_cell", ["_law_cell"], ["_law_script", "_law_k"], top 18, [], [], []⟩)
    (r1 : ∀ ca : Nat → Addr, TxOk K mg ca ⟨1001, "_law_word", "_law_word", ["_law_word"], ["_law_cell_here"], top 19, [], [], []⟩)
    (r2 : ∀ ca : Nat → Addr, TxOk K mg ca ⟨1002, "_law_raise_more", "_law_raise_more", ["_law_raise_more"], ["_law_k", "_law_fields"], top 20, [], [], []⟩)
    (r3 : ∀ ca : Nat → Addr, TxOk K mg ca ⟨1003, "_law_raise", "_law_raise", ["_law_raise"], ["_law_k", "_law_fields"], top 21, [], [], []⟩)
    (r4 : ∀ ca : Nat → Addr, TxOk K mg ca ⟨1004, "_law_classes", "_law_classes", ["_law_classes"], ["_law_e"], top 22, [], [], []⟩)
    {f5 : Addr} {od5 an5 : Option Addr} {sl5 : Array (Option Value)} {oc5 kV5 dc5 pm5 cd5 ct5 : Value} (a5 : PySem.W.nsIn K mainGlobals "law" = some (some (.ref f5))) (l5 : K.lookup f5 = some ⟨oc5, od5, .func (PySem.W.fnOf "law" "law" (defArgs (top 23)) (defBody (top 23)) (defScope (top 23)) .none kV5 dc5 pm5 an5 cd5 ct5), sl5⟩) (c5 : PySem.W.codeIn K cd5 "law" = true) (k5 : PySem.W.keepIn K (.ref f5) = true)
    (z0 : PySem.W.nsIn K mainGlobals "ValueError" = some none)
    (z1 : PySem.W.nsIn K mainGlobals "isinstance" = some none)
    (z2 : PySem.W.nsIn K mainGlobals "len" = some none)
    (z3 : PySem.W.nsIn K mainGlobals "range" = some none)
    : ∃ fd : FuncData, (∀ (s : Shared) (v : Value), BindsTo s fd ⟨[v], []⟩ [("_law_script", v)]) ∧ ∀ base : Heap, K.In base → base.Ns mainGlobals mg → FnOk l.prog w K mg base (L2.CX l.prog w) 40 fa fd ["_law_script"] (spLaw K) := by
  have e := hfa.symm.trans (PySem.W.mg_of X G a5)
  cases e
  have t5 := txt_mk (x := "law") (qual := "law") (st := top 23) (ps := ["_law_script"]) l5 c5 k5 fun _ _ _ _ _ _ us hl => match us, hl with | [_], _ => rfl
  refine ⟨PySem.W.fnOf "law" "law" (defArgs (top 23)) (defBody (top 23)) (defScope (top 23)) .none kV5 dc5 pm5 an5 cd5 ct5, fun s v => .of_eq rfl, fun base _ _ => ?_⟩
  let ca : Nat → Addr := caL [(0, x0), (9, x9), (10, x10), (11, x11), (12, x12), (13, x13), (14, x14), (1, x1), (2, x2), (3, x3), (4, x4), (5, x5), (6, x6), (7, x7), (8, x8), (15, x15)]
  have TX : ∀ r ∈ rows, TxOk K mg ca r :=
    (tx_cons (r0 ca) (tx_cons (r1 ca) (tx_cons (r2 ca) (tx_cons (r3 ca) (tx_cons (r4 ca) (tx_cons ⟨fa, _, t5, (mg_cons (PySem.W.mg_of X G a5) mg_nil), mt_nil, ini_nil⟩ tx_nil))))))
  have NM : NmOk K w mg ⟨K, ca⟩ tb (M ca) := {
    bs := (bs_cons (PySem.W.mg_none_of X G z0) (bs_cons (PySem.W.mg_none_of X G z1) (bs_cons (PySem.W.mg_none_of X G z2) (bs_cons (PySem.W.mg_none_of X G z3) bs_nil))))
    ca := rfl
    cs := cs_nil
    fl := fl_nil
    xc := (xc_cons (ca := ca) (i := 0) (exc_mk X G xa0 xk0 xb0 xt0 xe0) (xc_cons (ca := ca) (i := 9) (exc_mk X G xa9 xk9 xb9 xt9 xe9) (xc_cons (ca := ca) (i := 10) (exc_mk X G xa10 xk10 xb10 xt10 xe10) (xc_cons (ca := ca) (i := 11) (exc_mk X G xa11 xk11 xb11 xt11 xe11) (xc_cons (ca := ca) (i := 12) (exc_mk X G xa12 xk12 xb12 xt12 xe12) (xc_cons (ca := ca) (i := 13) (exc_mk X G xa13 xk13 xb13 xt13 xe13) (xc_cons (ca := ca) (i := 14) (exc_mk X G xa14 xk14 xb14 xt14 xe14) (xc_cons (ca := ca) (i := 1) (exc_mk X G xa1 xk1 xb1 xt1 xe1) (xc_cons (ca := ca) (i := 2) (exc_mk X G xa2 xk2 xb2 xt2 xe2) (xc_cons (ca := ca) (i := 3) (exc_mk X G xa3 xk3 xb3 xt3 xe3) (xc_cons (ca := ca) (i := 4) (exc_mk X G xa4 xk4 xb4 xt4 xe4) (xc_cons (ca := ca) (i := 5) (exc_mk X G xa5 xk5 xb5 xt5 xe5) (xc_cons (ca := ca) (i := 6) (exc_mk X G xa6 xk6 xb6 xt6 xe6) (xc_cons (ca := ca) (i := 7) (exc_mk X G xa7 xk7 xb7 xt7 xe7) (xc_cons (ca := ca) (i := 8) (exc_mk X G xa8 xk8 xb8 xt8 xe8) xc_nil)))))))))))))))
    xm := (xm_cons (ca := ca) (i' := 0) (j' := 0) (exm_of xb0 xq0 xt0 xm0_0) (xm_cons (ca := ca) (i' := 9) (j' := 0) (exm_of xb0 xq0 xt0 xm9_0) (xm_cons (ca := ca) (i' := 10) (j' := 0) (exm_of xb0 xq0 xt0 xm10_0) (xm_cons (ca := ca) (i' := 11) (j' := 0) (exm_of xb0 xq0 xt0 xm11_0) (xm_cons (ca := ca) (i' := 12) (j' := 0) (exm_of xb0 xq0 xt0 xm12_0) (xm_cons (ca := ca) (i' := 13) (j' := 0) (exm_of xb0 xq0 xt0 xm13_0) (xm_cons (ca := ca) (i' := 14) (j' := 0) (exm_of xb0 xq0 xt0 xm14_0) (xm_cons (ca := ca) (i' := 15) (j' := 0) (exm_of xb0 xq0 xt0 xm15_0) (xm_cons (ca := ca) (i' := 1) (j' := 0) (exm_of xb0 xq0 xt0 xm1_0) (xm_cons (ca := ca) (i' := 2) (j' := 0) (exm_of xb0 xq0 xt0 xm2_0) (xm_cons (ca := ca) (i' := 3) (j' := 0) (exm_of xb0 xq0 xt0 xm3_0) (xm_cons (ca := ca) (i' := 4) (j' := 0) (exm_of xb0 xq0 xt0 xm4_0) (xm_cons (ca := ca) (i' := 5) (j' := 0) (exm_of xb0 xq0 xt0 xm5_0) (xm_cons (ca := ca) (i' := 6) (j' := 0) (exm_of xb0 xq0 xt0 xm6_0) (xm_cons (ca := ca) (i' := 7) (j' := 0) (exm_of xb0 xq0 xt0 xm7_0) (xm_cons (ca := ca) (i' := 8) (j' := 0) (exm_of xb0 xq0 xt0 xm8_0) xm_nil))))))))))))))))
    gl := gl_nil
    kd := kdn_nil
    xf := (xf_cons (ca := ca) (i := 15) (xf_mk X G xa15 xk15 xb15 xt15 xl15 xo15 xs15 xn15_0 xn15_1 xn15_2 xn15_3 xi15 xj15 xu15 xr15 xg15 xv15 (txt_mk (x := "__init__") (qual := "NoFit.__init__") (st := inn 16 0) (ps := xiN) xlf15 xcf15 xkf15 fun _ _ _ _ _ _ us hl => match us, hl with | [_, _, _, _, _], _ => rfl) xit15 xsc15 (by decide) xgl15) xf_nil)
    xl := (xl_cons (ca := ca) (i := 15) ⟨ya15, yb15, xb15, yc15⟩ xn15_0 (xl_cons (ca := ca) (i := 15) ⟨ya15, yb15, xb15, yc15⟩ xn15_1 (xl_cons (ca := ca) (i := 15) ⟨ya15, yb15, xb15, yc15⟩ xn15_2 (xl_cons (ca := ca) (i := 15) ⟨ya15, yb15, xb15, yc15⟩ xn15_3 xl_nil))))
    xn := (xn_cons (ca := ca) (i := 0) (PySem.W.mg_of X G xa0) (xn_cons (ca := ca) (i := 9) (PySem.W.mg_of X G xa9) (xn_cons (ca := ca) (i := 10) (PySem.W.mg_of X G xa10) (xn_cons (ca := ca) (i := 11) (PySem.W.mg_of X G xa11) (xn_cons (ca := ca) (i := 12) (PySem.W.mg_of X G xa12) (xn_cons (ca := ca) (i := 13) (PySem.W.mg_of X G xa13) (xn_cons (ca := ca) (i := 14) (PySem.W.mg_of X G xa14) (xn_cons (ca := ca) (i := 1) (PySem.W.mg_of X G xa1) (xn_cons (ca := ca) (i := 2) (PySem.W.mg_of X G xa2) (xn_cons (ca := ca) (i := 3) (PySem.W.mg_of X G xa3) (xn_cons (ca := ca) (i := 4) (PySem.W.mg_of X G xa4) (xn_cons (ca := ca) (i := 5) (PySem.W.mg_of X G xa5) (xn_cons (ca := ca) (i := 6) (PySem.W.mg_of X G xa6) (xn_cons (ca := ca) (i := 7) (PySem.W.mg_of X G xa7) (xn_cons (ca := ca) (i := 8) (PySem.W.mg_of X G xa8) (xn_cons (ca := ca) (i := 15) (PySem.W.mg_of X G xa15) xn_nil))))))))))))))))
    kt := (kt_cons (ca := ca) (i' := 0) (j' := 1) ⟨⟨ya0, yb0, xb0, yc0⟩, yd0, yee, yef, yg0⟩ (kit_ref (.inl (beq_eq_false_iff_ne.mp kqn0_1)) xq1 xt1 xm0_1) (kt_cons (ca := ca) (i' := 0) (j' := 2) ⟨⟨ya0, yb0, xb0, yc0⟩, yd0, yee, yef, yg0⟩ (kit_ref (.inl (beq_eq_false_iff_ne.mp kqn0_2)) xq2 xt2 xm0_2) (kt_cons (ca := ca) (i' := 0) (j' := 3) ⟨⟨ya0, yb0, xb0, yc0⟩, yd0, yee, yef, yg0⟩ (kit_ref (.inl (beq_eq_false_iff_ne.mp kqn0_3)) xq3 xt3 xm0_3) (kt_cons (ca := ca) (i' := 0) (j' := 4) ⟨⟨ya0, yb0, xb0, yc0⟩, yd0, yee, yef, yg0⟩ (kit_ref (.inl (beq_eq_false_iff_ne.mp kqn0_4)) xq4 xt4 xm0_4) (kt_cons (ca := ca) (i' := 0) (j' := 5) ⟨⟨ya0, yb0, xb0, yc0⟩, yd0, yee, yef, yg0⟩ (kit_ref (.inl (beq_eq_false_iff_ne.mp kqn0_5)) xq5 xt5 xm0_5) (kt_cons (ca := ca) (i' := 0) (j' := 6) ⟨⟨ya0, yb0, xb0, yc0⟩, yd0, yee, yef, yg0⟩ (kit_ref (.inl (beq_eq_false_iff_ne.mp kqn0_6)) xq6 xt6 xm0_6) (kt_cons (ca := ca) (i' := 0) (j' := 7) ⟨⟨ya0, yb0, xb0, yc0⟩, yd0, yee, yef, yg0⟩ (kit_ref (.inl (beq_eq_false_iff_ne.mp kqn0_7)) xq7 xt7 xm0_7) (kt_cons (ca := ca) (i' := 0) (j' := 8) ⟨⟨ya0, yb0, xb0, yc0⟩, yd0, yee, yef, yg0⟩ (kit_ref (.inl (beq_eq_false_iff_ne.mp kqn0_8)) xq8 xt8 xm0_8) (kt_cons (ca := ca) (i' := 0) (j' := 9) ⟨⟨ya0, yb0, xb0, yc0⟩, yd0, yee, yef, yg0⟩ (kit_ref (.inl (beq_eq_false_iff_ne.mp kqn0_9)) xq9 xt9 xm0_9) (kt_cons (ca := ca) (i' := 0) (j' := 10) ⟨⟨ya0, yb0, xb0, yc0⟩, yd0, yee, yef, yg0⟩ (kit_ref (.inl (beq_eq_false_iff_ne.mp kqn0_10)) xq10 xt10 xm0_10) (kt_cons (ca := ca) (i' := 0) (j' := 11) ⟨⟨ya0, yb0, xb0, yc0⟩, yd0, yee, yef, yg0⟩ (kit_ref (.inl (beq_eq_false_iff_ne.mp kqn0_11)) xq11 xt11 xm0_11) (kt_cons (ca := ca) (i' := 0) (j' := 12) ⟨⟨ya0, yb0, xb0, yc0⟩, yd0, yee, yef, yg0⟩ (kit_ref (.inl (beq_eq_false_iff_ne.mp kqn0_12)) xq12 xt12 xm0_12) (kt_cons (ca := ca) (i' := 0) (j' := 13) ⟨⟨ya0, yb0, xb0, yc0⟩, yd0, yee, yef, yg0⟩ (kit_ref (.inl (beq_eq_false_iff_ne.mp kqn0_13)) xq13 xt13 xm0_13) (kt_cons (ca := ca) (i' := 0) (j' := 14) ⟨⟨ya0, yb0, xb0, yc0⟩, yd0, yee, yef, yg0⟩ (kit_ref (.inl (beq_eq_false_iff_ne.mp kqn0_14)) xq14 xt14 xm0_14) (kt_cons (ca := ca) (i' := 0) (j' := 15) ⟨⟨ya0, yb0, xb0, yc0⟩, yd0, yee, yef, yg0⟩ (kit_ref (.inl (beq_eq_false_iff_ne.mp kqn0_15)) xq15 xt15 xm0_15) (kt_cons (ca := ca) (i' := 9) (j' := 1) ⟨⟨ya9, yb9, xb9, yc9⟩, yd9, yee, yef, yg9⟩ (kit_ref (.inl (beq_eq_false_iff_ne.mp kqn9_1)) xq1 xt1 xm9_1) (kt_cons (ca := ca) (i' := 9) (j' := 2) ⟨⟨ya9, yb9, xb9, yc9⟩, yd9, yee, yef, yg9⟩ (kit_ref (.inl (beq_eq_false_iff_ne.mp kqn9_2)) xq2 xt2 xm9_2) (kt_cons (ca := ca) (i' := 9) (j' := 3) ⟨⟨ya9, yb9, xb9, yc9⟩, yd9, yee, yef, yg9⟩ (kit_ref (.inl (beq_eq_false_iff_ne.mp kqn9_3)) xq3 xt3 xm9_3) (kt_cons (ca := ca) (i' := 9) (j' := 4) ⟨⟨ya9, yb9, xb9, yc9⟩, yd9, yee, yef, yg9⟩ (kit_ref (.inl (beq_eq_false_iff_ne.mp kqn9_4)) xq4 xt4 xm9_4) (kt_cons (ca := ca) (i' := 9) (j' := 5) ⟨⟨ya9, yb9, xb9, yc9⟩, yd9, yee, yef, yg9⟩ (kit_ref (.inl (beq_eq_false_iff_ne.mp kqn9_5)) xq5 xt5 xm9_5) (kt_cons (ca := ca) (i' := 9) (j' := 6) ⟨⟨ya9, yb9, xb9, yc9⟩, yd9, yee, yef, yg9⟩ (kit_ref (.inl (beq_eq_false_iff_ne.mp kqn9_6)) xq6 xt6 xm9_6) (kt_cons (ca := ca) (i' := 9) (j' := 7) ⟨⟨ya9, yb9, xb9, yc9⟩, yd9, yee, yef, yg9⟩ (kit_ref (.inl (beq_eq_false_iff_ne.mp kqn9_7)) xq7 xt7 xm9_7) (kt_cons (ca := ca) (i' := 9) (j' := 8) ⟨⟨ya9, yb9, xb9, yc9⟩, yd9, yee, yef, yg9⟩ (kit_ref (.inl (beq_eq_false_iff_ne.mp kqn9_8)) xq8 xt8 xm9_8) (kt_cons (ca := ca) (i' := 9) (j' := 9) ⟨⟨ya9, yb9, xb9, yc9⟩, yd9, yee, yef, yg9⟩ (kit_ref (.inr rfl) xq9 xt9 xm9_9) (kt_cons (ca := ca) (i' := 9) (j' := 10) ⟨⟨ya9, yb9, xb9, yc9⟩, yd9, yee, yef, yg9⟩ (kit_ref (.inl (beq_eq_false_iff_ne.mp kqn9_10)) xq10 xt10 xm9_10) (kt_cons (ca := ca) (i' := 9) (j' := 11) ⟨⟨ya9, yb9, xb9, yc9⟩, yd9, yee, yef, yg9⟩ (kit_ref (.inl (beq_eq_false_iff_ne.mp kqn9_11)) xq11 xt11 xm9_11) (kt_cons (ca := ca) (i' := 9) (j' := 12) ⟨⟨ya9, yb9, xb9, yc9⟩, yd9, yee, yef, yg9⟩ (kit_ref (.inl (beq_eq_false_iff_ne.mp kqn9_12)) xq12 xt12 xm9_12) (kt_cons (ca := ca) (i' := 9) (j' := 13) ⟨⟨ya9, yb9, xb9, yc9⟩, yd9, yee, yef, yg9⟩ (kit_ref (.inl (beq_eq_false_iff_ne.mp kqn9_13)) xq13 xt13 xm9_13) (kt_cons (ca := ca) (i' := 9) (j' := 14) ⟨⟨ya9, yb9, xb9, yc9⟩, yd9, yee, yef, yg9⟩ (kit_ref (.inl (beq_eq_false_iff_ne.mp kqn9_14)) xq14 xt14 xm9_14) (kt_cons (ca := ca) (i' := 9) (j' := 15) ⟨⟨ya9, yb9, xb9, yc9⟩, yd9, yee, yef, yg9⟩ (kit_ref (.inl (beq_eq_false_iff_ne.mp kqn9_15)) xq15 xt15 xm9_15) (kt_cons (ca := ca) (i' := 10) (j' := 1) ⟨⟨ya10, yb10, xb10, yc10⟩, yd10, yee, yef, yg10⟩ (kit_ref (.inl (beq_eq_false_iff_ne.mp kqn10_1)) xq1 xt1 xm10_1) (kt_cons (ca := ca) (i' := 10) (j' := 2) ⟨⟨ya10, yb10, xb10, yc10⟩, yd10, yee, yef, yg10⟩ (kit_ref (.inl (beq_eq_false_iff_ne.mp kqn10_2)) xq2 xt2 xm10_2) (kt_cons (ca := ca) (i' := 10) (j' := 3) ⟨⟨ya10, yb10, xb10, yc10⟩, yd10, yee, yef, yg10⟩ (kit_ref (.inl (beq_eq_false_iff_ne.mp kqn10_3)) xq3 xt3 xm10_3) (kt_cons (ca := ca) (i' := 10) (j' := 4) ⟨⟨ya10, yb10, xb10, yc10⟩, yd10, yee, yef, yg10⟩ (kit_ref (.inl (beq_eq_false_iff_ne.mp kqn10_4)) xq4 xt4 xm10_4) (kt_cons (ca := ca) (i' := 10) (j' := 5) ⟨⟨ya10, yb10, xb10, yc10⟩, yd10, yee, yef, yg10⟩ (kit_ref (.inl (beq_eq_false_iff_ne.mp kqn10_5)) xq5 xt5 xm10_5) (kt_cons (ca := ca) (i' := 10) (j' := 6) ⟨⟨ya10, yb10, xb10, yc10⟩, yd10, yee, yef, yg10⟩ (kit_ref (.inl (beq_eq_false_iff_ne.mp kqn10_6)) xq6 xt6 xm10_6) (kt_cons (ca := ca) (i' := 10) (j' := 7) ⟨⟨ya10, yb10, xb10, yc10⟩, yd10, yee, yef, yg10⟩ (kit_ref (.inl (beq_eq_false_iff_ne.mp kqn10_7)) xq7 xt7 xm10_7) (kt_cons (ca := ca) (i' := 10) (j' := 8) ⟨⟨ya10, yb10, xb10, yc10⟩, yd10, yee, yef, yg10⟩ (kit_ref (.inl (beq_eq_false_iff_ne.mp kqn10_8)) xq8 xt8 xm10_8) (kt_cons (ca := ca) (i' := 10) (j' := 9) ⟨⟨ya10, yb10, xb10, yc10⟩, yd10, yee, yef, yg10⟩ (kit_ref (.inl (beq_eq_false_iff_ne.mp kqn10_9)) xq9 xt9 xm10_9) (kt_cons (ca := ca) (i' := 10) (j' := 10) ⟨⟨ya10, yb10, xb10, yc10⟩, yd10, yee, yef, yg10⟩ (kit_ref (.inr rfl) xq10 xt10 xm10_10) (kt_cons (ca := ca) (i' := 10) (j' := 11) ⟨⟨ya10, yb10, xb10, yc10⟩, yd10, yee, yef, yg10⟩ (kit_ref (.inl (beq_eq_false_iff_ne.mp kqn10_11)) xq11 xt11 xm10_11) (kt_cons (ca := ca) (i' := 10) (j' := 12) ⟨⟨ya10, yb10, xb10, yc10⟩, yd10, yee, yef, yg10⟩ (kit_ref (.inl (beq_eq_false_iff_ne.mp kqn10_12)) xq12 xt12 xm10_12) (kt_cons (ca := ca) (i' := 10) (j' := 13) ⟨⟨ya10, yb10, xb10, yc10⟩, yd10, yee, yef, yg10⟩ (kit_ref (.inl (beq_eq_false_iff_ne.mp kqn10_13)) xq13 xt13 xm10_13) (kt_cons (ca := ca) (i' := 10) (j' := 14) ⟨⟨ya10, yb10, xb10, yc10⟩, yd10, yee, yef, yg10⟩ (kit_ref (.inl (beq_eq_false_iff_ne.mp kqn10_14)) xq14 xt14 xm10_14) (kt_cons (ca := ca) (i' := 10) (j' := 15) ⟨⟨ya10, yb10, xb10, yc10⟩, yd10, yee, yef, yg10⟩ (kit_ref (.inl (beq_eq_false_iff_ne.mp kqn10_15)) xq15 xt15 xm10_15) (kt_cons (ca := ca) (i' := 11) (j' := 1) ⟨⟨ya11, yb11, xb11, yc11⟩, yd11, yee, yef, yg11⟩ (kit_ref (.inl (beq_eq_false_iff_ne.mp kqn11_1)) xq1 xt1 xm11_1) (kt_cons (ca := ca) (i' := 11) (j' := 2) ⟨⟨ya11, yb11, xb11, yc11⟩, yd11, yee, yef, yg11⟩ (kit_ref (.inl (beq_eq_false_iff_ne.mp kqn11_2)) xq2 xt2 xm11_2) (kt_cons (ca := ca) (i' := 11) (j' := 3) ⟨⟨ya11, yb11, xb11, yc11⟩, yd11, yee, yef, yg11⟩ (kit_ref (.inl (beq_eq_false_iff_ne.mp kqn11_3)) xq3 xt3 xm11_3) (kt_cons (ca := ca) (i' := 11) (j' := 4) ⟨⟨ya11, yb11, xb11, yc11⟩, yd11, yee, yef, yg11⟩ (kit_ref (.inl (beq_eq_false_iff_ne.mp kqn11_4)) xq4 xt4 xm11_4) (kt_cons (ca := ca) (i' := 11) (j' := 5) ⟨⟨ya11, yb11, xb11, yc11⟩, yd11, yee, yef, yg11⟩ (kit_ref (.inl (beq_eq_false_iff_ne.mp kqn11_5)) xq5 xt5 xm11_5) (kt_cons (ca := ca) (i' := 11) (j' := 6) ⟨⟨ya11, yb11, xb11, yc11⟩, yd11, yee, yef, yg11⟩ (kit_ref (.inl (beq_eq_false_iff_ne.mp kqn11_6)) xq6 xt6 xm11_6) (kt_cons (ca := ca) (i' := 11) (j' := 7) ⟨⟨ya11, yb11, xb11, yc11⟩, yd11, yee, yef, yg11⟩ (kit_ref (.inl (beq_eq_false_iff_ne.mp kqn11_7)) xq7 xt7 xm11_7) (kt_cons (ca := ca) (i' := 11) (j' := 8) ⟨⟨ya11, yb11, xb11, yc11⟩, yd11, yee, yef, yg11⟩ (kit_ref (.inl (beq_eq_false_iff_ne.mp kqn11_8)) xq8 xt8 xm11_8) (kt_cons (ca := ca) (i' := 11) (j' := 9) ⟨⟨ya11, yb11, xb11, yc11⟩, yd11, yee, yef, yg11⟩ (kit_ref (.inl (beq_eq_false_iff_ne.mp kqn11_9)) xq9 xt9 xm11_9) (kt_cons (ca := ca) (i' := 11) (j' := 10) ⟨⟨ya11, yb11, xb11, yc11⟩, yd11, yee, yef, yg11⟩ (kit_ref (.inl (beq_eq_false_iff_ne.mp kqn11_10)) xq10 xt10 xm11_10) (kt_cons (ca := ca) (i' := 11) (j' := 11) ⟨⟨ya11, yb11, xb11, yc11⟩, yd11, yee, yef, yg11⟩ (kit_ref (.inr rfl) xq11 xt11 xm11_11) (kt_cons (ca := ca) (i' := 11) (j' := 12) ⟨⟨ya11, yb11, xb11, yc11⟩, yd11, yee, yef, yg11⟩ (kit_ref (.inl (beq_eq_false_iff_ne.mp kqn11_12)) xq12 xt12 xm11_12) (kt_cons (ca := ca) (i' := 11) (j' := 13) ⟨⟨ya11, yb11, xb11, yc11⟩, yd11, yee, yef, yg11⟩ (kit_ref (.inl (beq_eq_false_iff_ne.mp kqn11_13)) xq13 xt13 xm11_13) (kt_cons (ca := ca) (i' := 11) (j' := 14) ⟨⟨ya11, yb11, xb11, yc11⟩, yd11, yee, yef, yg11⟩ (kit_ref (.inl (beq_eq_false_iff_ne.mp kqn11_14)) xq14 xt14 xm11_14) (kt_cons (ca := ca) (i' := 11) (j' := 15) ⟨⟨ya11, yb11, xb11, yc11⟩, yd11, yee, yef, yg11⟩ (kit_ref (.inl (beq_eq_false_iff_ne.mp kqn11_15)) xq15 xt15 xm11_15) (kt_cons (ca := ca) (i' := 12) (j' := 1) ⟨⟨ya12, yb12, xb12, yc12⟩, yd12, yee, yef, yg12⟩ (kit_ref (.inl (beq_eq_false_iff_ne.mp kqn12_1)) xq1 xt1 xm12_1) (kt_cons (ca := ca) (i' := 12) (j' := 2) ⟨⟨ya12, yb12, xb12, yc12⟩, yd12, yee, yef, yg12⟩ (kit_ref (.inl (beq_eq_false_iff_ne.mp kqn12_2)) xq2 xt2 xm12_2) (kt_cons (ca := ca) (i' := 12) (j' := 3) ⟨⟨ya12, yb12, xb12, yc12⟩, yd12, yee, yef, yg12⟩ (kit_ref (.inl (beq_eq_false_iff_ne.mp kqn12_3)) xq3 xt3 xm12_3) (kt_cons (ca := ca) (i' := 12) (j' := 4) ⟨⟨ya12, yb12, xb12, yc12⟩, yd12, yee, yef, yg12⟩ (kit_ref (.inl (beq_eq_false_iff_ne.mp kqn12_4)) xq4 xt4 xm12_4) (kt_cons (ca := ca) (i' := 12) (j' := 5) ⟨⟨ya12, yb12, xb12, yc12⟩, yd12, yee, yef, yg12⟩ (kit_ref (.inl (beq_eq_false_iff_ne.mp kqn12_5)) xq5 xt5 xm12_5) (kt_cons (ca := ca) (i' := 12) (j' := 6) ⟨⟨ya12, yb12, xb12, yc12⟩, yd12, yee, yef, yg12⟩ (kit_ref (.inl (beq_eq_false_iff_ne.mp kqn12_6)) xq6 xt6 xm12_6) (kt_cons (ca := ca) (i' := 12) (j' := 7) ⟨⟨ya12, yb12, xb12, yc12⟩, yd12, yee, yef, yg12⟩ (kit_ref (.inl (beq_eq_false_iff_ne.mp kqn12_7)) xq7 xt7 xm12_7) (kt_cons (ca := ca) (i' := 12) (j' := 8) ⟨⟨ya12, yb12, xb12, yc12⟩, yd12, yee, yef, yg12⟩ (kit_ref (.inl (beq_eq_false_iff_ne.mp kqn12_8)) xq8 xt8 xm12_8) (kt_cons (ca := ca) (i' := 12) (j' := 9) ⟨⟨ya12, yb12, xb12, yc12⟩, yd12, yee, yef, yg12⟩ (kit_ref (.inl (beq_eq_false_iff_ne.mp kqn12_9)) xq9 xt9 xm12_9) (kt_cons (ca := ca) (i' := 12) (j' := 10) ⟨⟨ya12, yb12, xb12, yc12⟩, yd12, yee, yef, yg12⟩ (kit_ref (.inl (beq_eq_false_iff_ne.mp kqn12_10)) xq10 xt10 xm12_10) (kt_cons (ca := ca) (i' := 12) (j' := 11) ⟨⟨ya12, yb12, xb12, yc12⟩, yd12, yee, yef, yg12⟩ (kit_ref (.inl (beq_eq_false_iff_ne.mp kqn12_11)) xq11 xt11 xm12_11) (kt_cons (ca := ca) (i' := 12) (j' := 12) ⟨⟨ya12, yb12, xb12, yc12⟩, yd12, yee, yef, yg12⟩ (kit_ref (.inr rfl) xq12 xt12 xm12_12) (kt_cons (ca := ca) (i' := 12) (j' := 13) ⟨⟨ya12, yb12, xb12, yc12⟩, yd12, yee, yef, yg12⟩ (kit_ref (.inl (beq_eq_false_iff_ne.mp kqn12_13)) xq13 xt13 xm12_13) (kt_cons (ca := ca) (i' := 12) (j' := 14) ⟨⟨ya12, yb12, xb12, yc12⟩, yd12, yee, yef, yg12⟩ (kit_ref (.inl (beq_eq_false_iff_ne.mp kqn12_14)) xq14 xt14 xm12_14) (kt_cons (ca := ca) (i' := 12) (j' := 15) ⟨⟨ya12, yb12, xb12, yc12⟩, yd12, yee, yef, yg12⟩ (kit_ref (.inl (beq_eq_false_iff_ne.mp kqn12_15)) xq15 xt15 xm12_15) (kt_cons (ca := ca) (i' := 13) (j' := 1) ⟨⟨ya13, yb13, xb13, yc13⟩, yd13, yee, yef, yg13⟩ (kit_ref (.inl (beq_eq_false_iff_ne.mp kqn13_1)) xq1 xt1 xm13_1) (kt_cons (ca := ca) (i' := 13) (j' := 2) ⟨⟨ya13, yb13, xb13, yc13⟩, yd13, yee, yef, yg13⟩ (kit_ref (.inl (beq_eq_false_iff_ne.mp kqn13_2)) xq2 xt2 xm13_2) (kt_cons (ca := ca) (i' := 13) (j' := 3) ⟨⟨ya13, yb13, xb13, yc13⟩, yd13, yee, yef, yg13⟩ (kit_ref (.inl (beq_eq_false_iff_ne.mp kqn13_3)) xq3 xt3 xm13_3) (kt_cons (ca := ca) (i' := 13) (j' := 4) ⟨⟨ya13, yb13, xb13, yc13⟩, yd13, yee, yef, yg13⟩ (kit_ref (.inl (beq_eq_false_iff_ne.mp kqn13_4)) xq4 xt4 xm13_4) (kt_cons (ca := ca) (i' := 13) (j' := 5) ⟨⟨ya13, yb13, xb13, yc13⟩, yd13, yee, yef, yg13⟩ (kit_ref (.inl (beq_eq_false_iff_ne.mp kqn13_5)) xq5 xt5 xm13_5) (kt_cons (ca := ca) (i' := 13) (j' := 6) ⟨⟨ya13, yb13, xb13, yc13⟩, yd13, yee, yef, yg13⟩ (kit_ref (.inl (beq_eq_false_iff_ne.mp kqn13_6)) xq6 xt6 xm13_6) (kt_cons (ca := ca) (i' := 13) (j' := 7) ⟨⟨ya13, yb13, xb13, yc13⟩, yd13, yee, yef, yg13⟩ (kit_ref (.inl (beq_eq_false_iff_ne.mp kqn13_7)) xq7 xt7 xm13_7) (kt_cons (ca := ca) (i' := 13) (j' := 8) ⟨⟨ya13, yb13, xb13, yc13⟩, yd13, yee, yef, yg13⟩ (kit_ref (.inl (beq_eq_false_iff_ne.mp kqn13_8)) xq8 xt8 xm13_8) (kt_cons (ca := ca) (i' := 13) (j' := 9) ⟨⟨ya13, yb13, xb13, yc13⟩, yd13, yee, yef, yg13⟩ (kit_ref (.inl (beq_eq_false_iff_ne.mp kqn13_9)) xq9 xt9 xm13_9) (kt_cons (ca := ca) (i' := 13) (j' := 10) ⟨⟨ya13, yb13, xb13, yc13⟩, yd13, yee, yef, yg13⟩ (kit_ref (.inl (beq_eq_false_iff_ne.mp kqn13_10)) xq10 xt10 xm13_10) (kt_cons (ca := ca) (i' := 13) (j' := 11) ⟨⟨ya13, yb13, xb13, yc13⟩, yd13, yee, yef, yg13⟩ (kit_ref (.inl (beq_eq_false_iff_ne.mp kqn13_11)) xq11 xt11 xm13_11) (kt_cons (ca := ca) (i' := 13) (j' := 12) ⟨⟨ya13, yb13, xb13, yc13⟩, yd13, yee, yef, yg13⟩ (kit_ref (.inl (beq_eq_false_iff_ne.mp kqn13_12)) xq12 xt12 xm13_12) (kt_cons (ca := ca) (i' := 13) (j' := 13) ⟨⟨ya13, yb13, xb13, yc13⟩, yd13, yee, yef, yg13⟩ (kit_ref (.inr rfl) xq13 xt13 xm13_13) (kt_cons (ca := ca) (i' := 13) (j' := 14) ⟨⟨ya13, yb13, xb13, yc13⟩, yd13, yee, yef, yg13⟩ (kit_ref (.inl (beq_eq_false_iff_ne.mp kqn13_14)) xq14 xt14 xm13_14) (kt_cons (ca := ca) (i' := 13) (j' := 15) ⟨⟨ya13, yb13, xb13, yc13⟩, yd13, yee, yef, yg13⟩ (kit_ref (.inl (beq_eq_false_iff_ne.mp kqn13_15)) xq15 xt15 xm13_15) (kt_cons (ca := ca) (i' := 14) (j' := 1) ⟨⟨ya14, yb14, xb14, yc14⟩, yd14, yee, yef, yg14⟩ (kit_ref (.inl (beq_eq_false_iff_ne.mp kqn14_1)) xq1 xt1 xm14_1) (kt_cons (ca := ca) (i' := 14) (j' := 2) ⟨⟨ya14, yb14, xb14, yc14⟩, yd14, yee, yef, yg14⟩ (kit_ref (.inl (beq_eq_false_iff_ne.mp kqn14_2)) xq2 xt2 xm14_2) (kt_cons (ca := ca) (i' := 14) (j' := 3) ⟨⟨ya14, yb14, xb14, yc14⟩, yd14, yee, yef, yg14⟩ (kit_ref (.inl (beq_eq_false_iff_ne.mp kqn14_3)) xq3 xt3 xm14_3) (kt_cons (ca := ca) (i' := 14) (j' := 4) ⟨⟨ya14, yb14, xb14, yc14⟩, yd14, yee, yef, yg14⟩ (kit_ref (.inl (beq_eq_false_iff_ne.mp kqn14_4)) xq4 xt4 xm14_4) (kt_cons (ca := ca) (i' := 14) (j' := 5) ⟨⟨ya14, yb14, xb14, yc14⟩, yd14, yee, yef, yg14⟩ (kit_ref (.inl (beq_eq_false_iff_ne.mp kqn14_5)) xq5 xt5 xm14_5) (kt_cons (ca := ca) (i' := 14) (j' := 6) ⟨⟨ya14, yb14, xb14, yc14⟩, yd14, yee, yef, yg14⟩ (kit_ref (.inl (beq_eq_false_iff_ne.mp kqn14_6)) xq6 xt6 xm14_6) (kt_cons (ca := ca) (i' := 14) (j' := 7) ⟨⟨ya14, yb14, xb14, yc14⟩, yd14, yee, yef, yg14⟩ (kit_ref (.inl (beq_eq_false_iff_ne.mp kqn14_7)) xq7 xt7 xm14_7) (kt_cons (ca := ca) (i' := 14) (j' := 8) ⟨⟨ya14, yb14, xb14, yc14⟩, yd14, yee, yef, yg14⟩ (kit_ref (.inl (beq_eq_false_iff_ne.mp kqn14_8)) xq8 xt8 xm14_8) (kt_cons (ca := ca) (i' := 14) (j' := 9) ⟨⟨ya14, yb14, xb14, yc14⟩, yd14, yee, yef, yg14⟩ (kit_ref (.inl (beq_eq_false_iff_ne.mp kqn14_9)) xq9 xt9 xm14_9) (kt_cons (ca := ca) (i' := 14) (j' := 10) ⟨⟨ya14, yb14, xb14, yc14⟩, yd14, yee, yef, yg14⟩ (kit_ref (.inl (beq_eq_false_iff_ne.mp kqn14_10)) xq10 xt10 xm14_10) (kt_cons (ca := ca) (i' := 14) (j' := 11) ⟨⟨ya14, yb14, xb14, yc14⟩, yd14, yee, yef, yg14⟩ (kit_ref (.inl (beq_eq_false_iff_ne.mp kqn14_11)) xq11 xt11 xm14_11) (kt_cons (ca := ca) (i' := 14) (j' := 12) ⟨⟨ya14, yb14, xb14, yc14⟩, yd14, yee, yef, yg14⟩ (kit_ref (.inl (beq_eq_false_iff_ne.mp kqn14_12)) xq12 xt12 xm14_12) (kt_cons (ca := ca) (i' := 14) (j' := 13) ⟨⟨ya14, yb14, xb14, yc14⟩, yd14, yee, yef, yg14⟩ (kit_ref (.inl (beq_eq_false_iff_ne.mp kqn14_13)) xq13 xt13 xm14_13) (kt_cons (ca := ca) (i' := 14) (j' := 14) ⟨⟨ya14, yb14, xb14, yc14⟩, yd14, yee, yef, yg14⟩ (kit_ref (.inr rfl) xq14 xt14 xm14_14) (kt_cons (ca := ca) (i' := 14) (j' := 15) ⟨⟨ya14, yb14, xb14, yc14⟩, yd14, yee, yef, yg14⟩ (kit_ref (.inl (beq_eq_false_iff_ne.mp kqn14_15)) xq15 xt15 xm14_15) (kt_cons (ca := ca) (i' := 15) (j' := 1) ⟨⟨ya15, yb15, xb15, yc15⟩, yd15, yee, yef, yg15⟩ (kit_ref (.inl (beq_eq_false_iff_ne.mp kqn15_1)) xq1 xt1 xm15_1) (kt_cons (ca := ca) (i' := 15) (j' := 2) ⟨⟨ya15, yb15, xb15, yc15⟩, yd15, yee, yef, yg15⟩ (kit_ref (.inl (beq_eq_false_iff_ne.mp kqn15_2)) xq2 xt2 xm15_2) (kt_cons (ca := ca) (i' := 15) (j' := 3) ⟨⟨ya15, yb15, xb15, yc15⟩, yd15, yee, yef, yg15⟩ (kit_ref (.inl (beq_eq_false_iff_ne.mp kqn15_3)) xq3 xt3 xm15_3) (kt_cons (ca := ca) (i' := 15) (j' := 4) ⟨⟨ya15, yb15, xb15, yc15⟩, yd15, yee, yef, yg15⟩ (kit_ref (.inl (beq_eq_false_iff_ne.mp kqn15_4)) xq4 xt4 xm15_4) (kt_cons (ca := ca) (i' := 15) (j' := 5) ⟨⟨ya15, yb15, xb15, yc15⟩, yd15, yee, yef, yg15⟩ (kit_ref (.inl (beq_eq_false_iff_ne.mp kqn15_5)) xq5 xt5 xm15_5) (kt_cons (ca := ca) (i' := 15) (j' := 6) ⟨⟨ya15, yb15, xb15, yc15⟩, yd15, yee, yef, yg15⟩ (kit_ref (.inl (beq_eq_false_iff_ne.mp kqn15_6)) xq6 xt6 xm15_6) (kt_cons (ca := ca) (i' := 15) (j' := 7) ⟨⟨ya15, yb15, xb15, yc15⟩, yd15, yee, yef, yg15⟩ (kit_ref (.inl (beq_eq_false_iff_ne.mp kqn15_7)) xq7 xt7 xm15_7) (kt_cons (ca := ca) (i' := 15) (j' := 8) ⟨⟨ya15, yb15, xb15, yc15⟩, yd15, yee, yef, yg15⟩ (kit_ref (.inl (beq_eq_false_iff_ne.mp kqn15_8)) xq8 xt8 xm15_8) (kt_cons (ca := ca) (i' := 15) (j' := 9) ⟨⟨ya15, yb15, xb15, yc15⟩, yd15, yee, yef, yg15⟩ (kit_ref (.inl (beq_eq_false_iff_ne.mp kqn15_9)) xq9 xt9 xm15_9) (kt_cons (ca := ca) (i' := 15) (j' := 10) ⟨⟨ya15, yb15, xb15, yc15⟩, yd15, yee, yef, yg15⟩ (kit_ref (.inl (beq_eq_false_iff_ne.mp kqn15_10)) xq10 xt10 xm15_10) (kt_cons (ca := ca) (i' := 15) (j' := 11) ⟨⟨ya15, yb15, xb15, yc15⟩, yd15, yee, yef, yg15⟩ (kit_ref (.inl (beq_eq_false_iff_ne.mp kqn15_11)) xq11 xt11 xm15_11) (kt_cons (ca := ca) (i' := 15) (j' := 12) ⟨⟨ya15, yb15, xb15, yc15⟩, yd15, yee, yef, yg15⟩ (kit_ref (.inl (beq_eq_false_iff_ne.mp kqn15_12)) xq12 xt12 xm15_12) (kt_cons (ca := ca) (i' := 15) (j' := 13) ⟨⟨ya15, yb15, xb15, yc15⟩, yd15, yee, yef, yg15⟩ (kit_ref (.inl (beq_eq_false_iff_ne.mp kqn15_13)) xq13 xt13 xm15_13) (kt_cons (ca := ca) (i' := 15) (j' := 14) ⟨⟨ya15, yb15, xb15, yc15⟩, yd15, yee, yef, yg15⟩ (kit_ref (.inl (beq_eq_false_iff_ne.mp kqn15_14)) xq14 xt14 xm15_14) (kt_cons (ca := ca) (i' := 15) (j' := 15) ⟨⟨ya15, yb15, xb15, yc15⟩, yd15, yee, yef, yg15⟩ (kit_ref (.inr rfl) xq15 xt15 xm15_15) (kt_cons (ca := ca) (i' := 1) (j' := 1) ⟨⟨ya1, yb1, xb1, yc1⟩, yd1, yee, yef, yg1⟩ (kit_ref (.inr rfl) xq1 xt1 xm1_1) (kt_cons (ca := ca) (i' := 1) (j' := 2) ⟨⟨ya1, yb1, xb1, yc1⟩, yd1, yee, yef, yg1⟩ (kit_ref (.inl (beq_eq_false_iff_ne.mp kqn1_2)) xq2 xt2 xm1_2) (kt_cons (ca := ca) (i' := 1) (j' := 3) ⟨⟨ya1, yb1, xb1, yc1⟩, yd1, yee, yef, yg1⟩ (kit_ref (.inl (beq_eq_false_iff_ne.mp kqn1_3)) xq3 xt3 xm1_3) (kt_cons (ca := ca) (i' := 1) (j' := 4) ⟨⟨ya1, yb1, xb1, yc1⟩, yd1, yee, yef, yg1⟩ (kit_ref (.inl (beq_eq_false_iff_ne.mp kqn1_4)) xq4 xt4 xm1_4) (kt_cons (ca := ca) (i' := 1) (j' := 5) ⟨⟨ya1, yb1, xb1, yc1⟩, yd1, yee, yef, yg1⟩ (kit_ref (.inl (beq_eq_false_iff_ne.mp kqn1_5)) xq5 xt5 xm1_5) (kt_cons (ca := ca) (i' := 1) (j' := 6) ⟨⟨ya1, yb1, xb1, yc1⟩, yd1, yee, yef, yg1⟩ (kit_ref (.inl (beq_eq_false_iff_ne.mp kqn1_6)) xq6 xt6 xm1_6) (kt_cons (ca := ca) (i' := 1) (j' := 7) ⟨⟨ya1, yb1, xb1, yc1⟩, yd1, yee, yef, yg1⟩ (kit_ref (.inl (beq_eq_false_iff_ne.mp kqn1_7)) xq7 xt7 xm1_7) (kt_cons (ca := ca) (i' := 1) (j' := 8) ⟨⟨ya1, yb1, xb1, yc1⟩, yd1, yee, yef, yg1⟩ (kit_ref (.inl (beq_eq_false_iff_ne.mp kqn1_8)) xq8 xt8 xm1_8) (kt_cons (ca := ca) (i' := 1) (j' := 9) ⟨⟨ya1, yb1, xb1, yc1⟩, yd1, yee, yef, yg1⟩ (kit_ref (.inl (beq_eq_false_iff_ne.mp kqn1_9)) xq9 xt9 xm1_9) (kt_cons (ca := ca) (i' := 1) (j' := 10) ⟨⟨ya1, yb1, xb1, yc1⟩, yd1, yee, yef, yg1⟩ (kit_ref (.inl (beq_eq_false_iff_ne.mp kqn1_10)) xq10 xt10 xm1_10) (kt_cons (ca := ca) (i' := 1) (j' := 11) ⟨⟨ya1, yb1, xb1, yc1⟩, yd1, yee, yef, yg1⟩ (kit_ref (.inl (beq_eq_false_iff_ne.mp kqn1_11)) xq11 xt11 xm1_11) (kt_cons (ca := ca) (i' := 1) (j' := 12) ⟨⟨ya1, yb1, xb1, yc1⟩, yd1, yee, yef, yg1⟩ (kit_ref (.inl (beq_eq_false_iff_ne.mp kqn1_12)) xq12 xt12 xm1_12) (kt_cons (ca := ca) (i' := 1) (j' := 13) ⟨⟨ya1, yb1, xb1, yc1⟩, yd1, yee, yef, yg1⟩ (kit_ref (.inl (beq_eq_false_iff_ne.mp kqn1_13)) xq13 xt13 xm1_13) (kt_cons (ca := ca) (i' := 1) (j' := 14) ⟨⟨ya1, yb1, xb1, yc1⟩, yd1, yee, yef, yg1⟩ (kit_ref (.inl (beq_eq_false_iff_ne.mp kqn1_14)) xq14 xt14 xm1_14) (kt_cons (ca := ca) (i' := 1) (j' := 15) ⟨⟨ya1, yb1, xb1, yc1⟩, yd1, yee, yef, yg1⟩ (kit_ref (.inl (beq_eq_false_iff_ne.mp kqn1_15)) xq15 xt15 xm1_15) (kt_cons (ca := ca) (i' := 2) (j' := 1) ⟨⟨ya2, yb2, xb2, yc2⟩, yd2, yee, yef, yg2⟩ (kit_ref (.inl (beq_eq_false_iff_ne.mp kqn2_1)) xq1 xt1 xm2_1) (kt_cons (ca := ca) (i' := 2) (j' := 2) ⟨⟨ya2, yb2, xb2, yc2⟩, yd2, yee, yef, yg2⟩ (kit_ref (.inr rfl) xq2 xt2 xm2_2) (kt_cons (ca := ca) (i' := 2) (j' := 3) ⟨⟨ya2, yb2, xb2, yc2⟩, yd2, yee, yef, yg2⟩ (kit_ref (.inl (beq_eq_false_iff_ne.mp kqn2_3)) xq3 xt3 xm2_3) (kt_cons (ca := ca) (i' := 2) (j' := 4) ⟨⟨ya2, yb2, xb2, yc2⟩, yd2, yee, yef, yg2⟩ (kit_ref (.inl (beq_eq_false_iff_ne.mp kqn2_4)) xq4 xt4 xm2_4) (kt_cons (ca := ca) (i' := 2) (j' := 5) ⟨⟨ya2, yb2, xb2, yc2⟩, yd2, yee, yef, yg2⟩ (kit_ref (.inl (beq_eq_false_iff_ne.mp kqn2_5)) xq5 xt5 xm2_5) (kt_cons (ca := ca) (i' := 2) (j' := 6) ⟨⟨ya2, yb2, xb2, yc2⟩, yd2, yee, yef, yg2⟩ (kit_ref (.inl (beq_eq_false_iff_ne.mp kqn2_6)) xq6 xt6 xm2_6) (kt_cons (ca := ca) (i' := 2) (j' := 7) ⟨⟨ya2, yb2, xb2, yc2⟩, yd2, yee, yef, yg2⟩ (kit_ref (.inl (beq_eq_false_iff_ne.mp kqn2_7)) xq7 xt7 xm2_7) (kt_cons (ca := ca) (i' := 2) (j' := 8) ⟨⟨ya2, yb2, xb2, yc2⟩, yd2, yee, yef, yg2⟩ (kit_ref (.inl (beq_eq_false_iff_ne.mp kqn2_8)) xq8 xt8 xm2_8) (kt_cons (ca := ca) (i' := 2) (j' := 9) ⟨⟨ya2, yb2, xb2, yc2⟩, yd2, yee, yef, yg2⟩ (kit_ref (.inl (beq_eq_false_iff_ne.mp kqn2_9)) xq9 xt9 xm2_9) (kt_cons (ca := ca) (i' := 2) (j' := 10) ⟨⟨ya2, yb2, xb2, yc2⟩, yd2, yee, yef, yg2⟩ (kit_ref (.inl (beq_eq_false_iff_ne.mp kqn2_10)) xq10 xt10 xm2_10) (kt_cons (ca := ca) (i' := 2) (j' := 11) ⟨⟨ya2, yb2, xb2, yc2⟩, yd2, yee, yef, yg2⟩ (kit_ref (.inl (beq_eq_false_iff_ne.mp kqn2_11)) xq11 xt11 xm2_11) (kt_cons (ca := ca) (i' := 2) (j' := 12) ⟨⟨ya2, yb2, xb2, yc2⟩, yd2, yee, yef, yg2⟩ (kit_ref (.inl (beq_eq_false_iff_ne.mp kqn2_12)) xq12 xt12 xm2_12) (kt_cons (ca := ca) (i' := 2) (j' := 13) ⟨⟨ya2, yb2, xb2, yc2⟩, yd2, yee, yef, yg2⟩ (kit_ref (.inl (beq_eq_false_iff_ne.mp kqn2_13)) xq13 xt13 xm2_13) (kt_cons (ca := ca) (i' := 2) (j' := 14) ⟨⟨ya2, yb2, xb2, yc2⟩, yd2, yee, yef, yg2⟩ (kit_ref (.inl (beq_eq_false_iff_ne.mp kqn2_14)) xq14 xt14 xm2_14) (kt_cons (ca := ca) (i' := 2) (j' := 15) ⟨⟨ya2, yb2, xb2, yc2⟩, yd2, yee, yef, yg2⟩ (kit_ref (.inl (beq_eq_false_iff_ne.mp kqn2_15)) xq15 xt15 xm2_15) (kt_cons (ca := ca) (i' := 3) (j' := 1) ⟨⟨ya3, yb3, xb3, yc3⟩, yd3, yee, yef, yg3⟩ (kit_ref (.inl (beq_eq_false_iff_ne.mp kqn3_1)) xq1 xt1 xm3_1) (kt_cons (ca := ca) (i' := 3) (j' := 2) ⟨⟨ya3, yb3, xb3, yc3⟩, yd3, yee, yef, yg3⟩ (kit_ref (.inl (beq_eq_false_iff_ne.mp kqn3_2)) xq2 xt2 xm3_2) (kt_cons (ca := ca) (i' := 3) (j' := 3) ⟨⟨ya3, yb3, xb3, yc3⟩, yd3, yee, yef, yg3⟩ (kit_ref (.inr rfl) xq3 xt3 xm3_3) (kt_cons (ca := ca) (i' := 3) (j' := 4) ⟨⟨ya3, yb3, xb3, yc3⟩, yd3, yee, yef, yg3⟩ (kit_ref (.inl (beq_eq_false_iff_ne.mp kqn3_4)) xq4 xt4 xm3_4) (kt_cons (ca := ca) (i' := 3) (j' := 5) ⟨⟨ya3, yb3, xb3, yc3⟩, yd3, yee, yef, yg3⟩ (kit_ref (.inl (beq_eq_false_iff_ne.mp kqn3_5)) xq5 xt5 xm3_5) (kt_cons (ca := ca) (i' := 3) (j' := 6) ⟨⟨ya3, yb3, xb3, yc3⟩, yd3, yee, yef, yg3⟩ (kit_ref (.inl (beq_eq_false_iff_ne.mp kqn3_6)) xq6 xt6 xm3_6) (kt_cons (ca := ca) (i' := 3) (j' := 7) ⟨⟨ya3, yb3, xb3, yc3⟩, yd3, yee, yef, yg3⟩ (kit_ref (.inl (beq_eq_false_iff_ne.mp kqn3_7)) xq7 xt7 xm3_7) (kt_cons (ca := ca) (i' := 3) (j' := 8) ⟨⟨ya3, yb3, xb3, yc3⟩, yd3, yee, yef, yg3⟩ (kit_ref (.inl (beq_eq_false_iff_ne.mp kqn3_8)) xq8 xt8 xm3_8) (kt_cons (ca := ca) (i' := 3) (j' := 9) ⟨⟨ya3, yb3, xb3, yc3⟩, yd3, yee, yef, yg3⟩ (kit_ref (.inl (beq_eq_false_iff_ne.mp kqn3_9)) xq9 xt9 xm3_9) (kt_cons (ca := ca) (i' := 3) (j' := 10) ⟨⟨ya3, yb3, xb3, yc3⟩, yd3, yee, yef, yg3⟩ (kit_ref (.inl (beq_eq_false_iff_ne.mp kqn3_10)) xq10 xt10 xm3_10) (kt_cons (ca := ca) (i' := 3) (j' := 11) ⟨⟨ya3, yb3, xb3, yc3⟩, yd3, yee, yef, yg3⟩ (kit_ref (.inl (beq_eq_false_iff_ne.mp kqn3_11)) xq11 xt11 xm3_11) (kt_cons (ca := ca) (i' := 3) (j' := 12) ⟨⟨ya3, yb3, xb3, yc3⟩, yd3, yee, yef, yg3⟩ (kit_ref (.inl (beq_eq_false_iff_ne.mp kqn3_12)) xq12 xt12 xm3_12) (kt_cons (ca := ca) (i' := 3) (j' := 13) ⟨⟨ya3, yb3, xb3, yc3⟩, yd3, yee, yef, yg3⟩ (kit_ref (.inl (beq_eq_false_iff_ne.mp kqn3_13)) xq13 xt13 xm3_13) (kt_cons (ca := ca) (i' := 3) (j' := 14) ⟨⟨ya3, yb3, xb3, yc3⟩, yd3, yee, yef, yg3⟩ (kit_ref (.inl (beq_eq_false_iff_ne.mp kqn3_14)) xq14 xt14 xm3_14) (kt_cons (ca := ca) (i' := 3) (j' := 15) ⟨⟨ya3, yb3, xb3, yc3⟩, yd3, yee, yef, yg3⟩ (kit_ref (.inl (beq_eq_false_iff_ne.mp kqn3_15)) xq15 xt15 xm3_15) (kt_cons (ca := ca) (i' := 4) (j' := 1) ⟨⟨ya4, yb4, xb4, yc4⟩, yd4, yee, yef, yg4⟩ (kit_ref (.inl (beq_eq_false_iff_ne.mp kqn4_1)) xq1 xt1 xm4_1) (kt_cons (ca := ca) (i' := 4) (j' := 2) ⟨⟨ya4, yb4, xb4, yc4⟩, yd4, yee, yef, yg4⟩ (kit_ref (.inl (beq_eq_false_iff_ne.mp kqn4_2)) xq2 xt2 xm4_2) (kt_cons (ca := ca) (i' := 4) (j' := 3) ⟨⟨ya4, yb4, xb4, yc4⟩, yd4, yee, yef, yg4⟩ (kit_ref (.inl (beq_eq_false_iff_ne.mp kqn4_3)) xq3 xt3 xm4_3) (kt_cons (ca := ca) (i' := 4) (j' := 4) ⟨⟨ya4, yb4, xb4, yc4⟩, yd4, yee, yef, yg4⟩ (kit_ref (.inr rfl) xq4 xt4 xm4_4) (kt_cons (ca := ca) (i' := 4) (j' := 5) ⟨⟨ya4, yb4, xb4, yc4⟩, yd4, yee, yef, yg4⟩ (kit_ref (.inl (beq_eq_false_iff_ne.mp kqn4_5)) xq5 xt5 xm4_5) (kt_cons (ca := ca) (i' := 4) (j' := 6) ⟨⟨ya4, yb4, xb4, yc4⟩, yd4, yee, yef, yg4⟩ (kit_ref (.inl (beq_eq_false_iff_ne.mp kqn4_6)) xq6 xt6 xm4_6) (kt_cons (ca := ca) (i' := 4) (j' := 7) ⟨⟨ya4, yb4, xb4, yc4⟩, yd4, yee, yef, yg4⟩ (kit_ref (.inl (beq_eq_false_iff_ne.mp kqn4_7)) xq7 xt7 xm4_7) (kt_cons (ca := ca) (i' := 4) (j' := 8) ⟨⟨ya4, yb4, xb4, yc4⟩, yd4, yee, yef, yg4⟩ (kit_ref (.inl (beq_eq_false_iff_ne.mp kqn4_8)) xq8 xt8 xm4_8) (kt_cons (ca := ca) (i' := 4) (j' := 9) ⟨⟨ya4, yb4, xb4, yc4⟩, yd4, yee, yef, yg4⟩ (kit_ref (.inl (beq_eq_false_iff_ne.mp kqn4_9)) xq9 xt9 xm4_9) (kt_cons (ca := ca) (i' := 4) (j' := 10) ⟨⟨ya4, yb4, xb4, yc4⟩, yd4, yee, yef, yg4⟩ (kit_ref (.inl (beq_eq_false_iff_ne.mp kqn4_10)) xq10 xt10 xm4_10) (kt_cons (ca := ca) (i' := 4) (j' := 11) ⟨⟨ya4, yb4, xb4, yc4⟩, yd4, yee, yef, yg4⟩ (kit_ref (.inl (beq_eq_false_iff_ne.mp kqn4_11)) xq11 xt11 xm4_11) (kt_cons (ca := ca) (i' := 4) (j' := 12) ⟨⟨ya4, yb4, xb4, yc4⟩, yd4, yee, yef, yg4⟩ (kit_ref (.inl (beq_eq_false_iff_ne.mp kqn4_12)) xq12 xt12 xm4_12) (kt_cons (ca := ca) (i' := 4) (j' := 13) ⟨⟨ya4, yb4, xb4, yc4⟩, yd4, yee, yef, yg4⟩ (kit_ref (.inl (beq_eq_false_iff_ne.mp kqn4_13)) xq13 xt13 xm4_13) (kt_cons (ca := ca) (i' := 4) (j' := 14) ⟨⟨ya4, yb4, xb4, yc4⟩, yd4, yee, yef, yg4⟩ (kit_ref (.inl (beq_eq_false_iff_ne.mp kqn4_14)) xq14 xt14 xm4_14) (kt_cons (ca := ca) (i' := 4) (j' := 15) ⟨⟨ya4, yb4, xb4, yc4⟩, yd4, yee, yef, yg4⟩ (kit_ref (.inl (beq_eq_false_iff_ne.mp kqn4_15)) xq15 xt15 xm4_15) (kt_cons (ca := ca) (i' := 5) (j' := 1) ⟨⟨ya5, yb5, xb5, yc5⟩, yd5, yee, yef, yg5⟩ (kit_ref (.inl (beq_eq_false_iff_ne.mp kqn5_1)) xq1 xt1 xm5_1) (kt_cons (ca := ca) (i' := 5) (j' := 2) ⟨⟨ya5, yb5, xb5, yc5⟩, yd5, yee, yef, yg5⟩ (kit_ref (.inl (beq_eq_false_iff_ne.mp kqn5_2)) xq2 xt2 xm5_2) (kt_cons (ca := ca) (i' := 5) (j' := 3) ⟨⟨ya5, yb5, xb5, yc5⟩, yd5, yee, yef, yg5⟩ (kit_ref (.inl (beq_eq_false_iff_ne.mp kqn5_3)) xq3 xt3 xm5_3) (kt_cons (ca := ca) (i' := 5) (j' := 4) ⟨⟨ya5, yb5, xb5, yc5⟩, yd5, yee, yef, yg5⟩ (kit_ref (.inl (beq_eq_false_iff_ne.mp kqn5_4)) xq4 xt4 xm5_4) (kt_cons (ca := ca) (i' := 5) (j' := 5) ⟨⟨ya5, yb5, xb5, yc5⟩, yd5, yee, yef, yg5⟩ (kit_ref (.inr rfl) xq5 xt5 xm5_5) (kt_cons (ca := ca) (i' := 5) (j' := 6) ⟨⟨ya5, yb5, xb5, yc5⟩, yd5, yee, yef, yg5⟩ (kit_ref (.inl (beq_eq_false_iff_ne.mp kqn5_6)) xq6 xt6 xm5_6) (kt_cons (ca := ca) (i' := 5) (j' := 7) ⟨⟨ya5, yb5, xb5, yc5⟩, yd5, yee, yef, yg5⟩ (kit_ref (.inl (beq_eq_false_iff_ne.mp kqn5_7)) xq7 xt7 xm5_7) (kt_cons (ca := ca) (i' := 5) (j' := 8) ⟨⟨ya5, yb5, xb5, yc5⟩, yd5, yee, yef, yg5⟩ (kit_ref (.inl (beq_eq_false_iff_ne.mp kqn5_8)) xq8 xt8 xm5_8) (kt_cons (ca := ca) (i' := 5) (j' := 9) ⟨⟨ya5, yb5, xb5, yc5⟩, yd5, yee, yef, yg5⟩ (kit_ref (.inl (beq_eq_false_iff_ne.mp kqn5_9)) xq9 xt9 xm5_9) (kt_cons (ca := ca) (i' := 5) (j' := 10) ⟨⟨ya5, yb5, xb5, yc5⟩, yd5, yee, yef, yg5⟩ (kit_ref (.inl (beq_eq_false_iff_ne.mp kqn5_10)) xq10 xt10 xm5_10) (kt_cons (ca := ca) (i' := 5) (j' := 11) ⟨⟨ya5, yb5, xb5, yc5⟩, yd5, yee, yef, yg5⟩ (kit_ref (.inl (beq_eq_false_iff_ne.mp kqn5_11)) xq11 xt11 xm5_11) (kt_cons (ca := ca) (i' := 5) (j' := 12) ⟨⟨ya5, yb5, xb5, yc5⟩, yd5, yee, yef, yg5⟩ (kit_ref (.inl (beq_eq_false_iff_ne.mp kqn5_12)) xq12 xt12 xm5_12) (kt_cons (ca := ca) (i' := 5) (j' := 13) ⟨⟨ya5, yb5, xb5, yc5⟩, yd5, yee, yef, yg5⟩ (kit_ref (.inl (beq_eq_false_iff_ne.mp kqn5_13)) xq13 xt13 xm5_13) (kt_cons (ca := ca) (i' := 5) (j' := 14) ⟨⟨ya5, yb5, xb5, yc5⟩, yd5, yee, yef, yg5⟩ (kit_ref (.inl (beq_eq_false_iff_ne.mp kqn5_14)) xq14 xt14 xm5_14) (kt_cons (ca := ca) (i' := 5) (j' := 15) ⟨⟨ya5, yb5, xb5, yc5⟩, yd5, yee, yef, yg5⟩ (kit_ref (.inl (beq_eq_false_iff_ne.mp kqn5_15)) xq15 xt15 xm5_15) (kt_cons (ca := ca) (i' := 6) (j' := 1) ⟨⟨ya6, yb6, xb6, yc6⟩, yd6, yee, yef, yg6⟩ (kit_ref (.inl (beq_eq_false_iff_ne.mp kqn6_1)) xq1 xt1 xm6_1) (kt_cons (ca := ca) (i' := 6) (j' := 2) ⟨⟨ya6, yb6, xb6, yc6⟩, yd6, yee, yef, yg6⟩ (kit_ref (.inl (beq_eq_false_iff_ne.mp kqn6_2)) xq2 xt2 xm6_2) (kt_cons (ca := ca) (i' := 6) (j' := 3) ⟨⟨ya6, yb6, xb6, yc6⟩, yd6, yee, yef, yg6⟩ (kit_ref (.inl (beq_eq_false_iff_ne.mp kqn6_3)) xq3 xt3 xm6_3) (kt_cons (ca := ca) (i' := 6) (j' := 4) ⟨⟨ya6, yb6, xb6, yc6⟩, yd6, yee, yef, yg6⟩ (kit_ref (.inl (beq_eq_false_iff_ne.mp kqn6_4)) xq4 xt4 xm6_4) (kt_cons (ca := ca) (i' := 6) (j' := 5) ⟨⟨ya6, yb6, xb6, yc6⟩, yd6, yee, yef, yg6⟩ (kit_ref (.inl (beq_eq_false_iff_ne.mp kqn6_5)) xq5 xt5 xm6_5) (kt_cons (ca := ca) (i' := 6) (j' := 6) ⟨⟨ya6, yb6, xb6, yc6⟩, yd6, yee, yef, yg6⟩ (kit_ref (.inr rfl) xq6 xt6 xm6_6) (kt_cons (ca := ca) (i' := 6) (j' := 7) ⟨⟨ya6, yb6, xb6, yc6⟩, yd6, yee, yef, yg6⟩ (kit_ref (.inl (beq_eq_false_iff_ne.mp kqn6_7)) xq7 xt7 xm6_7) (kt_cons (ca := ca) (i' := 6) (j' := 8) ⟨⟨ya6, yb6, xb6, yc6⟩, yd6, yee, yef, yg6⟩ (kit_ref (.inl (beq_eq_false_iff_ne.mp kqn6_8)) xq8 xt8 xm6_8) (kt_cons (ca := ca) (i' := 6) (j' := 9) ⟨⟨ya6, yb6, xb6, yc6⟩, yd6, yee, yef, yg6⟩ (kit_ref (.inl (beq_eq_false_iff_ne.mp kqn6_9)) xq9 xt9 xm6_9) (kt_cons (ca := ca) (i' := 6) (j' := 10) ⟨⟨ya6, yb6, xb6, yc6⟩, yd6, yee, yef, yg6⟩ (kit_ref (.inl (beq_eq_false_iff_ne.mp kqn6_10)) xq10 xt10 xm6_10) (kt_cons (ca := ca) (i' := 6) (j' := 11) ⟨⟨ya6, yb6, xb6, yc6⟩, yd6, yee, yef, yg6⟩ (kit_ref (.inl (beq_eq_false_iff_ne.mp kqn6_11)) xq11 xt11 xm6_11) (kt_cons (ca := ca) (i' := 6) (j' := 12) ⟨⟨ya6, yb6, xb6, yc6⟩, yd6, yee, yef, yg6⟩ (kit_ref (.inl (beq_eq_false_iff_ne.mp kqn6_12)) xq12 xt12 xm6_12) (kt_cons (ca := ca) (i' := 6) (j' := 13) ⟨⟨ya6, yb6, xb6, yc6⟩, yd6, yee, yef, yg6⟩ (kit_ref (.inl (beq_eq_false_iff_ne.mp kqn6_13)) xq13 xt13 xm6_13) (kt_cons (ca := ca) (i' := 6) (j' := 14) ⟨⟨ya6, yb6, xb6, yc6⟩, yd6, yee, yef, yg6⟩ (kit_ref (.inl (beq_eq_false_iff_ne.mp kqn6_14)) xq14 xt14 xm6_14) (kt_cons (ca := ca) (i' := 6) (j' := 15) ⟨⟨ya6, yb6, xb6, yc6⟩, yd6, yee, yef, yg6⟩ (kit_ref (.inl (beq_eq_false_iff_ne.mp kqn6_15)) xq15 xt15 xm6_15) (kt_cons (ca := ca) (i' := 7) (j' := 1) ⟨⟨ya7, yb7, xb7, yc7⟩, yd7, yee, yef, yg7⟩ (kit_ref (.inl (beq_eq_false_iff_ne.mp kqn7_1)) xq1 xt1 xm7_1) (kt_cons (ca := ca) (i' := 7) (j' := 2) ⟨⟨ya7, yb7, xb7, yc7⟩, yd7, yee, yef, yg7⟩ (kit_ref (.inl (beq_eq_false_iff_ne.mp kqn7_2)) xq2 xt2 xm7_2) (kt_cons (ca := ca) (i' := 7) (j' := 3) ⟨⟨ya7, yb7, xb7, yc7⟩, yd7, yee, yef, yg7⟩ (kit_ref (.inl (beq_eq_false_iff_ne.mp kqn7_3)) xq3 xt3 xm7_3) (kt_cons (ca := ca) (i' := 7) (j' := 4) ⟨⟨ya7, yb7, xb7, yc7⟩, yd7, yee, yef, yg7⟩ (kit_ref (.inl (beq_eq_false_iff_ne.mp kqn7_4)) xq4 xt4 xm7_4) (kt_cons (ca := ca) (i' := 7) (j' := 5) ⟨⟨ya7, yb7, xb7, yc7⟩, yd7, yee, yef, yg7⟩ (kit_ref (.inl (beq_eq_false_iff_ne.mp kqn7_5)) xq5 xt5 xm7_5) (kt_cons (ca := ca) (i' := 7) (j' := 6) ⟨⟨ya7, yb7, xb7, yc7⟩, yd7, yee, yef, yg7⟩ (kit_ref (.inl (beq_eq_false_iff_ne.mp kqn7_6)) xq6 xt6 xm7_6) (kt_cons (ca := ca) (i' := 7) (j' := 7) ⟨⟨ya7, yb7, xb7, yc7⟩, yd7, yee, yef, yg7⟩ (kit_ref (.inr rfl) xq7 xt7 xm7_7) (kt_cons (ca := ca) (i' := 7) (j' := 8) ⟨⟨ya7, yb7, xb7, yc7⟩, yd7, yee, yef, yg7⟩ (kit_ref (.inl (beq_eq_false_iff_ne.mp kqn7_8)) xq8 xt8 xm7_8) (kt_cons (ca := ca) (i' := 7) (j' := 9) ⟨⟨ya7, yb7, xb7, yc7⟩, yd7, yee, yef, yg7⟩ (kit_ref (.inl (beq_eq_false_iff_ne.mp kqn7_9)) xq9 xt9 xm7_9) (kt_cons (ca := ca) (i' := 7) (j' := 10) ⟨⟨ya7, yb7, xb7, yc7⟩, yd7, yee, yef, yg7⟩ (kit_ref (.inl (beq_eq_false_iff_ne.mp kqn7_10)) xq10 xt10 xm7_10) (kt_cons (ca := ca) (i' := 7) (j' := 11) ⟨⟨ya7, yb7, xb7, yc7⟩, yd7, yee, yef, yg7⟩ (kit_ref (.inl (beq_eq_false_iff_ne.mp kqn7_11)) xq11 xt11 xm7_11) (kt_cons (ca := ca) (i' := 7) (j' := 12) ⟨⟨ya7, yb7, xb7, yc7⟩, yd7, yee, yef, yg7⟩ (kit_ref (.inl (beq_eq_false_iff_ne.mp kqn7_12)) xq12 xt12 xm7_12) (kt_cons (ca := ca) (i' := 7) (j' := 13) ⟨⟨ya7, yb7, xb7, yc7⟩, yd7, yee, yef, yg7⟩ (kit_ref (.inl (beq_eq_false_iff_ne.mp kqn7_13)) xq13 xt13 xm7_13) (kt_cons (ca := ca) (i' := 7) (j' := 14) ⟨⟨ya7, yb7, xb7, yc7⟩, yd7, yee, yef, yg7⟩ (kit_ref (.inl (beq_eq_false_iff_ne.mp kqn7_14)) xq14 xt14 xm7_14) (kt_cons (ca := ca) (i' := 7) (j' := 15) ⟨⟨ya7, yb7, xb7, yc7⟩, yd7, yee, yef, yg7⟩ (kit_ref (.inl (beq_eq_false_iff_ne.mp kqn7_15)) xq15 xt15 xm7_15) (kt_cons (ca := ca) (i' := 8) (j' := 1) ⟨⟨ya8, yb8, xb8, yc8⟩, yd8, yee, yef, yg8⟩ (kit_ref (.inl (beq_eq_false_iff_ne.mp kqn8_1)) xq1 xt1 xm8_1) (kt_cons (ca := ca) (i' := 8) (j' := 2) ⟨⟨ya8, yb8, xb8, yc8⟩, yd8, yee, yef, yg8⟩ (kit_ref (.inl (beq_eq_false_iff_ne.mp kqn8_2)) xq2 xt2 xm8_2) (kt_cons (ca := ca) (i' := 8) (j' := 3) ⟨⟨ya8, yb8, xb8, yc8⟩, yd8, yee, yef, yg8⟩ (kit_ref (.inl (beq_eq_false_iff_ne.mp kqn8_3)) xq3 xt3 xm8_3) (kt_cons (ca := ca) (i' := 8) (j' := 4) ⟨⟨ya8, yb8, xb8, yc8⟩, yd8, yee, yef, yg8⟩ (kit_ref (.inl (beq_eq_false_iff_ne.mp kqn8_4)) xq4 xt4 xm8_4) (kt_cons (ca := ca) (i' := 8) (j' := 5) ⟨⟨ya8, yb8, xb8, yc8⟩, yd8, yee, yef, yg8⟩ (kit_ref (.inl (beq_eq_false_iff_ne.mp kqn8_5)) xq5 xt5 xm8_5) (kt_cons (ca := ca) (i' := 8) (j' := 6) ⟨⟨ya8, yb8, xb8, yc8⟩, yd8, yee, yef, yg8⟩ (kit_ref (.inl (beq_eq_false_iff_ne.mp kqn8_6)) xq6 xt6 xm8_6) (kt_cons (ca := ca) (i' := 8) (j' := 7) ⟨⟨ya8, yb8, xb8, yc8⟩, yd8, yee, yef, yg8⟩ (kit_ref (.inl (beq_eq_false_iff_ne.mp kqn8_7)) xq7 xt7 xm8_7) (kt_cons (ca := ca) (i' := 8) (j' := 8) ⟨⟨ya8, yb8, xb8, yc8⟩, yd8, yee, yef, yg8⟩ (kit_ref (.inr rfl) xq8 xt8 xm8_8) (kt_cons (ca := ca) (i' := 8) (j' := 9) ⟨⟨ya8, yb8, xb8, yc8⟩, yd8, yee, yef, yg8⟩ (kit_ref (.inl (beq_eq_false_iff_ne.mp kqn8_9)) xq9 xt9 xm8_9) (kt_cons (ca := ca) (i' := 8) (j' := 10) ⟨⟨ya8, yb8, xb8, yc8⟩, yd8, yee, yef, yg8⟩ (kit_ref (.inl (beq_eq_false_iff_ne.mp kqn8_10)) xq10 xt10 xm8_10) (kt_cons (ca := ca) (i' := 8) (j' := 11) ⟨⟨ya8, yb8, xb8, yc8⟩, yd8, yee, yef, yg8⟩ (kit_ref (.inl (beq_eq_false_iff_ne.mp kqn8_11)) xq11 xt11 xm8_11) (kt_cons (ca := ca) (i' := 8) (j' := 12) ⟨⟨ya8, yb8, xb8, yc8⟩, yd8, yee, yef, yg8⟩ (kit_ref (.inl (beq_eq_false_iff_ne.mp kqn8_12)) xq12 xt12 xm8_12) (kt_cons (ca := ca) (i' := 8) (j' := 13) ⟨⟨ya8, yb8, xb8, yc8⟩, yd8, yee, yef, yg8⟩ (kit_ref (.inl (beq_eq_false_iff_ne.mp kqn8_13)) xq13 xt13 xm8_13) (kt_cons (ca := ca) (i' := 8) (j' := 14) ⟨⟨ya8, yb8, xb8, yc8⟩, yd8, yee, yef, yg8⟩ (kit_ref (.inl (beq_eq_false_iff_ne.mp kqn8_14)) xq14 xt14 xm8_14) (kt_cons (ca := ca) (i' := 8) (j' := 15) ⟨⟨ya8, yb8, xb8, yc8⟩, yd8, yee, yef, yg8⟩ (kit_ref (.inl (beq_eq_false_iff_ne.mp kqn8_15)) xq15 xt15 xm8_15) (kt_cons (ca := ca) (i' := 0) (j' := 99) ⟨⟨ya0, yb0, xb0, yc0⟩, yd0, yee, yef, yg0⟩ (kit_ve zve0) (kt_cons (ca := ca) (i' := 9) (j' := 99) ⟨⟨ya9, yb9, xb9, yc9⟩, yd9, yee, yef, yg9⟩ (kit_ve zve9) (kt_cons (ca := ca) (i' := 10) (j' := 99) ⟨⟨ya10, yb10, xb10, yc10⟩, yd10, yee, yef, yg10⟩ (kit_ve zve10) (kt_cons (ca := ca) (i' := 11) (j' := 99) ⟨⟨ya11, yb11, xb11, yc11⟩, yd11, yee, yef, yg11⟩ (kit_ve zve11) (kt_cons (ca := ca) (i' := 12) (j' := 99) ⟨⟨ya12, yb12, xb12, yc12⟩, yd12, yee, yef, yg12⟩ (kit_ve zve12) (kt_cons (ca := ca) (i' := 13) (j' := 99) ⟨⟨ya13, yb13, xb13, yc13⟩, yd13, yee, yef, yg13⟩ (kit_ve zve13) (kt_cons (ca := ca) (i' := 14) (j' := 99) ⟨⟨ya14, yb14, xb14, yc14⟩, yd14, yee, yef, yg14⟩ (kit_ve zve14) (kt_cons (ca := ca) (i' := 15) (j' := 99) ⟨⟨ya15, yb15, xb15, yc15⟩, yd15, yee, yef, yg15⟩ (kit_ve zve15) (kt_cons (ca := ca) (i' := 1) (j' := 99) ⟨⟨ya1, yb1, xb1, yc1⟩, yd1, yee, yef, yg1⟩ (kit_ve zve1) (kt_cons (ca := ca) (i' := 2) (j' := 99) ⟨⟨ya2, yb2, xb2, yc2⟩, yd2, yee, yef, yg2⟩ (kit_ve zve2) (kt_cons (ca := ca) (i' := 3) (j' := 99) ⟨⟨ya3, yb3, xb3, yc3⟩, yd3, yee, yef, yg3⟩ (kit_ve zve3) (kt_cons (ca := ca) (i' := 4) (j' := 99) ⟨⟨ya4, yb4, xb4, yc4⟩, yd4, yee, yef, yg4⟩ (kit_ve zve4) (kt_cons (ca := ca) (i' := 5) (j' := 99) ⟨⟨ya5, yb5, xb5, yc5⟩, yd5, yee, yef, yg5⟩ (kit_ve zve5) (kt_cons (ca := ca) (i' := 6) (j' := 99) ⟨⟨ya6, yb6, xb6, yc6⟩, yd6, yee, yef, yg6⟩ (kit_ve zve6) (kt_cons (ca := ca) (i' := 7) (j' := 99) ⟨⟨ya7, yb7, xb7, yc7⟩, yd7, yee, yef, yg7⟩ (kit_ve zve7) (kt_cons (ca := ca) (i' := 8) (j' := 99) ⟨⟨ya8, yb8, xb8, yc8⟩, yd8, yee, yef, yg8⟩ (kit_ve zve8) kt_nil)))))))))))))))))))))))))))))))))))))))))))))))))))))))))))))))))))))))))))))))))))))))))))))))))))))))))))))))))))))))))))))))))))))))))))))))))))))))))))))))))))))))))))))))))))))))))))))))))))))))))))))))))))))))))))))))))))))))))))))))))))))))))))))))) }
  have B := tab_ok (P := l.prog) (w := w) (base := base) (C := ⟨K, ca⟩) rfl tabOk fsO TX NM
    40 ⟨1005, "law", "law", ["law"], ["_law_script"], top 23, [], [], []⟩ d_law (by simp [rows]) rfl _ _ t5
  exact B.imp (sp_law (C := ⟨K, ca⟩) (F := d_law) rfl rfl (fun ns hn => (law_cr (T := T) (M := M ca) (f := 1005) (F := d_law) (n := 40) rfl rfl).trans (law_true ca ns hn)))
theorem walk {l : PySem.W.OpenLaw} {q : Program} {loose : List Str} {XP : (Str → Option Value) → Heap → Prop} {YP : World → Heap → Prop} {d : DefRec} {K : Params → PySem.W.Frag} (hn : l.most = some 63) (hdf : d.params.defaults = [])
    (hY : ∀ (w : World) (h : Heap), YP w h → (K w.params).In h)
    (F : ∀ (w : World) (mg : Str → Option Value) (fa : Addr) (h : Heap), (K w.params).In h → h.Ns mainGlobals mg → mg d.name = some (.ref fa) →
      ∃ fd : FuncData, (∀ (s : Shared) (u : Value), BindsTo s fd ⟨[u], []⟩ [("_law_script", u)]) ∧ ∀ base : Heap, (K w.params).In base → base.Ns mainGlobals mg → FnOk l.prog w (K w.params) mg base (L2.CX l.prog w) 40 fa fd ["_law_script"] (spLaw (K w.params))) :
    PySem.W.WalkO q loose XP YP l.row.toRowW d [] (fun f vs => PySem.call f vs) :=
  L2.walk_of (n := 63) (k := 40) (x := "_law_script") (CX := fun w => L2.CX l.prog w) (sp := fun w => spLaw (K w.params)) hn (by decide) hdf ⟨rfl, by decide, by decide⟩ hY F (fun _ _ a ns hl _ hS => ⟨a, ns, rfl, hS, hl, fun _ => rfl⟩) fun _ _ _ _ _ z => cx_none z
end Lw
open PySem PySem.W PyProof.Rows
set_option maxRecDepth 100000 in
set_option maxHeartbeats 0 in
theorem PySem.Challenge.cw_sealhouse_k10_refusals_holds : PySem.Challenge.rw_sealhouse_k10_refusals.Holds := by
  w_on; o_law; k_head; (case hw => w_witness2)
  k_fill
  refine Lw.walk (l := PySem.Challenge.rw_sealhouse_k10_refusals) rfl rfl (fun w h Y => PySem.W.kIn_of Y) ?F
  case F =>
    intro w mg fa h KX G hmg
    refine' Lw.step_0 KX G ?lwa0 ?lwl0 ?lwc0 ?lwk0 (fun hr0 => ?nx0)
    (case lwa0 => k_is)
    (case lwl0 => k_is)
    (case lwc0 => k_is)
    (case lwk0 => k_is)
    refine' Lw.step_1 KX G ?lwa1 ?lwl1 ?lwc1 ?lwk1 (fun hr1 => ?nx1)
    (case lwa1 => k_is)
    (case lwl1 => k_is)
    (case lwc1 => k_is)
    (case lwk1 => k_is)
    refine' Lw.step_2 KX G ?lwa2 ?lwl2 ?lwc2 ?lwk2 (fun hr2 => ?nx2)
    (case lwa2 => k_is)
    (case lwl2 => k_is)
    (case lwc2 => k_is)
    (case lwk2 => k_is)
    refine' Lw.step_3 KX G ?lwa3 ?lwl3 ?lwc3 ?lwk3 (fun hr3 => ?nx3)
    (case lwa3 => k_is)
    (case lwl3 => k_is)
    (case lwc3 => k_is)
    (case lwk3 => k_is)
    refine' Lw.step_4 KX G ?lwa4 ?lwl4 ?lwc4 ?lwk4 (fun hr4 => ?nx4)
    (case lwa4 => k_is)
    (case lwl4 => k_is)
    (case lwc4 => k_is)
    (case lwk4 => k_is)
    refine' Lw.all_mk KX G hmg ?lwxa0 ?lwxk0 ?lwxb0 ?lwxt0 ?lwxe0 ?lwxa9 ?lwxk9 ?lwxb9 ?lwxt9 ?lwxe9 ?lwxa10 ?lwxk10 ?lwxb10 ?lwxt10 ?lwxe10 ?lwxa11 ?lwxk11 ?lwxb11 ?lwxt11 ?lwxe11 ?lwxa12 ?lwxk12 ?lwxb12 ?lwxt12 ?lwxe12 ?lwxa13 ?lwxk13 ?lwxb13 ?lwxt13 ?lwxe13 ?lwxa14 ?lwxk14 ?lwxb14 ?lwxt14 ?lwxe14 ?lwxa1 ?lwxk1 ?lwxb1 ?lwxt1 ?lwxe1 ?lwxa2 ?lwxk2 ?lwxb2 ?lwxt2 ?lwxe2 ?lwxa3 ?lwxk3 ?lwxb3 ?lwxt3 ?lwxe3 ?lwxa4 ?lwxk4 ?lwxb4 ?lwxt4 ?lwxe4 ?lwxa5 ?lwxk5 ?lwxb5 ?lwxt5 ?lwxe5 ?lwxa6 ?lwxk6 ?lwxb6 ?lwxt6 ?lwxe6 ?lwxa7 ?lwxk7 ?lwxb7 ?lwxt7 ?lwxe7 ?lwxa8 ?lwxk8 ?lwxb8 ?lwxt8 ?lwxe8 ?lwxa15 ?lwxk15 ?lwxb15 ?lwxt15 ?lwxl15 ?lwkqo15 ?lwxs15 ?lwxn15_0 ?lwxn15_1 ?lwxn15_2 ?lwxn15_3 ?lwxi15 ?lwxj15 ?lwxu15 ?lwxr15 ?lwxg15 ?lwxv15 ?lwxlf15 ?lwxcf15 ?lwxkf15 ?lwxq0 ?lwxm0_0 ?lwxm9_0 ?lwxm10_0 ?lwxm11_0 ?lwxm12_0 ?lwxm13_0 ?lwxm14_0 ?lwxm15_0 ?lwxm1_0 ?lwxm2_0 ?lwxm3_0 ?lwxm4_0 ?lwxm5_0 ?lwxm6_0 ?lwxm7_0 ?lwxm8_0 ?lwxq1 ?lwxm0_1 ?lwkqn0_1 ?lwxq2 ?lwxm0_2 ?lwkqn0_2 ?lwxq3 ?lwxm0_3 ?lwkqn0_3 ?lwxq4 ?lwxm0_4 ?lwkqn0_4 ?lwxq5 ?lwxm0_5 ?lwkqn0_5 ?lwxq6 ?lwxm0_6 ?lwkqn0_6 ?lwxq7 ?lwxm0_7 ?lwkqn0_7 ?lwxq8 ?lwxm0_8 ?lwkqn0_8 ?lwxq9 ?lwxm0_9 ?lwkqn0_9 ?lwxq10 ?lwxm0_10 ?lwkqn0_10 ?lwxq11 ?lwxm0_11 ?lwkqn0_11 ?lwxq12 ?lwxm0_12 ?lwkqn0_12 ?lwxq13 ?lwxm0_13 ?lwkqn0_13 ?lwxq14 ?lwxm0_14 ?lwkqn0_14 ?lwxq15 ?lwxm0_15 ?lwkqn0_15 ?lwxm9_1 ?lwkqn9_1 ?lwxm9_2 ?lwkqn9_2 ?lwxm9_3 ?lwkqn9_3 ?lwxm9_4 ?lwkqn9_4 ?lwxm9_5 ?lwkqn9_5 ?lwxm9_6 ?lwkqn9_6 ?lwxm9_7 ?lwkqn9_7 ?lwxm9_8 ?lwkqn9_8 ?lwxm9_9 ?lwxm9_10 ?lwkqn9_10 ?lwxm9_11 ?lwkqn9_11 ?lwxm9_12 ?lwkqn9_12 ?lwxm9_13 ?lwkqn9_13 ?lwxm9_14 ?lwkqn9_14 ?lwxm9_15 ?lwkqn9_15 ?lwxm10_1 ?lwkqn10_1 ?lwxm10_2 ?lwkqn10_2 ?lwxm10_3 ?lwkqn10_3 ?lwxm10_4 ?lwkqn10_4 ?lwxm10_5 ?lwkqn10_5 ?lwxm10_6 ?lwkqn10_6 ?lwxm10_7 ?lwkqn10_7 ?lwxm10_8 ?lwkqn10_8 ?lwxm10_9 ?lwkqn10_9 ?lwxm10_10 ?lwxm10_11 ?lwkqn10_11 ?lwxm10_12 ?lwkqn10_12 ?lwxm10_13 ?lwkqn10_13 ?lwxm10_14 ?lwkqn10_14 ?lwxm10_15 ?lwkqn10_15 ?lwxm11_1 ?lwkqn11_1 ?lwxm11_2 ?lwkqn11_2 ?lwxm11_3 ?lwkqn11_3 ?lwxm11_4 ?lwkqn11_4 ?lwxm11_5 ?lwkqn11_5 ?lwxm11_6 ?lwkqn11_6 ?lwxm11_7 ?lwkqn11_7 ?lwxm11_8 ?lwkqn11_8 ?lwxm11_9 ?lwkqn11_9 ?lwxm11_10 ?lwkqn11_10 ?lwxm11_11 ?lwxm11_12 ?lwkqn11_12 ?lwxm11_13 ?lwkqn11_13 ?lwxm11_14 ?lwkqn11_14 ?lwxm11_15 ?lwkqn11_15 ?lwxm12_1 ?lwkqn12_1 ?lwxm12_2 ?lwkqn12_2 ?lwxm12_3 ?lwkqn12_3 ?lwxm12_4 ?lwkqn12_4 ?lwxm12_5 ?lwkqn12_5 ?lwxm12_6 ?lwkqn12_6 ?lwxm12_7 ?lwkqn12_7 ?lwxm12_8 ?lwkqn12_8 ?lwxm12_9 ?lwkqn12_9 ?lwxm12_10 ?lwkqn12_10 ?lwxm12_11 ?lwkqn12_11 ?lwxm12_12 ?lwxm12_13 ?lwkqn12_13 ?lwxm12_14 ?lwkqn12_14 ?lwxm12_15 ?lwkqn12_15 ?lwxm13_1 ?lwkqn13_1 ?lwxm13_2 ?lwkqn13_2 ?lwxm13_3 ?lwkqn13_3 ?lwxm13_4 ?lwkqn13_4 ?lwxm13_5 ?lwkqn13_5 ?lwxm13_6 ?lwkqn13_6 ?lwxm13_7 ?lwkqn13_7 ?lwxm13_8 ?lwkqn13_8 ?lwxm13_9 ?lwkqn13_9 ?lwxm13_10 ?lwkqn13_10 ?lwxm13_11 ?lwkqn13_11 ?lwxm13_12 ?lwkqn13_12 ?lwxm13_13 ?lwxm13_14 ?lwkqn13_14 ?lwxm13_15 ?lwkqn13_15 ?lwxm14_1 ?lwkqn14_1 ?lwxm14_2 ?lwkqn14_2 ?lwxm14_3 ?lwkqn14_3 ?lwxm14_4 ?lwkqn14_4 ?lwxm14_5 ?lwkqn14_5 ?lwxm14_6 ?lwkqn14_6 ?lwxm14_7 ?lwkqn14_7 ?lwxm14_8 ?lwkqn14_8 ?lwxm14_9 ?lwkqn14_9 ?lwxm14_10 ?lwkqn14_10 ?lwxm14_11 ?lwkqn14_11 ?lwxm14_12 ?lwkqn14_12 ?lwxm14_13 ?lwkqn14_13 ?lwxm14_14 ?lwxm14_15 ?lwkqn14_15 ?lwxm15_1 ?lwkqn15_1 ?lwxm15_2 ?lwkqn15_2 ?lwxm15_3 ?lwkqn15_3 ?lwxm15_4 ?lwkqn15_4 ?lwxm15_5 ?lwkqn15_5 ?lwxm15_6 ?lwkqn15_6 ?lwxm15_7 ?lwkqn15_7 ?lwxm15_8 ?lwkqn15_8 ?lwxm15_9 ?lwkqn15_9 ?lwxm15_10 ?lwkqn15_10 ?lwxm15_11 ?lwkqn15_11 ?lwxm15_12 ?lwkqn15_12 ?lwxm15_13 ?lwkqn15_13 ?lwxm15_14 ?lwkqn15_14 ?lwxm15_15 ?lwxm1_1 ?lwxm1_2 ?lwkqn1_2 ?lwxm1_3 ?lwkqn1_3 ?lwxm1_4 ?lwkqn1_4 ?lwxm1_5 ?lwkqn1_5 ?lwxm1_6 ?lwkqn1_6 ?lwxm1_7 ?lwkqn1_7 ?lwxm1_8 ?lwkqn1_8 ?lwxm1_9 ?lwkqn1_9 ?lwxm1_10 ?lwkqn1_10 ?lwxm1_11 ?lwkqn1_11 ?lwxm1_12 ?lwkqn1_12 ?lwxm1_13 ?lwkqn1_13 ?lwxm1_14 ?lwkqn1_14 ?lwxm1_15 ?lwkqn1_15 ?lwxm2_1 ?lwkqn2_1 ?lwxm2_2 ?lwxm2_3 ?lwkqn2_3 ?lwxm2_4 ?lwkqn2_4 ?lwxm2_5 ?lwkqn2_5 ?lwxm2_6 ?lwkqn2_6 ?lwxm2_7 ?lwkqn2_7 ?lwxm2_8 ?lwkqn2_8 ?lwxm2_9 ?lwkqn2_9 ?lwxm2_10 ?lwkqn2_10 ?lwxm2_11 ?lwkqn2_11 ?lwxm2_12 ?lwkqn2_12 ?lwxm2_13 ?lwkqn2_13 ?lwxm2_14 ?lwkqn2_14 ?lwxm2_15 ?lwkqn2_15 ?lwxm3_1 ?lwkqn3_1 ?lwxm3_2 ?lwkqn3_2 ?lwxm3_3 ?lwxm3_4 ?lwkqn3_4 ?lwxm3_5 ?lwkqn3_5 ?lwxm3_6 ?lwkqn3_6 ?lwxm3_7 ?lwkqn3_7 ?lwxm3_8 ?lwkqn3_8 ?lwxm3_9 ?lwkqn3_9 ?lwxm3_10 ?lwkqn3_10 ?lwxm3_11 ?lwkqn3_11 ?lwxm3_12 ?lwkqn3_12 ?lwxm3_13 ?lwkqn3_13 ?lwxm3_14 ?lwkqn3_14 ?lwxm3_15 ?lwkqn3_15 ?lwxm4_1 ?lwkqn4_1 ?lwxm4_2 ?lwkqn4_2 ?lwxm4_3 ?lwkqn4_3 ?lwxm4_4 ?lwxm4_5 ?lwkqn4_5 ?lwxm4_6 ?lwkqn4_6 ?lwxm4_7 ?lwkqn4_7 ?lwxm4_8 ?lwkqn4_8 ?lwxm4_9 ?lwkqn4_9 ?lwxm4_10 ?lwkqn4_10 ?lwxm4_11 ?lwkqn4_11 ?lwxm4_12 ?lwkqn4_12 ?lwxm4_13 ?lwkqn4_13 ?lwxm4_14 ?lwkqn4_14 ?lwxm4_15 ?lwkqn4_15 ?lwxm5_1 ?lwkqn5_1 ?lwxm5_2 ?lwkqn5_2 ?lwxm5_3 ?lwkqn5_3 ?lwxm5_4 ?lwkqn5_4 ?lwxm5_5 ?lwxm5_6 ?lwkqn5_6 ?lwxm5_7 ?lwkqn5_7 ?lwxm5_8 ?lwkqn5_8 ?lwxm5_9 ?lwkqn5_9 ?lwxm5_10 ?lwkqn5_10 ?lwxm5_11 ?lwkqn5_11 ?lwxm5_12 ?lwkqn5_12 ?lwxm5_13 ?lwkqn5_13 ?lwxm5_14 ?lwkqn5_14 ?lwxm5_15 ?lwkqn5_15 ?lwxm6_1 ?lwkqn6_1 ?lwxm6_2 ?lwkqn6_2 ?lwxm6_3 ?lwkqn6_3 ?lwxm6_4 ?lwkqn6_4 ?lwxm6_5 ?lwkqn6_5 ?lwxm6_6 ?lwxm6_7 ?lwkqn6_7 ?lwxm6_8 ?lwkqn6_8 ?lwxm6_9 ?lwkqn6_9 ?lwxm6_10 ?lwkqn6_10 ?lwxm6_11 ?lwkqn6_11 ?lwxm6_12 ?lwkqn6_12 ?lwxm6_13 ?lwkqn6_13 ?lwxm6_14 ?lwkqn6_14 ?lwxm6_15 ?lwkqn6_15 ?lwxm7_1 ?lwkqn7_1 ?lwxm7_2 ?lwkqn7_2 ?lwxm7_3 ?lwkqn7_3 ?lwxm7_4 ?lwkqn7_4 ?lwxm7_5 ?lwkqn7_5 ?lwxm7_6 ?lwkqn7_6 ?lwxm7_7 ?lwxm7_8 ?lwkqn7_8 ?lwxm7_9 ?lwkqn7_9 ?lwxm7_10 ?lwkqn7_10 ?lwxm7_11 ?lwkqn7_11 ?lwxm7_12 ?lwkqn7_12 ?lwxm7_13 ?lwkqn7_13 ?lwxm7_14 ?lwkqn7_14 ?lwxm7_15 ?lwkqn7_15 ?lwxm8_1 ?lwkqn8_1 ?lwxm8_2 ?lwkqn8_2 ?lwxm8_3 ?lwkqn8_3 ?lwxm8_4 ?lwkqn8_4 ?lwxm8_5 ?lwkqn8_5 ?lwxm8_6 ?lwkqn8_6 ?lwxm8_7 ?lwkqn8_7 ?lwxm8_8 ?lwxm8_9 ?lwkqn8_9 ?lwxm8_10 ?lwkqn8_10 ?lwxm8_11 ?lwkqn8_11 ?lwxm8_12 ?lwkqn8_12 ?lwxm8_13 ?lwkqn8_13 ?lwxm8_14 ?lwkqn8_14 ?lwxm8_15 ?lwkqn8_15 ?lwzve0 ?lwzve9 ?lwzve10 ?lwzve11 ?lwzve12 ?lwzve13 ?lwzve14 ?lwzve15 ?lwzve1 ?lwzve2 ?lwzve3 ?lwzve4 ?lwzve5 ?lwzve6 ?lwzve7 ?lwzve8 ?lwyee ?lwyef ?lwya0 ?lwyb0 ?lwyc0 ?lwyd0 ?lwyg0 ?lwya1 ?lwyb1 ?lwyc1 ?lwyd1 ?lwyg1 ?lwya2 ?lwyb2 ?lwyc2 ?lwyd2 ?lwyg2 ?lwya3 ?lwyb3 ?lwyc3 ?lwyd3 ?lwyg3 ?lwya4 ?lwyb4 ?lwyc4 ?lwyd4 ?lwyg4 ?lwya5 ?lwyb5 ?lwyc5 ?lwyd5 ?lwyg5 ?lwya6 ?lwyb6 ?lwyc6 ?lwyd6 ?lwyg6 ?lwya7 ?lwyb7 ?lwyc7 ?lwyd7 ?lwyg7 ?lwya8 ?lwyb8 ?lwyc8 ?lwyd8 ?lwyg8 ?lwya9 ?lwyb9 ?lwyc9 ?lwyd9 ?lwyg9 ?lwya10 ?lwyb10 ?lwyc10 ?lwyd10 ?lwyg10 ?lwya11 ?lwyb11 ?lwyc11 ?lwyd11 ?lwyg11 ?lwya12 ?lwyb12 ?lwyc12 ?lwyd12 ?lwyg12 ?lwya13 ?lwyb13 ?lwyc13 ?lwyd13 ?lwyg13 ?lwya14 ?lwyb14 ?lwyc14 ?lwyd14 ?lwyg14 ?lwya15 ?lwyb15 ?lwyc15 ?lwyd15 ?lwyg15 hr0 hr1 hr2 hr3 hr4 ?lwa5 ?lwl5 ?lwc5 ?lwk5 ?lwz0 ?lwz1 ?lwz2 ?lwz3
    (case lwxa0 => k_is)
    (case lwxk0 => k_is)
    (case lwxb0 => k_is)
    (case lwxt0 => k_is)
    (case lwxe0 => k_exc)
    (case lwxa9 => k_is)
    (case lwxk9 => k_is)
    (case lwxb9 => k_is)
    (case lwxt9 => k_is)
    (case lwxe9 => k_exc)
    (case lwxa10 => k_is)
    (case lwxk10 => k_is)
    (case lwxb10 => k_is)
    (case lwxt10 => k_is)
    (case lwxe10 => k_exc)
    (case lwxa11 => k_is)
    (case lwxk11 => k_is)
    (case lwxb11 => k_is)
    (case lwxt11 => k_is)
    (case lwxe11 => k_exc)
    (case lwxa12 => k_is)
    (case lwxk12 => k_is)
    (case lwxb12 => k_is)
    (case lwxt12 => k_is)
    (case lwxe12 => k_exc)
    (case lwxa13 => k_is)
    (case lwxk13 => k_is)
    (case lwxb13 => k_is)
    (case lwxt13 => k_is)
    (case lwxe13 => k_exc)
    (case lwxa14 => k_is)
    (case lwxk14 => k_is)
    (case lwxb14 => k_is)
    (case lwxt14 => k_is)
    (case lwxe14 => k_exc)
    (case lwxa1 => k_is)
    (case lwxk1 => k_is)
    (case lwxb1 => k_is)
    (case lwxt1 => k_is)
    (case lwxe1 => k_exc)
    (case lwxa2 => k_is)
    (case lwxk2 => k_is)
    (case lwxb2 => k_is)
    (case lwxt2 => k_is)
    (case lwxe2 => k_exc)
    (case lwxa3 => k_is)
    (case lwxk3 => k_is)
    (case lwxb3 => k_is)
    (case lwxt3 => k_is)
    (case lwxe3 => k_exc)
    (case lwxa4 => k_is)
    (case lwxk4 => k_is)
    (case lwxb4 => k_is)
    (case lwxt4 => k_is)
    (case lwxe4 => k_exc)
    (case lwxa5 => k_is)
    (case lwxk5 => k_is)
    (case lwxb5 => k_is)
    (case lwxt5 => k_is)
    (case lwxe5 => k_exc)
    (case lwxa6 => k_is)
    (case lwxk6 => k_is)
    (case lwxb6 => k_is)
    (case lwxt6 => k_is)
    (case lwxe6 => k_exc)
    (case lwxa7 => k_is)
    (case lwxk7 => k_is)
    (case lwxb7 => k_is)
    (case lwxt7 => k_is)
    (case lwxe7 => k_exc)
    (case lwxa8 => k_is)
    (case lwxk8 => k_is)
    (case lwxb8 => k_is)
    (case lwxt8 => k_is)
    (case lwxe8 => k_exc)
    (case lwxa15 => k_is)
    (case lwxk15 => k_is)
    (case lwxb15 => k_is)
    (case lwxt15 => k_is)
    (case lwxl15 => k_is)
    (case lwkqo15 => first | rfl | decide)
    (case lwxs15 => k_is)
    (case lwxn15_0 => k_is)
    (case lwxn15_1 => k_is)
    (case lwxn15_2 => k_is)
    (case lwxn15_3 => k_is)
    (case lwxi15 => k_is)
    (case lwxj15 => k_is)
    (case lwxu15 => k_is)
    (case lwxr15 => k_is)
    (case lwxg15 => k_is)
    (case lwxv15 => k_is)
    (case lwxlf15 => k_is)
    (case lwxcf15 => k_is)
    (case lwxkf15 => k_is)
    (case lwxq0 => k_is)
    (case lwxm0_0 => k_is)
    (case lwxm9_0 => k_is)
    (case lwxm10_0 => k_is)
    (case lwxm11_0 => k_is)
    (case lwxm12_0 => k_is)
    (case lwxm13_0 => k_is)
    (case lwxm14_0 => k_is)
    (case lwxm15_0 => k_is)
    (case lwxm1_0 => k_is)
    (case lwxm2_0 => k_is)
    (case lwxm3_0 => k_is)
    (case lwxm4_0 => k_is)
    (case lwxm5_0 => k_is)
    (case lwxm6_0 => k_is)
    (case lwxm7_0 => k_is)
    (case lwxm8_0 => k_is)
    (case lwxq1 => k_is)
    (case lwxm0_1 => k_is)
    (case lwkqn0_1 => first | rfl | decide)
    (case lwxq2 => k_is)
    (case lwxm0_2 => k_is)
    (case lwkqn0_2 => first | rfl | decide)
    (case lwxq3 => k_is)
    (case lwxm0_3 => k_is)
    (case lwkqn0_3 => first | rfl | decide)
    (case lwxq4 => k_is)
    (case lwxm0_4 => k_is)
    (case lwkqn0_4 => first | rfl | decide)
    (case lwxq5 => k_is)
    (case lwxm0_5 => k_is)
    (case lwkqn0_5 => first | rfl | decide)
    (case lwxq6 => k_is)
    (case lwxm0_6 => k_is)
    (case lwkqn0_6 => first | rfl | decide)
    (case lwxq7 => k_is)
    (case lwxm0_7 => k_is)
    (case lwkqn0_7 => first | rfl | decide)
    (case lwxq8 => k_is)
    (case lwxm0_8 => k_is)
    (case lwkqn0_8 => first | rfl | decide)
    (case lwxq9 => k_is)
    (case lwxm0_9 => k_is)
    (case lwkqn0_9 => first | rfl | decide)
    (case lwxq10 => k_is)
    (case lwxm0_10 => k_is)
    (case lwkqn0_10 => first | rfl | decide)
    (case lwxq11 => k_is)
    (case lwxm0_11 => k_is)
    (case lwkqn0_11 => first | rfl | decide)
    (case lwxq12 => k_is)
    (case lwxm0_12 => k_is)
    (case lwkqn0_12 => first | rfl | decide)
    (case lwxq13 => k_is)
    (case lwxm0_13 => k_is)
    (case lwkqn0_13 => first | rfl | decide)
    (case lwxq14 => k_is)
    (case lwxm0_14 => k_is)
    (case lwkqn0_14 => first | rfl | decide)
    (case lwxq15 => k_is)
    (case lwxm0_15 => k_is)
    (case lwkqn0_15 => first | rfl | decide)
    (case lwxm9_1 => k_is)
    (case lwkqn9_1 => first | rfl | decide)
    (case lwxm9_2 => k_is)
    (case lwkqn9_2 => first | rfl | decide)
    (case lwxm9_3 => k_is)
    (case lwkqn9_3 => first | rfl | decide)
    (case lwxm9_4 => k_is)
    (case lwkqn9_4 => first | rfl | decide)
    (case lwxm9_5 => k_is)
    (case lwkqn9_5 => first | rfl | decide)
    (case lwxm9_6 => k_is)
    (case lwkqn9_6 => first | rfl | decide)
    (case lwxm9_7 => k_is)
    (case lwkqn9_7 => first | rfl | decide)
    (case lwxm9_8 => k_is)
    (case lwkqn9_8 => first | rfl | decide)
    (case lwxm9_9 => k_is)
    (case lwxm9_10 => k_is)
    (case lwkqn9_10 => first | rfl | decide)
    (case lwxm9_11 => k_is)
    (case lwkqn9_11 => first | rfl | decide)
    (case lwxm9_12 => k_is)
    (case lwkqn9_12 => first | rfl | decide)
    (case lwxm9_13 => k_is)
    (case lwkqn9_13 => first | rfl | decide)
    (case lwxm9_14 => k_is)
    (case lwkqn9_14 => first | rfl | decide)
    (case lwxm9_15 => k_is)
    (case lwkqn9_15 => first | rfl | decide)
    (case lwxm10_1 => k_is)
    (case lwkqn10_1 => first | rfl | decide)
    (case lwxm10_2 => k_is)
    (case lwkqn10_2 => first | rfl | decide)
    (case lwxm10_3 => k_is)
    (case lwkqn10_3 => first | rfl | decide)
    (case lwxm10_4 => k_is)
    (case lwkqn10_4 => first | rfl | decide)
    (case lwxm10_5 => k_is)
    (case lwkqn10_5 => first | rfl | decide)
    (case lwxm10_6 => k_is)
    (case lwkqn10_6 => first | rfl | decide)
    (case lwxm10_7 => k_is)
    (case lwkqn10_7 => first | rfl | decide)
    (case lwxm10_8 => k_is)
    (case lwkqn10_8 => first | rfl | decide)
    (case lwxm10_9 => k_is)
    (case lwkqn10_9 => first | rfl | decide)
    (case lwxm10_10 => k_is)
    (case lwxm10_11 => k_is)
    (case lwkqn10_11 => first | rfl | decide)
    (case lwxm10_12 => k_is)
    (case lwkqn10_12 => first | rfl | decide)
    (case lwxm10_13 => k_is)
    (case lwkqn10_13 => first | rfl | decide)
    (case lwxm10_14 => k_is)
    (case lwkqn10_14 => first | rfl | decide)
    (case lwxm10_15 => k_is)
    (case lwkqn10_15 => first | rfl | decide)
    (case lwxm11_1 => k_is)
    (case lwkqn11_1 => first | rfl | decide)
    (case lwxm11_2 => k_is)
    (case lwkqn11_2 => first | rfl | decide)
    (case lwxm11_3 => k_is)
    (case lwkqn11_3 => first | rfl | decide)
    (case lwxm11_4 => k_is)
    (case lwkqn11_4 => first | rfl | decide)
    (case lwxm11_5 => k_is)
    (case lwkqn11_5 => first | rfl | decide)
    (case lwxm11_6 => k_is)
    (case lwkqn11_6 => first | rfl | decide)
    (case lwxm11_7 => k_is)
    (case lwkqn11_7 => first | rfl | decide)
    (case lwxm11_8 => k_is)
    (case lwkqn11_8 => first | rfl | decide)
    (case lwxm11_9 => k_is)
    (case lwkqn11_9 => first | rfl | decide)
    (case lwxm11_10 => k_is)
    (case lwkqn11_10 => first | rfl | decide)
    (case lwxm11_11 => k_is)
    (case lwxm11_12 => k_is)
    (case lwkqn11_12 => first | rfl | decide)
    (case lwxm11_13 => k_is)
    (case lwkqn11_13 => first | rfl | decide)
    (case lwxm11_14 => k_is)
    (case lwkqn11_14 => first | rfl | decide)
    (case lwxm11_15 => k_is)
    (case lwkqn11_15 => first | rfl | decide)
    (case lwxm12_1 => k_is)
    (case lwkqn12_1 => first | rfl | decide)
    (case lwxm12_2 => k_is)
    (case lwkqn12_2 => first | rfl | decide)
    (case lwxm12_3 => k_is)
    (case lwkqn12_3 => first | rfl | decide)
    (case lwxm12_4 => k_is)
    (case lwkqn12_4 => first | rfl | decide)
    (case lwxm12_5 => k_is)
    (case lwkqn12_5 => first | rfl | decide)
    (case lwxm12_6 => k_is)
    (case lwkqn12_6 => first | rfl | decide)
    (case lwxm12_7 => k_is)
    (case lwkqn12_7 => first | rfl | decide)
    (case lwxm12_8 => k_is)
    (case lwkqn12_8 => first | rfl | decide)
    (case lwxm12_9 => k_is)
    (case lwkqn12_9 => first | rfl | decide)
    (case lwxm12_10 => k_is)
    (case lwkqn12_10 => first | rfl | decide)
    (case lwxm12_11 => k_is)
    (case lwkqn12_11 => first | rfl | decide)
    (case lwxm12_12 => k_is)
    (case lwxm12_13 => k_is)
    (case lwkqn12_13 => first | rfl | decide)
    (case lwxm12_14 => k_is)
    (case lwkqn12_14 => first | rfl | decide)
    (case lwxm12_15 => k_is)
    (case lwkqn12_15 => first | rfl | decide)
    (case lwxm13_1 => k_is)
    (case lwkqn13_1 => first | rfl | decide)
    (case lwxm13_2 => k_is)
    (case lwkqn13_2 => first | rfl | decide)
    (case lwxm13_3 => k_is)
    (case lwkqn13_3 => first | rfl | decide)
    (case lwxm13_4 => k_is)
    (case lwkqn13_4 => first | rfl | decide)
    (case lwxm13_5 => k_is)
    (case lwkqn13_5 => first | rfl | decide)
    (case lwxm13_6 => k_is)
    (case lwkqn13_6 => first | rfl | decide)
    (case lwxm13_7 => k_is)
    (case lwkqn13_7 => first | rfl | decide)
    (case lwxm13_8 => k_is)
    (case lwkqn13_8 => first | rfl | decide)
    (case lwxm13_9 => k_is)
    (case lwkqn13_9 => first | rfl | decide)
    (case lwxm13_10 => k_is)
    (case lwkqn13_10 => first | rfl | decide)
    (case lwxm13_11 => k_is)
    (case lwkqn13_11 => first | rfl | decide)
    (case lwxm13_12 => k_is)
    (case lwkqn13_12 => first | rfl | decide)
    (case lwxm13_13 => k_is)
    (case lwxm13_14 => k_is)
    (case lwkqn13_14 => first | rfl | decide)
    (case lwxm13_15 => k_is)
    (case lwkqn13_15 => first | rfl | decide)
    (case lwxm14_1 => k_is)
    (case lwkqn14_1 => first | rfl | decide)
    (case lwxm14_2 => k_is)
    (case lwkqn14_2 => first | rfl | decide)
    (case lwxm14_3 => k_is)
    (case lwkqn14_3 => first | rfl | decide)
    (case lwxm14_4 => k_is)
    (case lwkqn14_4 => first | rfl | decide)
    (case lwxm14_5 => k_is)
    (case lwkqn14_5 => first | rfl | decide)
    (case lwxm14_6 => k_is)
    (case lwkqn14_6 => first | rfl | decide)
    (case lwxm14_7 => k_is)
    (case lwkqn14_7 => first | rfl | decide)
    (case lwxm14_8 => k_is)
    (case lwkqn14_8 => first | rfl | decide)
    (case lwxm14_9 => k_is)
    (case lwkqn14_9 => first | rfl | decide)
    (case lwxm14_10 => k_is)
    (case lwkqn14_10 => first | rfl | decide)
    (case lwxm14_11 => k_is)
    (case lwkqn14_11 => first | rfl | decide)
    (case lwxm14_12 => k_is)
    (case lwkqn14_12 => first | rfl | decide)
    (case lwxm14_13 => k_is)
    (case lwkqn14_13 => first | rfl | decide)
    (case lwxm14_14 => k_is)
    (case lwxm14_15 => k_is)
    (case lwkqn14_15 => first | rfl | decide)
    (case lwxm15_1 => k_is)
    (case lwkqn15_1 => first | rfl | decide)
    (case lwxm15_2 => k_is)
    (case lwkqn15_2 => first | rfl | decide)
    (case lwxm15_3 => k_is)
    (case lwkqn15_3 => first | rfl | decide)
    (case lwxm15_4 => k_is)
    (case lwkqn15_4 => first | rfl | decide)
    (case lwxm15_5 => k_is)
    (case lwkqn15_5 => first | rfl | decide)
    (case lwxm15_6 => k_is)
    (case lwkqn15_6 => first | rfl | decide)
    (case lwxm15_7 => k_is)
    (case lwkqn15_7 => first | rfl | decide)
    (case lwxm15_8 => k_is)
    (case lwkqn15_8 => first | rfl | decide)
    (case lwxm15_9 => k_is)
    (case lwkqn15_9 => first | rfl | decide)
    (case lwxm15_10 => k_is)
    (case lwkqn15_10 => first | rfl | decide)
    (case lwxm15_11 => k_is)
    (case lwkqn15_11 => first | rfl | decide)
    (case lwxm15_12 => k_is)
    (case lwkqn15_12 => first | rfl | decide)
    (case lwxm15_13 => k_is)
    (case lwkqn15_13 => first | rfl | decide)
    (case lwxm15_14 => k_is)
    (case lwkqn15_14 => first | rfl | decide)
    (case lwxm15_15 => k_is)
    (case lwxm1_1 => k_is)
    (case lwxm1_2 => k_is)
    (case lwkqn1_2 => first | rfl | decide)
    (case lwxm1_3 => k_is)
    (case lwkqn1_3 => first | rfl | decide)
    (case lwxm1_4 => k_is)
    (case lwkqn1_4 => first | rfl | decide)
    (case lwxm1_5 => k_is)
    (case lwkqn1_5 => first | rfl | decide)
    (case lwxm1_6 => k_is)
    (case lwkqn1_6 => first | rfl | decide)
    (case lwxm1_7 => k_is)
    (case lwkqn1_7 => first | rfl | decide)
    (case lwxm1_8 => k_is)
    (case lwkqn1_8 => first | rfl | decide)
    (case lwxm1_9 => k_is)
    (case lwkqn1_9 => first | rfl | decide)
    (case lwxm1_10 => k_is)
    (case lwkqn1_10 => first | rfl | decide)
    (case lwxm1_11 => k_is)
    (case lwkqn1_11 => first | rfl | decide)
    (case lwxm1_12 => k_is)
    (case lwkqn1_12 => first | rfl | decide)
    (case lwxm1_13 => k_is)
    (case lwkqn1_13 => first | rfl | decide)
    (case lwxm1_14 => k_is)
    (case lwkqn1_14 => first | rfl | decide)
    (case lwxm1_15 => k_is)
    (case lwkqn1_15 => first | rfl | decide)
    (case lwxm2_1 => k_is)
    (case lwkqn2_1 => first | rfl | decide)
    (case lwxm2_2 => k_is)
    (case lwxm2_3 => k_is)
    (case lwkqn2_3 => first | rfl | decide)
    (case lwxm2_4 => k_is)
    (case lwkqn2_4 => first | rfl | decide)
    (case lwxm2_5 => k_is)
    (case lwkqn2_5 => first | rfl | decide)
    (case lwxm2_6 => k_is)
    (case lwkqn2_6 => first | rfl | decide)
    (case lwxm2_7 => k_is)
    (case lwkqn2_7 => first | rfl | decide)
    (case lwxm2_8 => k_is)
    (case lwkqn2_8 => first | rfl | decide)
    (case lwxm2_9 => k_is)
    (case lwkqn2_9 => first | rfl | decide)
    (case lwxm2_10 => k_is)
    (case lwkqn2_10 => first | rfl | decide)
    (case lwxm2_11 => k_is)
    (case lwkqn2_11 => first | rfl | decide)
    (case lwxm2_12 => k_is)
    (case lwkqn2_12 => first | rfl | decide)
    (case lwxm2_13 => k_is)
    (case lwkqn2_13 => first | rfl | decide)
    (case lwxm2_14 => k_is)
    (case lwkqn2_14 => first | rfl | decide)
    (case lwxm2_15 => k_is)
    (case lwkqn2_15 => first | rfl | decide)
    (case lwxm3_1 => k_is)
    (case lwkqn3_1 => first | rfl | decide)
    (case lwxm3_2 => k_is)
    (case lwkqn3_2 => first | rfl | decide)
    (case lwxm3_3 => k_is)
    (case lwxm3_4 => k_is)
    (case lwkqn3_4 => first | rfl | decide)
    (case lwxm3_5 => k_is)
    (case lwkqn3_5 => first | rfl | decide)
    (case lwxm3_6 => k_is)
    (case lwkqn3_6 => first | rfl | decide)
    (case lwxm3_7 => k_is)
    (case lwkqn3_7 => first | rfl | decide)
    (case lwxm3_8 => k_is)
    (case lwkqn3_8 => first | rfl | decide)
    (case lwxm3_9 => k_is)
    (case lwkqn3_9 => first | rfl | decide)
    (case lwxm3_10 => k_is)
    (case lwkqn3_10 => first | rfl | decide)
    (case lwxm3_11 => k_is)
    (case lwkqn3_11 => first | rfl | decide)
    (case lwxm3_12 => k_is)
    (case lwkqn3_12 => first | rfl | decide)
    (case lwxm3_13 => k_is)
    (case lwkqn3_13 => first | rfl | decide)
    (case lwxm3_14 => k_is)
    (case lwkqn3_14 => first | rfl | decide)
    (case lwxm3_15 => k_is)
    (case lwkqn3_15 => first | rfl | decide)
    (case lwxm4_1 => k_is)
    (case lwkqn4_1 => first | rfl | decide)
    (case lwxm4_2 => k_is)
    (case lwkqn4_2 => first | rfl | decide)
    (case lwxm4_3 => k_is)
    (case lwkqn4_3 => first | rfl | decide)
    (case lwxm4_4 => k_is)
    (case lwxm4_5 => k_is)
    (case lwkqn4_5 => first | rfl | decide)
    (case lwxm4_6 => k_is)
    (case lwkqn4_6 => first | rfl | decide)
    (case lwxm4_7 => k_is)
    (case lwkqn4_7 => first | rfl | decide)
    (case lwxm4_8 => k_is)
    (case lwkqn4_8 => first | rfl | decide)
    (case lwxm4_9 => k_is)
    (case lwkqn4_9 => first | rfl | decide)
    (case lwxm4_10 => k_is)
    (case lwkqn4_10 => first | rfl | decide)
    (case lwxm4_11 => k_is)
    (case lwkqn4_11 => first | rfl | decide)
    (case lwxm4_12 => k_is)
    (case lwkqn4_12 => first | rfl | decide)
    (case lwxm4_13 => k_is)
    (case lwkqn4_13 => first | rfl | decide)
    (case lwxm4_14 => k_is)
    (case lwkqn4_14 => first | rfl | decide)
    (case lwxm4_15 => k_is)
    (case lwkqn4_15 => first | rfl | decide)
    (case lwxm5_1 => k_is)
    (case lwkqn5_1 => first | rfl | decide)
    (case lwxm5_2 => k_is)
    (case lwkqn5_2 => first | rfl | decide)
    (case lwxm5_3 => k_is)
    (case lwkqn5_3 => first | rfl | decide)
    (case lwxm5_4 => k_is)
    (case lwkqn5_4 => first | rfl | decide)
    (case lwxm5_5 => k_is)
    (case lwxm5_6 => k_is)
    (case lwkqn5_6 => first | rfl | decide)
    (case lwxm5_7 => k_is)
    (case lwkqn5_7 => first | rfl | decide)
    (case lwxm5_8 => k_is)
    (case lwkqn5_8 => first | rfl | decide)
    (case lwxm5_9 => k_is)
    (case lwkqn5_9 => first | rfl | decide)
    (case lwxm5_10 => k_is)
    (case lwkqn5_10 => first | rfl | decide)
    (case lwxm5_11 => k_is)
    (case lwkqn5_11 => first | rfl | decide)
    (case lwxm5_12 => k_is)
    (case lwkqn5_12 => first | rfl | decide)
    (case lwxm5_13 => k_is)
    (case lwkqn5_13 => first | rfl | decide)
    (case lwxm5_14 => k_is)
    (case lwkqn5_14 => first | rfl | decide)
    (case lwxm5_15 => k_is)
    (case lwkqn5_15 => first | rfl | decide)
    (case lwxm6_1 => k_is)
    (case lwkqn6_1 => first | rfl | decide)
    (case lwxm6_2 => k_is)
    (case lwkqn6_2 => first | rfl | decide)
    (case lwxm6_3 => k_is)
    (case lwkqn6_3 => first | rfl | decide)
    (case lwxm6_4 => k_is)
    (case lwkqn6_4 => first | rfl | decide)
    (case lwxm6_5 => k_is)
    (case lwkqn6_5 => first | rfl | decide)
    (case lwxm6_6 => k_is)
    (case lwxm6_7 => k_is)
    (case lwkqn6_7 => first | rfl | decide)
    (case lwxm6_8 => k_is)
    (case lwkqn6_8 => first | rfl | decide)
    (case lwxm6_9 => k_is)
    (case lwkqn6_9 => first | rfl | decide)
    (case lwxm6_10 => k_is)
    (case lwkqn6_10 => first | rfl | decide)
    (case lwxm6_11 => k_is)
    (case lwkqn6_11 => first | rfl | decide)
    (case lwxm6_12 => k_is)
    (case lwkqn6_12 => first | rfl | decide)
    (case lwxm6_13 => k_is)
    (case lwkqn6_13 => first | rfl | decide)
    (case lwxm6_14 => k_is)
    (case lwkqn6_14 => first | rfl | decide)
    (case lwxm6_15 => k_is)
    (case lwkqn6_15 => first | rfl | decide)
    (case lwxm7_1 => k_is)
    (case lwkqn7_1 => first | rfl | decide)
    (case lwxm7_2 => k_is)
    (case lwkqn7_2 => first | rfl | decide)
    (case lwxm7_3 => k_is)
    (case lwkqn7_3 => first | rfl | decide)
    (case lwxm7_4 => k_is)
    (case lwkqn7_4 => first | rfl | decide)
    (case lwxm7_5 => k_is)
    (case lwkqn7_5 => first | rfl | decide)
    (case lwxm7_6 => k_is)
    (case lwkqn7_6 => first | rfl | decide)
    (case lwxm7_7 => k_is)
    (case lwxm7_8 => k_is)
    (case lwkqn7_8 => first | rfl | decide)
    (case lwxm7_9 => k_is)
    (case lwkqn7_9 => first | rfl | decide)
    (case lwxm7_10 => k_is)
    (case lwkqn7_10 => first | rfl | decide)
    (case lwxm7_11 => k_is)
    (case lwkqn7_11 => first | rfl | decide)
    (case lwxm7_12 => k_is)
    (case lwkqn7_12 => first | rfl | decide)
    (case lwxm7_13 => k_is)
    (case lwkqn7_13 => first | rfl | decide)
    (case lwxm7_14 => k_is)
    (case lwkqn7_14 => first | rfl | decide)
    (case lwxm7_15 => k_is)
    (case lwkqn7_15 => first | rfl | decide)
    (case lwxm8_1 => k_is)
    (case lwkqn8_1 => first | rfl | decide)
    (case lwxm8_2 => k_is)
    (case lwkqn8_2 => first | rfl | decide)
    (case lwxm8_3 => k_is)
    (case lwkqn8_3 => first | rfl | decide)
    (case lwxm8_4 => k_is)
    (case lwkqn8_4 => first | rfl | decide)
    (case lwxm8_5 => k_is)
    (case lwkqn8_5 => first | rfl | decide)
    (case lwxm8_6 => k_is)
    (case lwkqn8_6 => first | rfl | decide)
    (case lwxm8_7 => k_is)
    (case lwkqn8_7 => first | rfl | decide)
    (case lwxm8_8 => k_is)
    (case lwxm8_9 => k_is)
    (case lwkqn8_9 => first | rfl | decide)
    (case lwxm8_10 => k_is)
    (case lwkqn8_10 => first | rfl | decide)
    (case lwxm8_11 => k_is)
    (case lwkqn8_11 => first | rfl | decide)
    (case lwxm8_12 => k_is)
    (case lwkqn8_12 => first | rfl | decide)
    (case lwxm8_13 => k_is)
    (case lwkqn8_13 => first | rfl | decide)
    (case lwxm8_14 => k_is)
    (case lwkqn8_14 => first | rfl | decide)
    (case lwxm8_15 => k_is)
    (case lwkqn8_15 => first | rfl | decide)
    (case lwzve0 => k_is)
    (case lwzve9 => k_is)
    (case lwzve10 => k_is)
    (case lwzve11 => k_is)
    (case lwzve12 => k_is)
    (case lwzve13 => k_is)
    (case lwzve14 => k_is)
    (case lwzve15 => k_is)
    (case lwzve1 => k_is)
    (case lwzve2 => k_is)
    (case lwzve3 => k_is)
    (case lwzve4 => k_is)
    (case lwzve5 => k_is)
    (case lwzve6 => k_is)
    (case lwzve7 => k_is)
    (case lwzve8 => k_is)
    (case lwyee => k_is)
    (case lwyef => k_is)
    (case lwya0 => k_is)
    (case lwyb0 => k_is)
    (case lwyc0 => k_is)
    (case lwyd0 => k_is)
    (case lwyg0 => k_is)
    (case lwya1 => k_is)
    (case lwyb1 => k_is)
    (case lwyc1 => k_is)
    (case lwyd1 => k_is)
    (case lwyg1 => k_is)
    (case lwya2 => k_is)
    (case lwyb2 => k_is)
    (case lwyc2 => k_is)
    (case lwyd2 => k_is)
    (case lwyg2 => k_is)
    (case lwya3 => k_is)
    (case lwyb3 => k_is)
    (case lwyc3 => k_is)
    (case lwyd3 => k_is)
    (case lwyg3 => k_is)
    (case lwya4 => k_is)
    (case lwyb4 => k_is)
    (case lwyc4 => k_is)
    (case lwyd4 => k_is)
    (case lwyg4 => k_is)
    (case lwya5 => k_is)
    (case lwyb5 => k_is)
    (case lwyc5 => k_is)
    (case lwyd5 => k_is)
    (case lwyg5 => k_is)
    (case lwya6 => k_is)
    (case lwyb6 => k_is)
    (case lwyc6 => k_is)
    (case lwyd6 => k_is)
    (case lwyg6 => k_is)
    (case lwya7 => k_is)
    (case lwyb7 => k_is)
    (case lwyc7 => k_is)
    (case lwyd7 => k_is)
    (case lwyg7 => k_is)
    (case lwya8 => k_is)
    (case lwyb8 => k_is)
    (case lwyc8 => k_is)
    (case lwyd8 => k_is)
    (case lwyg8 => k_is)
    (case lwya9 => k_is)
    (case lwyb9 => k_is)
    (case lwyc9 => k_is)
    (case lwyd9 => k_is)
    (case lwyg9 => k_is)
    (case lwya10 => k_is)
    (case lwyb10 => k_is)
    (case lwyc10 => k_is)
    (case lwyd10 => k_is)
    (case lwyg10 => k_is)
    (case lwya11 => k_is)
    (case lwyb11 => k_is)
    (case lwyc11 => k_is)
    (case lwyd11 => k_is)
    (case lwyg11 => k_is)
    (case lwya12 => k_is)
    (case lwyb12 => k_is)
    (case lwyc12 => k_is)
    (case lwyd12 => k_is)
    (case lwyg12 => k_is)
    (case lwya13 => k_is)
    (case lwyb13 => k_is)
    (case lwyc13 => k_is)
    (case lwyd13 => k_is)
    (case lwyg13 => k_is)
    (case lwya14 => k_is)
    (case lwyb14 => k_is)
    (case lwyc14 => k_is)
    (case lwyd14 => k_is)
    (case lwyg14 => k_is)
    (case lwya15 => k_is)
    (case lwyb15 => k_is)
    (case lwyc15 => k_is)
    (case lwyd15 => k_is)
    (case lwyg15 => k_is)
    (case lwa5 => k_is)
    (case lwl5 => k_is)
    (case lwc5 => k_is)
    (case lwk5 => k_is)
    (case lwz0 => k_is)
    (case lwz1 => k_is)
    (case lwz2 => k_is)
    (case lwz3 => k_is)
